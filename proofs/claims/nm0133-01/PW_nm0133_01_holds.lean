import PyProof.Rows.All
import Wide.All
import OpenK.AllK
import Wide.FinOn
import Lean
import PySem.Challenge.RW_nm0133_01
open PySem PySem.W PySem.Calls PyProof.Rows
set_option Elab.async false
namespace Mine
set_option maxRecDepth 100000
noncomputable def nth : List Stmt → Nat → Stmt
  | [], _ => default
  | s :: _, 0 => s
  | _ :: l, n + 1 => nth l n
noncomputable def inner : Stmt → List Stmt
  | .ClassDef _ _ _ b _ _ _ _ _ _ _ => b
  | _ => []
noncomputable abbrev fnO {st : Stmt} {n : Str} {a : Arguments} {b : List Stmt} {dl : List PySem.Expr} {r : Option PySem.Expr} {tp : List TypeParam} {sc : Scope} {ts : Option Scope} {bd : Str} {pos : Pos}
    (_ : st = .FunctionDef n a b dl r tp sc ts bd pos) (q : String) (g : Addr) (df pm cd : Value) : Obj :=
  { cls := .type "function", data := .func { name := n, qualname := .ofString q, params := a, body := .stmts b, scope := sc, globals := g, closure := [], defaults := df, kwdefaults := .none, pyModule := pm, code := cd } }
noncomputable def heapK (P : Params) : Frag := 
  (nat_lit 2, { cls := Value.none, data := Data.dict #[{ hash := PyData.keyHash P (Str.ofString "type.__subclasses__.Exception.0"), key := Value.str (Str.ofString "type.__subclasses__.Exception.0") 221, val := Value.int 38 0 }, { hash := PyData.keyHash P (Str.ofString "type.__subclasses__.Exception.n"), key := Value.str (Str.ofString "type.__subclasses__.Exception.n") 222, val := Value.int 1 0 }] 2 }) ::
  (nat_lit 3, { cls := Value.type "dict", data := Data.dict (List.toArray ({ hash := PyData.keyHash P (Str.ofString "__name__"), key := Value.str (Str.ofString "__name__") 165, val := Value.str (Str.ofString "law_nm0133_01") 727 } :: { hash := PyData.keyHash P (Str.ofString "__doc__"), key := Value.str (Str.ofString "__doc__") 166, val := Value.none } :: { hash := PyData.keyHash P (Str.ofString "__package__"), key := Value.str (Str.ofString "__package__") 167, val := Value.none } :: { hash := PyData.keyHash P (Str.ofString "__loader__"), key := Value.str (Str.ofString "__loader__") 168, val := Value.builtin "__main__.__loader__#opaque" } :: { hash := PyData.keyHash P (Str.ofString "__spec__"), key := Value.str (Str.ofString "__spec__") 169, val := Value.none } :: { hash := PyData.keyHash P (Str.ofString "__annotations__"), key := Value.str (Str.ofString "__annotations__") 170, val := Value.ref 6 } :: { hash := PyData.keyHash P (Str.ofString "__builtins__"), key := Value.str (Str.ofString "__builtins__") 171, val := Value.ref 4 } :: { hash := PyData.keyHash P (Str.ofString "__file__"), key := Value.str (Str.ofString "__file__") 173, val := Value.str (Str.ofString "/claim/cut.py") 172 } :: { hash := PyData.keyHash P (Str.ofString "__cached__"), key := Value.str (Str.ofString "__cached__") 174, val := Value.none } :: { hash := PyData.keyHash P (Str.ofString "_wall"), key := Value.str (Str.ofString "_wall") 193, val := Value.ref 21 } :: { hash := PyData.keyHash P (Str.ofString "WasmFault"), key := Value.str (Str.ofString "WasmFault") 224, val := Value.ref 38 } :: { hash := PyData.keyHash P (Str.ofString "Invalid"), key := Value.str (Str.ofString "Invalid") 252, val := Value.ref 58 } :: { hash := PyData.keyHash P (Str.ofString "I32"), key := Value.str (Str.ofString "I32") 257, val := Value.int (-1) 256 } :: { hash := PyData.keyHash P (Str.ofString "I64"), key := Value.str (Str.ofString "I64") 260, val := Value.int (-2) 259 } :: { hash := PyData.keyHash P (Str.ofString "FUNCREF"), key := Value.str (Str.ofString "FUNCREF") 263, val := Value.int (-16) 262 } :: { hash := PyData.keyHash P (Str.ofString "EXTERNREF"), key := Value.str (Str.ofString "EXTERNREF") 266, val := Value.int (-17) 265 } :: { hash := PyData.keyHash P (Str.ofString "FUNCTION"), key := Value.str (Str.ofString "FUNCTION") 268, val := Value.int 0 267 } :: { hash := PyData.keyHash P (Str.ofString "TABLE"), key := Value.str (Str.ofString "TABLE") 270, val := Value.int 1 269 } :: { hash := PyData.keyHash P (Str.ofString "MEMORY"), key := Value.str (Str.ofString "MEMORY") 272, val := Value.int 2 271 } :: { hash := PyData.keyHash P (Str.ofString "GLOBAL"), key := Value.str (Str.ofString "GLOBAL") 274, val := Value.int 3 273 } :: { hash := PyData.keyHash P (Str.ofString "KIND_NAMES"), key := Value.str (Str.ofString "KIND_NAMES") 283, val := Value.ref 61 } :: { hash := PyData.keyHash P (Str.ofString "HEAP_NAMES"), key := Value.str (Str.ofString "HEAP_NAMES") 288, val := Value.ref 62 } :: { hash := PyData.keyHash P (Str.ofString "Sizes"), key := Value.str (Str.ofString "Sizes") 329, val := Value.ref 80 } :: { hash := PyData.keyHash P (Str.ofString "is_kind"), key := Value.str (Str.ofString "is_kind") 336, val := Value.ref 91 } :: { hash := PyData.keyHash P (Str.ofString "is_ref"), key := Value.str (Str.ofString "is_ref") 343, val := Value.ref 98 } :: { hash := PyData.keyHash P (Str.ofString "OUTSIDE"), key := Value.str (Str.ofString "OUTSIDE") 348, val := Value.int (-1) 347 } :: { hash := PyData.keyHash P (Str.ofString "MOST_MEMORIES"), key := Value.str (Str.ofString "MOST_MEMORIES") 350, val := Value.int 1 349 } :: { hash := PyData.keyHash P (Str.ofString "FULL_PAGES"), key := Value.str (Str.ofString "FULL_PAGES") 352, val := Value.int 65536 351 } :: { hash := PyData.keyHash P (Str.ofString "want"), key := Value.str (Str.ofString "want") 360, val := Value.ref 105 } :: { hash := PyData.keyHash P (Str.ofString "want_kinds"), key := Value.str (Str.ofString "want_kinds") 368, val := Value.ref 112 } :: { hash := PyData.keyHash P (Str.ofString "check_limits"), key := Value.str (Str.ofString "check_limits") 378, val := Value.ref 119 } :: { hash := PyData.keyHash P (Str.ofString "pages_text"), key := Value.str (Str.ofString "pages_text") 386, val := Value.ref 126 } :: { hash := PyData.keyHash P (Str.ofString "check_table_kind"), key := Value.str (Str.ofString "check_table_kind") 397, val := Value.ref 133 } :: { hash := PyData.keyHash P (Str.ofString "check_memory_kind"), key := Value.str (Str.ofString "check_memory_kind") 407, val := Value.ref 140 } :: { hash := PyData.keyHash P (Str.ofString "check_global_kind"), key := Value.str (Str.ofString "check_global_kind") 416, val := Value.ref 147 } :: { hash := PyData.keyHash P (Str.ofString "want_type"), key := Value.str (Str.ofString "want_type") 424, val := Value.ref 154 } :: { hash := PyData.keyHash P (Str.ofString "check_types"), key := Value.str (Str.ofString "check_types") 433, val := Value.ref 161 } :: { hash := PyData.keyHash P (Str.ofString "check_import"), key := Value.str (Str.ofString "check_import") 442, val := Value.ref 168 } :: { hash := PyData.keyHash P (Str.ofString "check_heads"), key := Value.str (Str.ofString "check_heads") 453, val := Value.ref 175 } :: { hash := PyData.keyHash P (Str.ofString "Import"), key := Value.str (Str.ofString "Import") 497, val := Value.ref 199 } :: { hash := PyData.keyHash P (Str.ofString "Func"), key := Value.str (Str.ofString "Func") 537, val := Value.ref 227 } :: { hash := PyData.keyHash P (Str.ofString "Global"), key := Value.str (Str.ofString "Global") 577, val := Value.ref 255 } :: { hash := PyData.keyHash P (Str.ofString "Module"), key := Value.str (Str.ofString "Module") 720, val := Value.ref 372 } :: { hash := PyData.keyHash P (Str.ofString "parts_of"), key := Value.str (Str.ofString "parts_of") 726, val := Value.ref 381 } :: { hash := PyData.keyHash P (Str.ofString "_law_take"), key := Value.str (Str.ofString "_law_take") 736, val := Value.ref 388 } :: { hash := PyData.keyHash P (Str.ofString "_law_kind"), key := Value.str (Str.ofString "_law_kind") 743, val := Value.ref 395 } :: { hash := PyData.keyHash P (Str.ofString "_law_some"), key := Value.str (Str.ofString "_law_some") 749, val := Value.ref 400 } :: { hash := PyData.keyHash P (Str.ofString "_law_ends"), key := Value.str (Str.ofString "_law_ends") 757, val := Value.ref 407 } :: { hash := PyData.keyHash P (Str.ofString "_law_table"), key := Value.str (Str.ofString "_law_table") 767, val := Value.ref 414 } :: { hash := PyData.keyHash P (Str.ofString "_law_cell"), key := Value.str (Str.ofString "_law_cell") 774, val := Value.ref 421 } :: { hash := PyData.keyHash P (Str.ofString "_law_import"), key := Value.str (Str.ofString "_law_import") 783, val := Value.ref 428 } :: { hash := PyData.keyHash P (Str.ofString "_law_module"), key := Value.str (Str.ofString "_law_module") 789, val := Value.ref 433 } :: { hash := PyData.keyHash P (Str.ofString "_law_kinds_fault"), key := Value.str (Str.ofString "_law_kinds_fault") 795, val := Value.ref 438 } :: { hash := PyData.keyHash P (Str.ofString "_law_ends_fault"), key := Value.str (Str.ofString "_law_ends_fault") 805, val := Value.ref 445 } :: { hash := PyData.keyHash P (Str.ofString "_law_table_fault"), key := Value.str (Str.ofString "_law_table_fault") 813, val := Value.ref 452 } :: { hash := PyData.keyHash P (Str.ofString "_law_memory_fault"), key := Value.str (Str.ofString "_law_memory_fault") 821, val := Value.ref 459 } :: { hash := PyData.keyHash P (Str.ofString "_law_cell_fault"), key := Value.str (Str.ofString "_law_cell_fault") 828, val := Value.ref 466 } :: { hash := PyData.keyHash P (Str.ofString "_law_import_fault"), key := Value.str (Str.ofString "_law_import_fault") 838, val := Value.ref 473 } :: { hash := PyData.keyHash P (Str.ofString "_law_faults"), key := Value.str (Str.ofString "_law_faults") 844, val := Value.ref 478 } :: { hash := PyData.keyHash P (Str.ofString "law"), key := Value.str (Str.ofString "law") 858, val := Value.ref 485 } :: [])) 60 }) ::
  (nat_lit 15, { cls := Value.type "tuple", data := Data.seq #[] }) ::
  (nat_lit 17, { cls := Value.type "tuple", data := Data.seq #[Value.str (Str.ofString "k") 190] }) ::
  (nat_lit 18, { cls := Value.type "tuple", data := Data.seq #[] }) ::
  (nat_lit 20, { cls := Value.type "code", data := Data.fields #[Value.str (Str.ofString "_wall") 187, Value.str (Str.ofString "_wall") 188, Value.str (Str.ofString "/claim/cut.py") 189, Value.int 1 0, Value.int 1 0, Value.int 0 0, Value.int 0 0, Value.int 3 0, Value.ref 15, Value.bool true, Value.int 181 0, Value.ref 16, Value.none, Value.ref 17, Value.ref 18, Value.ref 19, Value.int 191 0, Value.int 1 0, Value.str (Str.ofString "/claim/cut.py") 192] }) ::
  (nat_lit 21, fnO (rfl : nth PySem.Challenge.pw_nm0133_01.main.body 0 = _) "_wall" 3 (Value.none) (Value.str (Str.ofString "__main__") 164) (Value.ref 20)) ::
  (nat_lit 22, { cls := Value.type "tuple", data := Data.seq #[Value.type "Exception"] }) ::
  (nat_lit 29, { cls := Value.type "tuple", data := Data.seq #[] }) ::
  (nat_lit 31, { cls := Value.type "tuple", data := Data.seq #[Value.str (Str.ofString "self") 211, Value.str (Str.ofString "why") 212] }) ::
  (nat_lit 32, { cls := Value.type "tuple", data := Data.seq #[] }) ::
  (nat_lit 34, { cls := Value.type "code", data := Data.fields #[Value.str (Str.ofString "__init__") 208, Value.str (Str.ofString "WasmFault.__init__") 209, Value.str (Str.ofString "/claim/cut.py") 210, Value.int 7 0, Value.int 2 0, Value.int 0 0, Value.int 0 0, Value.int 3 0, Value.ref 29, Value.bool true, Value.int 181 0, Value.ref 30, Value.none, Value.ref 31, Value.ref 32, Value.ref 33, Value.int 213 0, Value.int 7 0, Value.str (Str.ofString "/claim/cut.py") 214] }) ::
  (nat_lit 35, fnO (rfl : nth (inner (nth PySem.Challenge.pw_nm0133_01.main.body 2)) 0 = _) "WasmFault.__init__" 3 (Value.none) (Value.str (Str.ofString "wasmcore.faults") 194) (Value.ref 34)) ::
  (nat_lit 36, { cls := Value.type "tuple", data := Data.seq #[Value.str (Str.ofString "why") 216] }) ::
  (nat_lit 37, { cls := Value.type "dict", data := Data.dict #[{ hash := PyData.keyHash P (Str.ofString "__module__"), key := Value.str (Str.ofString "__module__") 203, val := Value.str (Str.ofString "wasmcore.faults") 194 }, { hash := PyData.keyHash P (Str.ofString "__firstlineno__"), key := Value.str (Str.ofString "__firstlineno__") 207, val := Value.int 5 206 }, { hash := PyData.keyHash P (Str.ofString "__init__"), key := Value.str (Str.ofString "__init__") 215, val := Value.ref 35 }, { hash := PyData.keyHash P (Str.ofString "__static_attributes__"), key := Value.str (Str.ofString "__static_attributes__") 217, val := Value.ref 36 }, { hash := PyData.keyHash P (Str.ofString "__weakref__"), key := Value.str (Str.ofString "__weakref__") 219, val := Value.ref 39 }, { hash := PyData.keyHash P (Str.ofString "__doc__"), key := Value.str (Str.ofString "__doc__") 220, val := Value.none }] 3 }) ::
  (nat_lit 38, { cls := Value.type "type", data := Data.cls { name := Str.ofString "WasmFault", bases := [Value.type "Exception"], mro := [Value.ref 38, Value.type "Exception", Value.type "BaseException", Value.type "object"], ns := 37, qualname := Str.ofString "WasmFault", subclasses := [Value.ref 58] }, slots := #[some (Value.ref 22), none, some (Value.str (Str.ofString "WasmFault") 196), some (Value.str (Str.ofString "WasmFault") 204), some (Value.builtin "Exception.__new__"), some (Value.bool true)] }) ::
  (nat_lit 39, { cls := Value.type "getset_descriptor", data := Data.fields #[Value.str (Str.ofString "__weakref__") 218, Value.ref 38, Value.builtin "ExceptionGroup.__weakref__", Value.none] }) ::
  (nat_lit 42, { cls := Value.type "tuple", data := Data.seq #[Value.ref 38] }) ::
  (nat_lit 49, { cls := Value.type "tuple", data := Data.seq #[] }) ::
  (nat_lit 51, { cls := Value.type "tuple", data := Data.seq #[Value.str (Str.ofString "self") 240, Value.str (Str.ofString "why") 241, Value.str (Str.ofString "function") 242, Value.str (Str.ofString "at") 243] }) ::
  (nat_lit 52, { cls := Value.type "tuple", data := Data.seq #[] }) ::
  (nat_lit 54, { cls := Value.type "code", data := Data.fields #[Value.str (Str.ofString "__init__") 237, Value.str (Str.ofString "Invalid.__init__") 238, Value.str (Str.ofString "/claim/cut.py") 239, Value.int 12 0, Value.int 4 0, Value.int 0 0, Value.int 0 0, Value.int 3 0, Value.ref 49, Value.bool true, Value.int 181 0, Value.ref 50, Value.none, Value.ref 51, Value.ref 52, Value.ref 53, Value.int 244 0, Value.int 12 0, Value.str (Str.ofString "/claim/cut.py") 245] }) ::
  (nat_lit 55, fnO (rfl : nth (inner (nth PySem.Challenge.pw_nm0133_01.main.body 3)) 0 = _) "Invalid.__init__" 3 (Value.none) (Value.str (Str.ofString "wasmcore.faults") 194) (Value.ref 54)) ::
  (nat_lit 56, { cls := Value.type "tuple", data := Data.seq #[Value.str (Str.ofString "at") 247, Value.str (Str.ofString "function") 248] }) ::
  (nat_lit 57, { cls := Value.type "dict", data := Data.dict #[{ hash := PyData.keyHash P (Str.ofString "__module__"), key := Value.str (Str.ofString "__module__") 232, val := Value.str (Str.ofString "wasmcore.faults") 194 }, { hash := PyData.keyHash P (Str.ofString "__firstlineno__"), key := Value.str (Str.ofString "__firstlineno__") 236, val := Value.int 10 235 }, { hash := PyData.keyHash P (Str.ofString "__init__"), key := Value.str (Str.ofString "__init__") 246, val := Value.ref 55 }, { hash := PyData.keyHash P (Str.ofString "__static_attributes__"), key := Value.str (Str.ofString "__static_attributes__") 249, val := Value.ref 56 }, { hash := PyData.keyHash P (Str.ofString "__doc__"), key := Value.str (Str.ofString "__doc__") 250, val := Value.none }] 2 }) ::
  (nat_lit 58, { cls := Value.type "type", data := Data.cls { name := Str.ofString "Invalid", bases := [Value.ref 38], mro := [Value.ref 58, Value.ref 38, Value.type "Exception", Value.type "BaseException", Value.type "object"], ns := 57, qualname := Str.ofString "Invalid" }, slots := #[some (Value.ref 42), none, some (Value.str (Str.ofString "Invalid") 225), some (Value.str (Str.ofString "Invalid") 233), some (Value.builtin "Exception.__new__"), some (Value.bool true)] }) ::
  (nat_lit 61, { cls := Value.type "dict", data := Data.dict #[{ hash := -2, key := Value.int (-1) 256, val := Value.str (Str.ofString "i32") 275 }, { hash := -2, key := Value.int (-2) 259, val := Value.str (Str.ofString "i64") 276 }, { hash := -16, key := Value.int (-16) 262, val := Value.str (Str.ofString "funcref") 277 }, { hash := -17, key := Value.int (-17) 265, val := Value.str (Str.ofString "externref") 278 }] 4 }) ::
  (nat_lit 62, { cls := Value.type "dict", data := Data.dict #[{ hash := -16, key := Value.int (-16) 262, val := Value.str (Str.ofString "func") 284 }, { hash := -17, key := Value.int (-17) 265, val := Value.str (Str.ofString "extern") 285 }] 2 }) ::
  (nat_lit 70, { cls := Value.type "tuple", data := Data.seq #[Value.int 65536 301, Value.int 65536 302, Value.int 4294967295 303, Value.int 200 304, Value.none] }) ::
  (nat_lit 71, { cls := Value.type "tuple", data := Data.seq #[] }) ::
  (nat_lit 73, { cls := Value.type "tuple", data := Data.seq #[Value.str (Str.ofString "self") 308, Value.str (Str.ofString "page") 309, Value.str (Str.ofString "pages") 310, Value.str (Str.ofString "elements") 311, Value.str (Str.ofString "depth") 312, Value.str (Str.ofString "fuel") 313] }) ::
  (nat_lit 74, { cls := Value.type "tuple", data := Data.seq #[] }) ::
  (nat_lit 76, { cls := Value.type "code", data := Data.fields #[Value.str (Str.ofString "__init__") 305, Value.str (Str.ofString "Sizes.__init__") 306, Value.str (Str.ofString "/claim/cut.py") 307, Value.int 29 0, Value.int 6 0, Value.int 0 0, Value.int 0 0, Value.int 3 0, Value.ref 71, Value.bool true, Value.int 181 0, Value.ref 72, Value.none, Value.ref 73, Value.ref 74, Value.ref 75, Value.int 314 0, Value.int 29 0, Value.str (Str.ofString "/claim/cut.py") 315] }) ::
  (nat_lit 77, fnO (rfl : nth (inner (nth PySem.Challenge.pw_nm0133_01.main.body 15)) 0 = _) "Sizes.__init__" 3 (Value.ref 70) (Value.str (Str.ofString "wasmcore.kinds") 253) (Value.ref 76)) ::
  (nat_lit 78, { cls := Value.type "tuple", data := Data.seq #[Value.str (Str.ofString "depth") 317, Value.str (Str.ofString "elements") 318, Value.str (Str.ofString "fuel") 319, Value.str (Str.ofString "page") 320, Value.str (Str.ofString "pages") 321] }) ::
  (nat_lit 79, { cls := Value.type "dict", data := Data.dict #[{ hash := PyData.keyHash P (Str.ofString "__module__"), key := Value.str (Str.ofString "__module__") 296, val := Value.str (Str.ofString "wasmcore.kinds") 253 }, { hash := PyData.keyHash P (Str.ofString "__firstlineno__"), key := Value.str (Str.ofString "__firstlineno__") 300, val := Value.int 27 299 }, { hash := PyData.keyHash P (Str.ofString "__init__"), key := Value.str (Str.ofString "__init__") 316, val := Value.ref 77 }, { hash := PyData.keyHash P (Str.ofString "__static_attributes__"), key := Value.str (Str.ofString "__static_attributes__") 322, val := Value.ref 78 }, { hash := PyData.keyHash P (Str.ofString "__dict__"), key := Value.str (Str.ofString "__dict__") 324, val := Value.ref 81 }, { hash := PyData.keyHash P (Str.ofString "__weakref__"), key := Value.str (Str.ofString "__weakref__") 326, val := Value.ref 82 }, { hash := PyData.keyHash P (Str.ofString "__doc__"), key := Value.str (Str.ofString "__doc__") 327, val := Value.none }] 4 }) ::
  (nat_lit 80, { cls := Value.type "type", data := Data.cls { name := Str.ofString "Sizes", bases := [Value.type "object"], mro := [Value.ref 80, Value.type "object"], ns := 79, qualname := Str.ofString "Sizes" }, slots := #[none, none, some (Value.str (Str.ofString "Sizes") 289), some (Value.str (Str.ofString "Sizes") 297), some (Value.builtin "object.__new__"), some (Value.bool true)] }) ::
  (nat_lit 81, { cls := Value.type "getset_descriptor", data := Data.fields #[Value.str (Str.ofString "__dict__") 323, Value.ref 80, Value.builtin "function.__dict__", Value.builtin "function.__dict__#set"] }) ::
  (nat_lit 82, { cls := Value.type "getset_descriptor", data := Data.fields #[Value.str (Str.ofString "__weakref__") 325, Value.ref 80, Value.builtin "ExceptionGroup.__weakref__", Value.none] }) ::
  (nat_lit 85, { cls := Value.type "tuple", data := Data.seq #[] }) ::
  (nat_lit 87, { cls := Value.type "tuple", data := Data.seq #[Value.str (Str.ofString "kind") 333] }) ::
  (nat_lit 88, { cls := Value.type "tuple", data := Data.seq #[] }) ::
  (nat_lit 90, { cls := Value.type "code", data := Data.fields #[Value.str (Str.ofString "is_kind") 330, Value.str (Str.ofString "is_kind") 331, Value.str (Str.ofString "/claim/cut.py") 332, Value.int 35 0, Value.int 1 0, Value.int 0 0, Value.int 0 0, Value.int 3 0, Value.ref 85, Value.bool true, Value.int 181 0, Value.ref 86, Value.none, Value.ref 87, Value.ref 88, Value.ref 89, Value.int 334 0, Value.int 35 0, Value.str (Str.ofString "/claim/cut.py") 335] }) ::
  (nat_lit 91, fnO (rfl : nth PySem.Challenge.pw_nm0133_01.main.body 16 = _) "is_kind" 3 (Value.none) (Value.str (Str.ofString "wasmcore.kinds") 253) (Value.ref 90)) ::
  (nat_lit 92, { cls := Value.type "tuple", data := Data.seq #[] }) ::
  (nat_lit 94, { cls := Value.type "tuple", data := Data.seq #[Value.str (Str.ofString "kind") 340] }) ::
  (nat_lit 95, { cls := Value.type "tuple", data := Data.seq #[] }) ::
  (nat_lit 97, { cls := Value.type "code", data := Data.fields #[Value.str (Str.ofString "is_ref") 337, Value.str (Str.ofString "is_ref") 338, Value.str (Str.ofString "/claim/cut.py") 339, Value.int 37 0, Value.int 1 0, Value.int 0 0, Value.int 0 0, Value.int 3 0, Value.ref 92, Value.bool true, Value.int 181 0, Value.ref 93, Value.none, Value.ref 94, Value.ref 95, Value.ref 96, Value.int 341 0, Value.int 37 0, Value.str (Str.ofString "/claim/cut.py") 342] }) ::
  (nat_lit 98, fnO (rfl : nth PySem.Challenge.pw_nm0133_01.main.body 17 = _) "is_ref" 3 (Value.none) (Value.str (Str.ofString "wasmcore.kinds") 253) (Value.ref 97)) ::
  (nat_lit 99, { cls := Value.type "tuple", data := Data.seq #[] }) ::
  (nat_lit 101, { cls := Value.type "tuple", data := Data.seq #[Value.str (Str.ofString "is_so") 356, Value.str (Str.ofString "why") 357] }) ::
  (nat_lit 102, { cls := Value.type "tuple", data := Data.seq #[] }) ::
  (nat_lit 104, { cls := Value.type "code", data := Data.fields #[Value.str (Str.ofString "want") 353, Value.str (Str.ofString "want") 354, Value.str (Str.ofString "/claim/cut.py") 355, Value.int 43 0, Value.int 2 0, Value.int 0 0, Value.int 0 0, Value.int 3 0, Value.ref 99, Value.bool true, Value.int 181 0, Value.ref 100, Value.none, Value.ref 101, Value.ref 102, Value.ref 103, Value.int 358 0, Value.int 43 0, Value.str (Str.ofString "/claim/cut.py") 359] }) ::
  (nat_lit 105, fnO (rfl : nth PySem.Challenge.pw_nm0133_01.main.body 22 = _) "want" 3 (Value.none) (Value.str (Str.ofString "wasmcore.heads") 344) (Value.ref 104)) ::
  (nat_lit 106, { cls := Value.type "tuple", data := Data.seq #[] }) ::
  (nat_lit 108, { cls := Value.type "tuple", data := Data.seq #[Value.str (Str.ofString "kinds") 364, Value.str (Str.ofString "kind") 365] }) ::
  (nat_lit 109, { cls := Value.type "tuple", data := Data.seq #[] }) ::
  (nat_lit 111, { cls := Value.type "code", data := Data.fields #[Value.str (Str.ofString "want_kinds") 361, Value.str (Str.ofString "want_kinds") 362, Value.str (Str.ofString "/claim/cut.py") 363, Value.int 46 0, Value.int 1 0, Value.int 0 0, Value.int 0 0, Value.int 3 0, Value.ref 106, Value.bool true, Value.int 181 0, Value.ref 107, Value.none, Value.ref 108, Value.ref 109, Value.ref 110, Value.int 366 0, Value.int 46 0, Value.str (Str.ofString "/claim/cut.py") 367] }) ::
  (nat_lit 112, fnO (rfl : nth PySem.Challenge.pw_nm0133_01.main.body 23 = _) "want_kinds" 3 (Value.none) (Value.str (Str.ofString "wasmcore.heads") 344) (Value.ref 111)) ::
  (nat_lit 113, { cls := Value.type "tuple", data := Data.seq #[] }) ::
  (nat_lit 115, { cls := Value.type "tuple", data := Data.seq #[Value.str (Str.ofString "least") 372, Value.str (Str.ofString "most") 373, Value.str (Str.ofString "greatest") 374, Value.str (Str.ofString "why") 375] }) ::
  (nat_lit 116, { cls := Value.type "tuple", data := Data.seq #[] }) ::
  (nat_lit 118, { cls := Value.type "code", data := Data.fields #[Value.str (Str.ofString "check_limits") 369, Value.str (Str.ofString "check_limits") 370, Value.str (Str.ofString "/claim/cut.py") 371, Value.int 49 0, Value.int 4 0, Value.int 0 0, Value.int 0 0, Value.int 3 0, Value.ref 113, Value.bool true, Value.int 181 0, Value.ref 114, Value.none, Value.ref 115, Value.ref 116, Value.ref 117, Value.int 376 0, Value.int 49 0, Value.str (Str.ofString "/claim/cut.py") 377] }) ::
  (nat_lit 119, fnO (rfl : nth PySem.Challenge.pw_nm0133_01.main.body 24 = _) "check_limits" 3 (Value.none) (Value.str (Str.ofString "wasmcore.heads") 344) (Value.ref 118)) ::
  (nat_lit 120, { cls := Value.type "tuple", data := Data.seq #[] }) ::
  (nat_lit 122, { cls := Value.type "tuple", data := Data.seq #[Value.str (Str.ofString "sizes") 382, Value.str (Str.ofString "more") 383] }) ::
  (nat_lit 123, { cls := Value.type "tuple", data := Data.seq #[] }) ::
  (nat_lit 125, { cls := Value.type "code", data := Data.fields #[Value.str (Str.ofString "pages_text") 379, Value.str (Str.ofString "pages_text") 380, Value.str (Str.ofString "/claim/cut.py") 381, Value.int 54 0, Value.int 1 0, Value.int 0 0, Value.int 0 0, Value.int 3 0, Value.ref 120, Value.bool true, Value.int 181 0, Value.ref 121, Value.none, Value.ref 122, Value.ref 123, Value.ref 124, Value.int 384 0, Value.int 54 0, Value.str (Str.ofString "/claim/cut.py") 385] }) ::
  (nat_lit 126, fnO (rfl : nth PySem.Challenge.pw_nm0133_01.main.body 25 = _) "pages_text" 3 (Value.none) (Value.str (Str.ofString "wasmcore.heads") 344) (Value.ref 125)) ::
  (nat_lit 127, { cls := Value.type "tuple", data := Data.seq #[] }) ::
  (nat_lit 129, { cls := Value.type "tuple", data := Data.seq #[Value.str (Str.ofString "about") 390, Value.str (Str.ofString "sizes") 391, Value.str (Str.ofString "kind") 392, Value.str (Str.ofString "least") 393, Value.str (Str.ofString "most") 394] }) ::
  (nat_lit 130, { cls := Value.type "tuple", data := Data.seq #[] }) ::
  (nat_lit 132, { cls := Value.type "code", data := Data.fields #[Value.str (Str.ofString "check_table_kind") 387, Value.str (Str.ofString "check_table_kind") 388, Value.str (Str.ofString "/claim/cut.py") 389, Value.int 57 0, Value.int 2 0, Value.int 0 0, Value.int 0 0, Value.int 3 0, Value.ref 127, Value.bool true, Value.int 181 0, Value.ref 128, Value.none, Value.ref 129, Value.ref 130, Value.ref 131, Value.int 395 0, Value.int 57 0, Value.str (Str.ofString "/claim/cut.py") 396] }) ::
  (nat_lit 133, fnO (rfl : nth PySem.Challenge.pw_nm0133_01.main.body 26 = _) "check_table_kind" 3 (Value.none) (Value.str (Str.ofString "wasmcore.heads") 344) (Value.ref 132)) ::
  (nat_lit 134, { cls := Value.type "tuple", data := Data.seq #[] }) ::
  (nat_lit 136, { cls := Value.type "tuple", data := Data.seq #[Value.str (Str.ofString "about") 401, Value.str (Str.ofString "sizes") 402, Value.str (Str.ofString "least") 403, Value.str (Str.ofString "most") 404] }) ::
  (nat_lit 137, { cls := Value.type "tuple", data := Data.seq #[] }) ::
  (nat_lit 139, { cls := Value.type "code", data := Data.fields #[Value.str (Str.ofString "check_memory_kind") 398, Value.str (Str.ofString "check_memory_kind") 399, Value.str (Str.ofString "/claim/cut.py") 400, Value.int 61 0, Value.int 2 0, Value.int 0 0, Value.int 0 0, Value.int 3 0, Value.ref 134, Value.bool true, Value.int 181 0, Value.ref 135, Value.none, Value.ref 136, Value.ref 137, Value.ref 138, Value.int 405 0, Value.int 61 0, Value.str (Str.ofString "/claim/cut.py") 406] }) ::
  (nat_lit 140, fnO (rfl : nth PySem.Challenge.pw_nm0133_01.main.body 27 = _) "check_memory_kind" 3 (Value.none) (Value.str (Str.ofString "wasmcore.heads") 344) (Value.ref 139)) ::
  (nat_lit 141, { cls := Value.type "tuple", data := Data.seq #[] }) ::
  (nat_lit 143, { cls := Value.type "tuple", data := Data.seq #[Value.str (Str.ofString "about") 411, Value.str (Str.ofString "kind") 412, Value.str (Str.ofString "mutable") 413] }) ::
  (nat_lit 144, { cls := Value.type "tuple", data := Data.seq #[] }) ::
  (nat_lit 146, { cls := Value.type "code", data := Data.fields #[Value.str (Str.ofString "check_global_kind") 408, Value.str (Str.ofString "check_global_kind") 409, Value.str (Str.ofString "/claim/cut.py") 410, Value.int 64 0, Value.int 1 0, Value.int 0 0, Value.int 0 0, Value.int 3 0, Value.ref 141, Value.bool true, Value.int 181 0, Value.ref 142, Value.none, Value.ref 143, Value.ref 144, Value.ref 145, Value.int 414 0, Value.int 64 0, Value.str (Str.ofString "/claim/cut.py") 415] }) ::
  (nat_lit 147, fnO (rfl : nth PySem.Challenge.pw_nm0133_01.main.body 28 = _) "check_global_kind" 3 (Value.none) (Value.str (Str.ofString "wasmcore.heads") 344) (Value.ref 146)) ::
  (nat_lit 148, { cls := Value.type "tuple", data := Data.seq #[] }) ::
  (nat_lit 150, { cls := Value.type "tuple", data := Data.seq #[Value.str (Str.ofString "module") 420, Value.str (Str.ofString "index") 421] }) ::
  (nat_lit 151, { cls := Value.type "tuple", data := Data.seq #[] }) ::
  (nat_lit 153, { cls := Value.type "code", data := Data.fields #[Value.str (Str.ofString "want_type") 417, Value.str (Str.ofString "want_type") 418, Value.str (Str.ofString "/claim/cut.py") 419, Value.int 68 0, Value.int 2 0, Value.int 0 0, Value.int 0 0, Value.int 3 0, Value.ref 148, Value.bool true, Value.int 181 0, Value.ref 149, Value.none, Value.ref 150, Value.ref 151, Value.ref 152, Value.int 422 0, Value.int 68 0, Value.str (Str.ofString "/claim/cut.py") 423] }) ::
  (nat_lit 154, fnO (rfl : nth PySem.Challenge.pw_nm0133_01.main.body 29 = _) "want_type" 3 (Value.none) (Value.str (Str.ofString "wasmcore.heads") 344) (Value.ref 153)) ::
  (nat_lit 155, { cls := Value.type "tuple", data := Data.seq #[] }) ::
  (nat_lit 157, { cls := Value.type "tuple", data := Data.seq #[Value.str (Str.ofString "module") 428, Value.str (Str.ofString "params") 429, Value.str (Str.ofString "results") 430] }) ::
  (nat_lit 158, { cls := Value.type "tuple", data := Data.seq #[] }) ::
  (nat_lit 160, { cls := Value.type "code", data := Data.fields #[Value.str (Str.ofString "check_types") 425, Value.str (Str.ofString "check_types") 426, Value.str (Str.ofString "/claim/cut.py") 427, Value.int 70 0, Value.int 1 0, Value.int 0 0, Value.int 0 0, Value.int 3 0, Value.ref 155, Value.bool true, Value.int 181 0, Value.ref 156, Value.none, Value.ref 157, Value.ref 158, Value.ref 159, Value.int 431 0, Value.int 70 0, Value.str (Str.ofString "/claim/cut.py") 432] }) ::
  (nat_lit 161, fnO (rfl : nth PySem.Challenge.pw_nm0133_01.main.body 30 = _) "check_types" 3 (Value.none) (Value.str (Str.ofString "wasmcore.heads") 344) (Value.ref 160)) ::
  (nat_lit 162, { cls := Value.type "tuple", data := Data.seq #[] }) ::
  (nat_lit 164, { cls := Value.type "tuple", data := Data.seq #[Value.str (Str.ofString "module") 437, Value.str (Str.ofString "entry") 438, Value.str (Str.ofString "sizes") 439] }) ::
  (nat_lit 165, { cls := Value.type "tuple", data := Data.seq #[] }) ::
  (nat_lit 167, { cls := Value.type "code", data := Data.fields #[Value.str (Str.ofString "check_import") 434, Value.str (Str.ofString "check_import") 435, Value.str (Str.ofString "/claim/cut.py") 436, Value.int 74 0, Value.int 3 0, Value.int 0 0, Value.int 0 0, Value.int 3 0, Value.ref 162, Value.bool true, Value.int 181 0, Value.ref 163, Value.none, Value.ref 164, Value.ref 165, Value.ref 166, Value.int 440 0, Value.int 74 0, Value.str (Str.ofString "/claim/cut.py") 441] }) ::
  (nat_lit 168, fnO (rfl : nth PySem.Challenge.pw_nm0133_01.main.body 31 = _) "check_import" 3 (Value.none) (Value.str (Str.ofString "wasmcore.heads") 344) (Value.ref 167)) ::
  (nat_lit 169, { cls := Value.type "tuple", data := Data.seq #[] }) ::
  (nat_lit 171, { cls := Value.type "tuple", data := Data.seq #[Value.str (Str.ofString "module") 446, Value.str (Str.ofString "sizes") 447, Value.str (Str.ofString "entry") 448, Value.str (Str.ofString "func") 449, Value.str (Str.ofString "about") 450] }) ::
  (nat_lit 172, { cls := Value.type "tuple", data := Data.seq #[] }) ::
  (nat_lit 174, { cls := Value.type "code", data := Data.fields #[Value.str (Str.ofString "check_heads") 443, Value.str (Str.ofString "check_heads") 444, Value.str (Str.ofString "/claim/cut.py") 445, Value.int 84 0, Value.int 2 0, Value.int 0 0, Value.int 0 0, Value.int 3 0, Value.ref 169, Value.bool true, Value.int 181 0, Value.ref 170, Value.none, Value.ref 171, Value.ref 172, Value.ref 173, Value.int 451 0, Value.int 84 0, Value.str (Str.ofString "/claim/cut.py") 452] }) ::
  (nat_lit 175, fnO (rfl : nth PySem.Challenge.pw_nm0133_01.main.body 32 = _) "check_heads" 3 (Value.none) (Value.str (Str.ofString "wasmcore.heads") 344) (Value.ref 174)) ::
  (nat_lit 183, { cls := Value.type "tuple", data := Data.seq #[] }) ::
  (nat_lit 185, { cls := Value.type "tuple", data := Data.seq #[Value.str (Str.ofString "self") 471, Value.str (Str.ofString "place") 472, Value.str (Str.ofString "name") 473, Value.str (Str.ofString "sort") 474, Value.str (Str.ofString "about") 475] }) ::
  (nat_lit 186, { cls := Value.type "tuple", data := Data.seq #[] }) ::
  (nat_lit 188, { cls := Value.type "code", data := Data.fields #[Value.str (Str.ofString "__init__") 468, Value.str (Str.ofString "Import.__init__") 469, Value.str (Str.ofString "/claim/cut.py") 470, Value.int 101 0, Value.int 5 0, Value.int 0 0, Value.int 0 0, Value.int 3 0, Value.ref 183, Value.bool true, Value.int 181 0, Value.ref 184, Value.none, Value.ref 185, Value.ref 186, Value.ref 187, Value.int 476 0, Value.int 101 0, Value.str (Str.ofString "/claim/cut.py") 477] }) ::
  (nat_lit 189, fnO (rfl : nth (inner (nth PySem.Challenge.pw_nm0133_01.main.body 34)) 0 = _) "Import.__init__" 3 (Value.none) (Value.str (Str.ofString "wasmcore.modules") 454) (Value.ref 188)) ::
  (nat_lit 190, { cls := Value.type "tuple", data := Data.seq #[] }) ::
  (nat_lit 192, { cls := Value.type "tuple", data := Data.seq #[Value.str (Str.ofString "self") 482] }) ::
  (nat_lit 193, { cls := Value.type "tuple", data := Data.seq #[] }) ::
  (nat_lit 195, { cls := Value.type "code", data := Data.fields #[Value.str (Str.ofString "plain") 479, Value.str (Str.ofString "Import.plain") 480, Value.str (Str.ofString "/claim/cut.py") 481, Value.int 107 0, Value.int 1 0, Value.int 0 0, Value.int 0 0, Value.int 3 0, Value.ref 190, Value.bool true, Value.int 181 0, Value.ref 191, Value.none, Value.ref 192, Value.ref 193, Value.ref 194, Value.int 483 0, Value.int 107 0, Value.str (Str.ofString "/claim/cut.py") 484] }) ::
  (nat_lit 196, fnO (rfl : nth (inner (nth PySem.Challenge.pw_nm0133_01.main.body 34)) 1 = _) "Import.plain" 3 (Value.none) (Value.str (Str.ofString "wasmcore.modules") 454) (Value.ref 195)) ::
  (nat_lit 197, { cls := Value.type "tuple", data := Data.seq #[Value.str (Str.ofString "about") 486, Value.str (Str.ofString "name") 487, Value.str (Str.ofString "place") 488, Value.str (Str.ofString "sort") 489] }) ::
  (nat_lit 198, { cls := Value.type "dict", data := Data.dict #[{ hash := PyData.keyHash P (Str.ofString "__module__"), key := Value.str (Str.ofString "__module__") 463, val := Value.str (Str.ofString "wasmcore.modules") 454 }, { hash := PyData.keyHash P (Str.ofString "__firstlineno__"), key := Value.str (Str.ofString "__firstlineno__") 467, val := Value.int 99 466 }, { hash := PyData.keyHash P (Str.ofString "__init__"), key := Value.str (Str.ofString "__init__") 478, val := Value.ref 189 }, { hash := PyData.keyHash P (Str.ofString "plain"), key := Value.str (Str.ofString "plain") 485, val := Value.ref 196 }, { hash := PyData.keyHash P (Str.ofString "__static_attributes__"), key := Value.str (Str.ofString "__static_attributes__") 490, val := Value.ref 197 }, { hash := PyData.keyHash P (Str.ofString "__dict__"), key := Value.str (Str.ofString "__dict__") 492, val := Value.ref 200 }, { hash := PyData.keyHash P (Str.ofString "__weakref__"), key := Value.str (Str.ofString "__weakref__") 494, val := Value.ref 201 }, { hash := PyData.keyHash P (Str.ofString "__doc__"), key := Value.str (Str.ofString "__doc__") 495, val := Value.none }] 4 }) ::
  (nat_lit 199, { cls := Value.type "type", data := Data.cls { name := Str.ofString "Import", bases := [Value.type "object"], mro := [Value.ref 199, Value.type "object"], ns := 198, qualname := Str.ofString "Import" }, slots := #[none, none, some (Value.str (Str.ofString "Import") 456), some (Value.str (Str.ofString "Import") 464), some (Value.builtin "object.__new__"), some (Value.bool true)] }) ::
  (nat_lit 200, { cls := Value.type "getset_descriptor", data := Data.fields #[Value.str (Str.ofString "__dict__") 491, Value.ref 199, Value.builtin "function.__dict__", Value.builtin "function.__dict__#set"] }) ::
  (nat_lit 201, { cls := Value.type "getset_descriptor", data := Data.fields #[Value.str (Str.ofString "__weakref__") 493, Value.ref 199, Value.builtin "ExceptionGroup.__weakref__", Value.none] }) ::
  (nat_lit 211, { cls := Value.type "tuple", data := Data.seq #[] }) ::
  (nat_lit 213, { cls := Value.type "tuple", data := Data.seq #[Value.str (Str.ofString "self") 513, Value.str (Str.ofString "kind") 514, Value.str (Str.ofString "locals_now") 515, Value.str (Str.ofString "body") 516] }) ::
  (nat_lit 214, { cls := Value.type "tuple", data := Data.seq #[] }) ::
  (nat_lit 216, { cls := Value.type "code", data := Data.fields #[Value.str (Str.ofString "__init__") 510, Value.str (Str.ofString "Func.__init__") 511, Value.str (Str.ofString "/claim/cut.py") 512, Value.int 111 0, Value.int 4 0, Value.int 0 0, Value.int 0 0, Value.int 3 0, Value.ref 211, Value.bool true, Value.int 181 0, Value.ref 212, Value.none, Value.ref 213, Value.ref 214, Value.ref 215, Value.int 517 0, Value.int 111 0, Value.str (Str.ofString "/claim/cut.py") 518] }) ::
  (nat_lit 217, fnO (rfl : nth (inner (nth PySem.Challenge.pw_nm0133_01.main.body 35)) 0 = _) "Func.__init__" 3 (Value.none) (Value.str (Str.ofString "wasmcore.modules") 454) (Value.ref 216)) ::
  (nat_lit 218, { cls := Value.type "tuple", data := Data.seq #[] }) ::
  (nat_lit 220, { cls := Value.type "tuple", data := Data.seq #[Value.str (Str.ofString "self") 523] }) ::
  (nat_lit 221, { cls := Value.type "tuple", data := Data.seq #[] }) ::
  (nat_lit 223, { cls := Value.type "code", data := Data.fields #[Value.str (Str.ofString "plain") 520, Value.str (Str.ofString "Func.plain") 521, Value.str (Str.ofString "/claim/cut.py") 522, Value.int 116 0, Value.int 1 0, Value.int 0 0, Value.int 0 0, Value.int 3 0, Value.ref 218, Value.bool true, Value.int 181 0, Value.ref 219, Value.none, Value.ref 220, Value.ref 221, Value.ref 222, Value.int 524 0, Value.int 116 0, Value.str (Str.ofString "/claim/cut.py") 525] }) ::
  (nat_lit 224, fnO (rfl : nth (inner (nth PySem.Challenge.pw_nm0133_01.main.body 35)) 1 = _) "Func.plain" 3 (Value.none) (Value.str (Str.ofString "wasmcore.modules") 454) (Value.ref 223)) ::
  (nat_lit 225, { cls := Value.type "tuple", data := Data.seq #[Value.str (Str.ofString "body") 527, Value.str (Str.ofString "kind") 528, Value.str (Str.ofString "locals") 529] }) ::
  (nat_lit 226, { cls := Value.type "dict", data := Data.dict #[{ hash := PyData.keyHash P (Str.ofString "__module__"), key := Value.str (Str.ofString "__module__") 505, val := Value.str (Str.ofString "wasmcore.modules") 454 }, { hash := PyData.keyHash P (Str.ofString "__firstlineno__"), key := Value.str (Str.ofString "__firstlineno__") 509, val := Value.int 109 508 }, { hash := PyData.keyHash P (Str.ofString "__init__"), key := Value.str (Str.ofString "__init__") 519, val := Value.ref 217 }, { hash := PyData.keyHash P (Str.ofString "plain"), key := Value.str (Str.ofString "plain") 526, val := Value.ref 224 }, { hash := PyData.keyHash P (Str.ofString "__static_attributes__"), key := Value.str (Str.ofString "__static_attributes__") 530, val := Value.ref 225 }, { hash := PyData.keyHash P (Str.ofString "__dict__"), key := Value.str (Str.ofString "__dict__") 532, val := Value.ref 228 }, { hash := PyData.keyHash P (Str.ofString "__weakref__"), key := Value.str (Str.ofString "__weakref__") 534, val := Value.ref 229 }, { hash := PyData.keyHash P (Str.ofString "__doc__"), key := Value.str (Str.ofString "__doc__") 535, val := Value.none }] 4 }) ::
  (nat_lit 227, { cls := Value.type "type", data := Data.cls { name := Str.ofString "Func", bases := [Value.type "object"], mro := [Value.ref 227, Value.type "object"], ns := 226, qualname := Str.ofString "Func" }, slots := #[none, none, some (Value.str (Str.ofString "Func") 498), some (Value.str (Str.ofString "Func") 506), some (Value.builtin "object.__new__"), some (Value.bool true)] }) ::
  (nat_lit 228, { cls := Value.type "getset_descriptor", data := Data.fields #[Value.str (Str.ofString "__dict__") 531, Value.ref 227, Value.builtin "function.__dict__", Value.builtin "function.__dict__#set"] }) ::
  (nat_lit 229, { cls := Value.type "getset_descriptor", data := Data.fields #[Value.str (Str.ofString "__weakref__") 533, Value.ref 227, Value.builtin "ExceptionGroup.__weakref__", Value.none] }) ::
  (nat_lit 239, { cls := Value.type "tuple", data := Data.seq #[] }) ::
  (nat_lit 241, { cls := Value.type "tuple", data := Data.seq #[Value.str (Str.ofString "self") 553, Value.str (Str.ofString "kind") 554, Value.str (Str.ofString "mutable") 555, Value.str (Str.ofString "body") 556] }) ::
  (nat_lit 242, { cls := Value.type "tuple", data := Data.seq #[] }) ::
  (nat_lit 244, { cls := Value.type "code", data := Data.fields #[Value.str (Str.ofString "__init__") 550, Value.str (Str.ofString "Global.__init__") 551, Value.str (Str.ofString "/claim/cut.py") 552, Value.int 120 0, Value.int 4 0, Value.int 0 0, Value.int 0 0, Value.int 3 0, Value.ref 239, Value.bool true, Value.int 181 0, Value.ref 240, Value.none, Value.ref 241, Value.ref 242, Value.ref 243, Value.int 557 0, Value.int 120 0, Value.str (Str.ofString "/claim/cut.py") 558] }) ::
  (nat_lit 245, fnO (rfl : nth (inner (nth PySem.Challenge.pw_nm0133_01.main.body 36)) 0 = _) "Global.__init__" 3 (Value.none) (Value.str (Str.ofString "wasmcore.modules") 454) (Value.ref 244)) ::
  (nat_lit 246, { cls := Value.type "tuple", data := Data.seq #[] }) ::
  (nat_lit 248, { cls := Value.type "tuple", data := Data.seq #[Value.str (Str.ofString "self") 563] }) ::
  (nat_lit 249, { cls := Value.type "tuple", data := Data.seq #[] }) ::
  (nat_lit 251, { cls := Value.type "code", data := Data.fields #[Value.str (Str.ofString "plain") 560, Value.str (Str.ofString "Global.plain") 561, Value.str (Str.ofString "/claim/cut.py") 562, Value.int 125 0, Value.int 1 0, Value.int 0 0, Value.int 0 0, Value.int 3 0, Value.ref 246, Value.bool true, Value.int 181 0, Value.ref 247, Value.none, Value.ref 248, Value.ref 249, Value.ref 250, Value.int 564 0, Value.int 125 0, Value.str (Str.ofString "/claim/cut.py") 565] }) ::
  (nat_lit 252, fnO (rfl : nth (inner (nth PySem.Challenge.pw_nm0133_01.main.body 36)) 1 = _) "Global.plain" 3 (Value.none) (Value.str (Str.ofString "wasmcore.modules") 454) (Value.ref 251)) ::
  (nat_lit 253, { cls := Value.type "tuple", data := Data.seq #[Value.str (Str.ofString "body") 567, Value.str (Str.ofString "kind") 568, Value.str (Str.ofString "mutable") 569] }) ::
  (nat_lit 254, { cls := Value.type "dict", data := Data.dict #[{ hash := PyData.keyHash P (Str.ofString "__module__"), key := Value.str (Str.ofString "__module__") 545, val := Value.str (Str.ofString "wasmcore.modules") 454 }, { hash := PyData.keyHash P (Str.ofString "__firstlineno__"), key := Value.str (Str.ofString "__firstlineno__") 549, val := Value.int 118 548 }, { hash := PyData.keyHash P (Str.ofString "__init__"), key := Value.str (Str.ofString "__init__") 559, val := Value.ref 245 }, { hash := PyData.keyHash P (Str.ofString "plain"), key := Value.str (Str.ofString "plain") 566, val := Value.ref 252 }, { hash := PyData.keyHash P (Str.ofString "__static_attributes__"), key := Value.str (Str.ofString "__static_attributes__") 570, val := Value.ref 253 }, { hash := PyData.keyHash P (Str.ofString "__dict__"), key := Value.str (Str.ofString "__dict__") 572, val := Value.ref 256 }, { hash := PyData.keyHash P (Str.ofString "__weakref__"), key := Value.str (Str.ofString "__weakref__") 574, val := Value.ref 257 }, { hash := PyData.keyHash P (Str.ofString "__doc__"), key := Value.str (Str.ofString "__doc__") 575, val := Value.none }] 4 }) ::
  (nat_lit 255, { cls := Value.type "type", data := Data.cls { name := Str.ofString "Global", bases := [Value.type "object"], mro := [Value.ref 255, Value.type "object"], ns := 254, qualname := Str.ofString "Global" }, slots := #[none, none, some (Value.str (Str.ofString "Global") 538), some (Value.str (Str.ofString "Global") 546), some (Value.builtin "object.__new__"), some (Value.bool true)] }) ::
  (nat_lit 256, { cls := Value.type "getset_descriptor", data := Data.fields #[Value.str (Str.ofString "__dict__") 571, Value.ref 255, Value.builtin "function.__dict__", Value.builtin "function.__dict__#set"] }) ::
  (nat_lit 257, { cls := Value.type "getset_descriptor", data := Data.fields #[Value.str (Str.ofString "__weakref__") 573, Value.ref 255, Value.builtin "ExceptionGroup.__weakref__", Value.none] }) ::
  (nat_lit 267, { cls := Value.type "tuple", data := Data.seq #[] }) ::
  (nat_lit 269, { cls := Value.type "tuple", data := Data.seq #[Value.str (Str.ofString "self") 593] }) ::
  (nat_lit 270, { cls := Value.type "tuple", data := Data.seq #[] }) ::
  (nat_lit 272, { cls := Value.type "code", data := Data.fields #[Value.str (Str.ofString "__init__") 590, Value.str (Str.ofString "Module.__init__") 591, Value.str (Str.ofString "/claim/cut.py") 592, Value.int 129 0, Value.int 1 0, Value.int 0 0, Value.int 0 0, Value.int 3 0, Value.ref 267, Value.bool true, Value.int 181 0, Value.ref 268, Value.none, Value.ref 269, Value.ref 270, Value.ref 271, Value.int 594 0, Value.int 129 0, Value.str (Str.ofString "/claim/cut.py") 595] }) ::
  (nat_lit 273, fnO (rfl : nth (inner (nth PySem.Challenge.pw_nm0133_01.main.body 37)) 0 = _) "Module.__init__" 3 (Value.none) (Value.str (Str.ofString "wasmcore.modules") 454) (Value.ref 272)) ::
  (nat_lit 274, { cls := Value.type "tuple", data := Data.seq #[] }) ::
  (nat_lit 276, { cls := Value.type "tuple", data := Data.seq #[Value.str (Str.ofString "self") 600, Value.str (Str.ofString "sort") 601] }) ::
  (nat_lit 277, { cls := Value.type "tuple", data := Data.seq #[] }) ::
  (nat_lit 279, { cls := Value.type "code", data := Data.fields #[Value.str (Str.ofString "imported") 597, Value.str (Str.ofString "Module.imported") 598, Value.str (Str.ofString "/claim/cut.py") 599, Value.int 142 0, Value.int 2 0, Value.int 0 0, Value.int 0 0, Value.int 3 0, Value.ref 274, Value.bool true, Value.int 181 0, Value.ref 275, Value.none, Value.ref 276, Value.ref 277, Value.ref 278, Value.int 602 0, Value.int 142 0, Value.str (Str.ofString "/claim/cut.py") 603] }) ::
  (nat_lit 280, fnO (rfl : nth (inner (nth PySem.Challenge.pw_nm0133_01.main.body 37)) 1 = _) "Module.imported" 3 (Value.none) (Value.str (Str.ofString "wasmcore.modules") 454) (Value.ref 279)) ::
  (nat_lit 281, { cls := Value.type "tuple", data := Data.seq #[] }) ::
  (nat_lit 284, { cls := Value.type "code", data := Data.fields #[Value.str (Str.ofString "abouts") 605, Value.str (Str.ofString "Module.abouts") 606, Value.str (Str.ofString "/claim/cut.py") 607, Value.int 145 0, Value.int 2 0, Value.int 0 0, Value.int 0 0, Value.int 3 0, Value.ref 281, Value.bool true, Value.int 181 0, Value.ref 282, Value.none, Value.none, Value.none, Value.ref 283, Value.int 608 0, Value.int 145 0, Value.str (Str.ofString "/claim/cut.py") 609] }) ::
  (nat_lit 285, fnO (rfl : nth (inner (nth PySem.Challenge.pw_nm0133_01.main.body 37)) 2 = _) "Module.abouts" 3 (Value.none) (Value.str (Str.ofString "wasmcore.modules") 454) (Value.ref 284)) ::
  (nat_lit 286, { cls := Value.type "tuple", data := Data.seq #[] }) ::
  (nat_lit 288, { cls := Value.type "tuple", data := Data.seq #[Value.str (Str.ofString "self") 614] }) ::
  (nat_lit 289, { cls := Value.type "tuple", data := Data.seq #[] }) ::
  (nat_lit 291, { cls := Value.type "code", data := Data.fields #[Value.str (Str.ofString "func_kinds") 611, Value.str (Str.ofString "Module.func_kinds") 612, Value.str (Str.ofString "/claim/cut.py") 613, Value.int 148 0, Value.int 1 0, Value.int 0 0, Value.int 0 0, Value.int 3 0, Value.ref 286, Value.bool true, Value.int 181 0, Value.ref 287, Value.none, Value.ref 288, Value.ref 289, Value.ref 290, Value.int 615 0, Value.int 148 0, Value.str (Str.ofString "/claim/cut.py") 616] }) ::
  (nat_lit 292, fnO (rfl : nth (inner (nth PySem.Challenge.pw_nm0133_01.main.body 37)) 3 = _) "Module.func_kinds" 3 (Value.none) (Value.str (Str.ofString "wasmcore.modules") 454) (Value.ref 291)) ::
  (nat_lit 293, { cls := Value.type "tuple", data := Data.seq #[] }) ::
  (nat_lit 295, { cls := Value.type "tuple", data := Data.seq #[Value.str (Str.ofString "self") 621] }) ::
  (nat_lit 296, { cls := Value.type "tuple", data := Data.seq #[] }) ::
  (nat_lit 298, { cls := Value.type "code", data := Data.fields #[Value.str (Str.ofString "table_kinds") 618, Value.str (Str.ofString "Module.table_kinds") 619, Value.str (Str.ofString "/claim/cut.py") 620, Value.int 151 0, Value.int 1 0, Value.int 0 0, Value.int 0 0, Value.int 3 0, Value.ref 293, Value.bool true, Value.int 181 0, Value.ref 294, Value.none, Value.ref 295, Value.ref 296, Value.ref 297, Value.int 622 0, Value.int 151 0, Value.str (Str.ofString "/claim/cut.py") 623] }) ::
  (nat_lit 299, fnO (rfl : nth (inner (nth PySem.Challenge.pw_nm0133_01.main.body 37)) 4 = _) "Module.table_kinds" 3 (Value.none) (Value.str (Str.ofString "wasmcore.modules") 454) (Value.ref 298)) ::
  (nat_lit 300, { cls := Value.type "tuple", data := Data.seq #[] }) ::
  (nat_lit 302, { cls := Value.type "tuple", data := Data.seq #[Value.str (Str.ofString "self") 628] }) ::
  (nat_lit 303, { cls := Value.type "tuple", data := Data.seq #[] }) ::
  (nat_lit 305, { cls := Value.type "code", data := Data.fields #[Value.str (Str.ofString "memory_kinds") 625, Value.str (Str.ofString "Module.memory_kinds") 626, Value.str (Str.ofString "/claim/cut.py") 627, Value.int 154 0, Value.int 1 0, Value.int 0 0, Value.int 0 0, Value.int 3 0, Value.ref 300, Value.bool true, Value.int 181 0, Value.ref 301, Value.none, Value.ref 302, Value.ref 303, Value.ref 304, Value.int 629 0, Value.int 154 0, Value.str (Str.ofString "/claim/cut.py") 630] }) ::
  (nat_lit 306, fnO (rfl : nth (inner (nth PySem.Challenge.pw_nm0133_01.main.body 37)) 5 = _) "Module.memory_kinds" 3 (Value.none) (Value.str (Str.ofString "wasmcore.modules") 454) (Value.ref 305)) ::
  (nat_lit 307, { cls := Value.type "tuple", data := Data.seq #[] }) ::
  (nat_lit 309, { cls := Value.type "tuple", data := Data.seq #[Value.str (Str.ofString "self") 635] }) ::
  (nat_lit 310, { cls := Value.type "tuple", data := Data.seq #[] }) ::
  (nat_lit 312, { cls := Value.type "code", data := Data.fields #[Value.str (Str.ofString "global_kinds") 632, Value.str (Str.ofString "Module.global_kinds") 633, Value.str (Str.ofString "/claim/cut.py") 634, Value.int 157 0, Value.int 1 0, Value.int 0 0, Value.int 0 0, Value.int 3 0, Value.ref 307, Value.bool true, Value.int 181 0, Value.ref 308, Value.none, Value.ref 309, Value.ref 310, Value.ref 311, Value.int 636 0, Value.int 157 0, Value.str (Str.ofString "/claim/cut.py") 637] }) ::
  (nat_lit 313, fnO (rfl : nth (inner (nth PySem.Challenge.pw_nm0133_01.main.body 37)) 6 = _) "Module.global_kinds" 3 (Value.none) (Value.str (Str.ofString "wasmcore.modules") 454) (Value.ref 312)) ::
  (nat_lit 314, { cls := Value.type "tuple", data := Data.seq #[] }) ::
  (nat_lit 316, { cls := Value.type "tuple", data := Data.seq #[Value.str (Str.ofString "self") 642, Value.str (Str.ofString "sort") 643, Value.str (Str.ofString "own") 644] }) ::
  (nat_lit 317, { cls := Value.type "tuple", data := Data.seq #[] }) ::
  (nat_lit 319, { cls := Value.type "code", data := Data.fields #[Value.str (Str.ofString "many") 639, Value.str (Str.ofString "Module.many") 640, Value.str (Str.ofString "/claim/cut.py") 641, Value.int 160 0, Value.int 2 0, Value.int 0 0, Value.int 0 0, Value.int 3 0, Value.ref 314, Value.bool true, Value.int 181 0, Value.ref 315, Value.none, Value.ref 316, Value.ref 317, Value.ref 318, Value.int 645 0, Value.int 160 0, Value.str (Str.ofString "/claim/cut.py") 646] }) ::
  (nat_lit 320, fnO (rfl : nth (inner (nth PySem.Challenge.pw_nm0133_01.main.body 37)) 7 = _) "Module.many" 3 (Value.none) (Value.str (Str.ofString "wasmcore.modules") 454) (Value.ref 319)) ::
  (nat_lit 321, { cls := Value.type "tuple", data := Data.seq #[] }) ::
  (nat_lit 323, { cls := Value.type "tuple", data := Data.seq #[Value.str (Str.ofString "self") 651, Value.str (Str.ofString "index") 652, Value.str (Str.ofString "place") 653] }) ::
  (nat_lit 324, { cls := Value.type "tuple", data := Data.seq #[] }) ::
  (nat_lit 326, { cls := Value.type "code", data := Data.fields #[Value.str (Str.ofString "func") 648, Value.str (Str.ofString "Module.func") 649, Value.str (Str.ofString "/claim/cut.py") 650, Value.int 164 0, Value.int 2 0, Value.int 0 0, Value.int 0 0, Value.int 3 0, Value.ref 321, Value.bool true, Value.int 181 0, Value.ref 322, Value.none, Value.ref 323, Value.ref 324, Value.ref 325, Value.int 654 0, Value.int 164 0, Value.str (Str.ofString "/claim/cut.py") 655] }) ::
  (nat_lit 327, fnO (rfl : nth (inner (nth PySem.Challenge.pw_nm0133_01.main.body 37)) 8 = _) "Module.func" 3 (Value.none) (Value.str (Str.ofString "wasmcore.modules") 454) (Value.ref 326)) ::
  (nat_lit 328, { cls := Value.type "tuple", data := Data.seq #[] }) ::
  (nat_lit 330, { cls := Value.type "tuple", data := Data.seq #[Value.str (Str.ofString "self") 660, Value.str (Str.ofString "index") 661] }) ::
  (nat_lit 331, { cls := Value.type "tuple", data := Data.seq #[] }) ::
  (nat_lit 333, { cls := Value.type "code", data := Data.fields #[Value.str (Str.ofString "kind_of_func") 657, Value.str (Str.ofString "Module.kind_of_func") 658, Value.str (Str.ofString "/claim/cut.py") 659, Value.int 168 0, Value.int 2 0, Value.int 0 0, Value.int 0 0, Value.int 3 0, Value.ref 328, Value.bool true, Value.int 181 0, Value.ref 329, Value.none, Value.ref 330, Value.ref 331, Value.ref 332, Value.int 662 0, Value.int 168 0, Value.str (Str.ofString "/claim/cut.py") 663] }) ::
  (nat_lit 334, fnO (rfl : nth (inner (nth PySem.Challenge.pw_nm0133_01.main.body 37)) 9 = _) "Module.kind_of_func" 3 (Value.none) (Value.str (Str.ofString "wasmcore.modules") 454) (Value.ref 333)) ::
  (nat_lit 335, { cls := Value.type "tuple", data := Data.seq #[] }) ::
  (nat_lit 337, { cls := Value.type "tuple", data := Data.seq #[Value.str (Str.ofString "self") 668, Value.str (Str.ofString "name") 669] }) ::
  (nat_lit 338, { cls := Value.type "tuple", data := Data.seq #[] }) ::
  (nat_lit 340, { cls := Value.type "code", data := Data.fields #[Value.str (Str.ofString "export") 665, Value.str (Str.ofString "Module.export") 666, Value.str (Str.ofString "/claim/cut.py") 667, Value.int 171 0, Value.int 2 0, Value.int 0 0, Value.int 0 0, Value.int 3 0, Value.ref 335, Value.bool true, Value.int 181 0, Value.ref 336, Value.none, Value.ref 337, Value.ref 338, Value.ref 339, Value.int 670 0, Value.int 171 0, Value.str (Str.ofString "/claim/cut.py") 671] }) ::
  (nat_lit 341, fnO (rfl : nth (inner (nth PySem.Challenge.pw_nm0133_01.main.body 37)) 10 = _) "Module.export" 3 (Value.none) (Value.str (Str.ofString "wasmcore.modules") 454) (Value.ref 340)) ::
  (nat_lit 342, { cls := Value.type "tuple", data := Data.seq #[] }) ::
  (nat_lit 344, { cls := Value.type "tuple", data := Data.seq #[Value.str (Str.ofString "self") 676, Value.str (Str.ofString "own") 677] }) ::
  (nat_lit 345, { cls := Value.type "tuple", data := Data.seq #[] }) ::
  (nat_lit 347, { cls := Value.type "code", data := Data.fields #[Value.str (Str.ofString "plain") 673, Value.str (Str.ofString "Module.plain") 674, Value.str (Str.ofString "/claim/cut.py") 675, Value.int 174 0, Value.int 1 0, Value.int 0 0, Value.int 0 0, Value.int 3 0, Value.ref 342, Value.bool true, Value.int 181 0, Value.ref 343, Value.none, Value.ref 344, Value.ref 345, Value.ref 346, Value.int 678 0, Value.int 174 0, Value.str (Str.ofString "/claim/cut.py") 679] }) ::
  (nat_lit 348, fnO (rfl : nth (inner (nth PySem.Challenge.pw_nm0133_01.main.body 37)) 11 = _) "Module.plain" 3 (Value.none) (Value.str (Str.ofString "wasmcore.modules") 454) (Value.ref 347)) ::
  (nat_lit 349, { cls := Value.type "tuple", data := Data.seq #[] }) ::
  (nat_lit 351, { cls := Value.type "tuple", data := Data.seq #[Value.str (Str.ofString "self") 684] }) ::
  (nat_lit 352, { cls := Value.type "tuple", data := Data.seq #[] }) ::
  (nat_lit 354, { cls := Value.type "code", data := Data.fields #[Value.str (Str.ofString "bodies") 681, Value.str (Str.ofString "Module.bodies") 682, Value.str (Str.ofString "/claim/cut.py") 683, Value.int 179 0, Value.int 1 0, Value.int 0 0, Value.int 0 0, Value.int 3 0, Value.ref 349, Value.bool true, Value.int 181 0, Value.ref 350, Value.none, Value.ref 351, Value.ref 352, Value.ref 353, Value.int 685 0, Value.int 179 0, Value.str (Str.ofString "/claim/cut.py") 686] }) ::
  (nat_lit 355, fnO (rfl : nth (inner (nth PySem.Challenge.pw_nm0133_01.main.body 37)) 12 = _) "Module.bodies" 3 (Value.none) (Value.str (Str.ofString "wasmcore.modules") 454) (Value.ref 354)) ::
  (nat_lit 356, { cls := Value.type "tuple", data := Data.seq #[] }) ::
  (nat_lit 358, { cls := Value.type "tuple", data := Data.seq #[Value.str (Str.ofString "self") 691] }) ::
  (nat_lit 359, { cls := Value.type "tuple", data := Data.seq #[] }) ::
  (nat_lit 361, { cls := Value.type "code", data := Data.fields #[Value.str (Str.ofString "constants") 688, Value.str (Str.ofString "Module.constants") 689, Value.str (Str.ofString "/claim/cut.py") 690, Value.int 182 0, Value.int 1 0, Value.int 0 0, Value.int 0 0, Value.int 3 0, Value.ref 356, Value.bool true, Value.int 181 0, Value.ref 357, Value.none, Value.ref 358, Value.ref 359, Value.ref 360, Value.int 692 0, Value.int 182 0, Value.str (Str.ofString "/claim/cut.py") 693] }) ::
  (nat_lit 362, fnO (rfl : nth (inner (nth PySem.Challenge.pw_nm0133_01.main.body 37)) 13 = _) "Module.constants" 3 (Value.none) (Value.str (Str.ofString "wasmcore.modules") 454) (Value.ref 361)) ::
  (nat_lit 363, { cls := Value.type "tuple", data := Data.seq #[] }) ::
  (nat_lit 365, { cls := Value.type "tuple", data := Data.seq #[Value.str (Str.ofString "self") 698] }) ::
  (nat_lit 366, { cls := Value.type "tuple", data := Data.seq #[] }) ::
  (nat_lit 368, { cls := Value.type "code", data := Data.fields #[Value.str (Str.ofString "copy") 695, Value.str (Str.ofString "Module.copy") 696, Value.str (Str.ofString "/claim/cut.py") 697, Value.int 185 0, Value.int 1 0, Value.int 0 0, Value.int 0 0, Value.int 3 0, Value.ref 363, Value.bool true, Value.int 181 0, Value.ref 364, Value.none, Value.ref 365, Value.ref 366, Value.ref 367, Value.int 699 0, Value.int 185 0, Value.str (Str.ofString "/claim/cut.py") 700] }) ::
  (nat_lit 369, fnO (rfl : nth (inner (nth PySem.Challenge.pw_nm0133_01.main.body 37)) 14 = _) "Module.copy" 3 (Value.none) (Value.str (Str.ofString "wasmcore.modules") 454) (Value.ref 368)) ::
  (nat_lit 370, { cls := Value.type "tuple", data := Data.seq #[Value.str (Str.ofString "customs") 702, Value.str (Str.ofString "datas") 703, Value.str (Str.ofString "elems") 704, Value.str (Str.ofString "exports") 705, Value.str (Str.ofString "funcs") 706, Value.str (Str.ofString "globals") 707, Value.str (Str.ofString "imports") 708, Value.str (Str.ofString "kinds") 709, Value.str (Str.ofString "memories") 710, Value.str (Str.ofString "start") 711, Value.str (Str.ofString "tables") 712] }) ::
  (nat_lit 371, { cls := Value.type "dict", data := Data.dict #[{ hash := PyData.keyHash P (Str.ofString "__module__"), key := Value.str (Str.ofString "__module__") 585, val := Value.str (Str.ofString "wasmcore.modules") 454 }, { hash := PyData.keyHash P (Str.ofString "__firstlineno__"), key := Value.str (Str.ofString "__firstlineno__") 589, val := Value.int 127 588 }, { hash := PyData.keyHash P (Str.ofString "__init__"), key := Value.str (Str.ofString "__init__") 596, val := Value.ref 273 }, { hash := PyData.keyHash P (Str.ofString "imported"), key := Value.str (Str.ofString "imported") 604, val := Value.ref 280 }, { hash := PyData.keyHash P (Str.ofString "abouts"), key := Value.str (Str.ofString "abouts") 610, val := Value.ref 285 }, { hash := PyData.keyHash P (Str.ofString "func_kinds"), key := Value.str (Str.ofString "func_kinds") 617, val := Value.ref 292 }, { hash := PyData.keyHash P (Str.ofString "table_kinds"), key := Value.str (Str.ofString "table_kinds") 624, val := Value.ref 299 }, { hash := PyData.keyHash P (Str.ofString "memory_kinds"), key := Value.str (Str.ofString "memory_kinds") 631, val := Value.ref 306 }, { hash := PyData.keyHash P (Str.ofString "global_kinds"), key := Value.str (Str.ofString "global_kinds") 638, val := Value.ref 313 }, { hash := PyData.keyHash P (Str.ofString "many"), key := Value.str (Str.ofString "many") 647, val := Value.ref 320 }, { hash := PyData.keyHash P (Str.ofString "func"), key := Value.str (Str.ofString "func") 656, val := Value.ref 327 }, { hash := PyData.keyHash P (Str.ofString "kind_of_func"), key := Value.str (Str.ofString "kind_of_func") 664, val := Value.ref 334 }, { hash := PyData.keyHash P (Str.ofString "export"), key := Value.str (Str.ofString "export") 672, val := Value.ref 341 }, { hash := PyData.keyHash P (Str.ofString "plain"), key := Value.str (Str.ofString "plain") 680, val := Value.ref 348 }, { hash := PyData.keyHash P (Str.ofString "bodies"), key := Value.str (Str.ofString "bodies") 687, val := Value.ref 355 }, { hash := PyData.keyHash P (Str.ofString "constants"), key := Value.str (Str.ofString "constants") 694, val := Value.ref 362 }, { hash := PyData.keyHash P (Str.ofString "copy"), key := Value.str (Str.ofString "copy") 701, val := Value.ref 369 }, { hash := PyData.keyHash P (Str.ofString "__static_attributes__"), key := Value.str (Str.ofString "__static_attributes__") 713, val := Value.ref 370 }, { hash := PyData.keyHash P (Str.ofString "__dict__"), key := Value.str (Str.ofString "__dict__") 715, val := Value.ref 373 }, { hash := PyData.keyHash P (Str.ofString "__weakref__"), key := Value.str (Str.ofString "__weakref__") 717, val := Value.ref 374 }, { hash := PyData.keyHash P (Str.ofString "__doc__"), key := Value.str (Str.ofString "__doc__") 718, val := Value.none }] 4 }) ::
  (nat_lit 372, { cls := Value.type "type", data := Data.cls { name := Str.ofString "Module", bases := [Value.type "object"], mro := [Value.ref 372, Value.type "object"], ns := 371, qualname := Str.ofString "Module" }, slots := #[none, none, some (Value.str (Str.ofString "Module") 578), some (Value.str (Str.ofString "Module") 586), some (Value.builtin "object.__new__"), some (Value.bool true)] }) ::
  (nat_lit 373, { cls := Value.type "getset_descriptor", data := Data.fields #[Value.str (Str.ofString "__dict__") 714, Value.ref 372, Value.builtin "function.__dict__", Value.builtin "function.__dict__#set"] }) ::
  (nat_lit 374, { cls := Value.type "getset_descriptor", data := Data.fields #[Value.str (Str.ofString "__weakref__") 716, Value.ref 372, Value.builtin "ExceptionGroup.__weakref__", Value.none] }) ::
  (nat_lit 377, { cls := Value.type "tuple", data := Data.seq #[] }) ::
  (nat_lit 380, { cls := Value.type "code", data := Data.fields #[Value.str (Str.ofString "parts_of") 721, Value.str (Str.ofString "parts_of") 722, Value.str (Str.ofString "/claim/cut.py") 723, Value.int 187 0, Value.int 1 0, Value.int 0 0, Value.int 0 0, Value.int 3 0, Value.ref 377, Value.bool true, Value.int 181 0, Value.ref 378, Value.none, Value.none, Value.none, Value.ref 379, Value.int 724 0, Value.int 187 0, Value.str (Str.ofString "/claim/cut.py") 725] }) ::
  (nat_lit 381, fnO (rfl : nth PySem.Challenge.pw_nm0133_01.main.body 38 = _) "parts_of" 3 (Value.none) (Value.str (Str.ofString "wasmcore.modules") 454) (Value.ref 380)) ::
  (nat_lit 382, { cls := Value.type "tuple", data := Data.seq #[] }) ::
  (nat_lit 384, { cls := Value.type "tuple", data := Data.seq #[Value.str (Str.ofString "digits") 732, Value.str (Str.ofString "many") 733] }) ::
  (nat_lit 385, { cls := Value.type "tuple", data := Data.seq #[] }) ::
  (nat_lit 387, { cls := Value.type "code", data := Data.fields #[Value.str (Str.ofString "_law_take") 729, Value.str (Str.ofString "_law_take") 730, Value.str (Str.ofString "/claim/cut.py") 731, Value.int 190 0, Value.int 2 0, Value.int 0 0, Value.int 0 0, Value.int 3 0, Value.ref 382, Value.bool true, Value.int 181 0, Value.ref 383, Value.none, Value.ref 384, Value.ref 385, Value.ref 386, Value.int 734 0, Value.int 190 0, Value.str (Str.ofString "/claim/cut.py") 735] }) ::
  (nat_lit 388, fnO (rfl : nth PySem.Challenge.pw_nm0133_01.main.body 40 = _) "_law_take" 3 (Value.none) (Value.str (Str.ofString "law_nm0133_01") 727) (Value.ref 387)) ::
  (nat_lit 389, { cls := Value.type "tuple", data := Data.seq #[] }) ::
  (nat_lit 391, { cls := Value.type "tuple", data := Data.seq #[Value.str (Str.ofString "digits") 740] }) ::
  (nat_lit 392, { cls := Value.type "tuple", data := Data.seq #[] }) ::
  (nat_lit 394, { cls := Value.type "code", data := Data.fields #[Value.str (Str.ofString "_law_kind") 737, Value.str (Str.ofString "_law_kind") 738, Value.str (Str.ofString "/claim/cut.py") 739, Value.int 192 0, Value.int 1 0, Value.int 0 0, Value.int 0 0, Value.int 3 0, Value.ref 389, Value.bool true, Value.int 181 0, Value.ref 390, Value.none, Value.ref 391, Value.ref 392, Value.ref 393, Value.int 741 0, Value.int 192 0, Value.str (Str.ofString "/claim/cut.py") 742] }) ::
  (nat_lit 395, fnO (rfl : nth PySem.Challenge.pw_nm0133_01.main.body 41 = _) "_law_kind" 3 (Value.none) (Value.str (Str.ofString "law_nm0133_01") 727) (Value.ref 394)) ::
  (nat_lit 396, { cls := Value.type "tuple", data := Data.seq #[] }) ::
  (nat_lit 399, { cls := Value.type "code", data := Data.fields #[Value.str (Str.ofString "_law_some") 744, Value.str (Str.ofString "_law_some") 745, Value.str (Str.ofString "/claim/cut.py") 746, Value.int 194 0, Value.int 2 0, Value.int 0 0, Value.int 0 0, Value.int 3 0, Value.ref 396, Value.bool true, Value.int 181 0, Value.ref 397, Value.none, Value.none, Value.none, Value.ref 398, Value.int 747 0, Value.int 194 0, Value.str (Str.ofString "/claim/cut.py") 748] }) ::
  (nat_lit 400, fnO (rfl : nth PySem.Challenge.pw_nm0133_01.main.body 42 = _) "_law_some" 3 (Value.none) (Value.str (Str.ofString "law_nm0133_01") 727) (Value.ref 399)) ::
  (nat_lit 401, { cls := Value.type "tuple", data := Data.seq #[] }) ::
  (nat_lit 403, { cls := Value.type "tuple", data := Data.seq #[Value.str (Str.ofString "digits") 753, Value.str (Str.ofString "least") 754] }) ::
  (nat_lit 404, { cls := Value.type "tuple", data := Data.seq #[] }) ::
  (nat_lit 406, { cls := Value.type "code", data := Data.fields #[Value.str (Str.ofString "_law_ends") 750, Value.str (Str.ofString "_law_ends") 751, Value.str (Str.ofString "/claim/cut.py") 752, Value.int 196 0, Value.int 1 0, Value.int 0 0, Value.int 0 0, Value.int 3 0, Value.ref 401, Value.bool true, Value.int 181 0, Value.ref 402, Value.none, Value.ref 403, Value.ref 404, Value.ref 405, Value.int 755 0, Value.int 196 0, Value.str (Str.ofString "/claim/cut.py") 756] }) ::
  (nat_lit 407, fnO (rfl : nth PySem.Challenge.pw_nm0133_01.main.body 43 = _) "_law_ends" 3 (Value.none) (Value.str (Str.ofString "law_nm0133_01") 727) (Value.ref 406)) ::
  (nat_lit 408, { cls := Value.type "tuple", data := Data.seq #[] }) ::
  (nat_lit 410, { cls := Value.type "tuple", data := Data.seq #[Value.str (Str.ofString "digits") 761, Value.str (Str.ofString "kind") 762, Value.str (Str.ofString "least") 763, Value.str (Str.ofString "most") 764] }) ::
  (nat_lit 411, { cls := Value.type "tuple", data := Data.seq #[] }) ::
  (nat_lit 413, { cls := Value.type "code", data := Data.fields #[Value.str (Str.ofString "_law_table") 758, Value.str (Str.ofString "_law_table") 759, Value.str (Str.ofString "/claim/cut.py") 760, Value.int 199 0, Value.int 1 0, Value.int 0 0, Value.int 0 0, Value.int 3 0, Value.ref 408, Value.bool true, Value.int 181 0, Value.ref 409, Value.none, Value.ref 410, Value.ref 411, Value.ref 412, Value.int 765 0, Value.int 199 0, Value.str (Str.ofString "/claim/cut.py") 766] }) ::
  (nat_lit 414, fnO (rfl : nth PySem.Challenge.pw_nm0133_01.main.body 44 = _) "_law_table" 3 (Value.none) (Value.str (Str.ofString "law_nm0133_01") 727) (Value.ref 413)) ::
  (nat_lit 415, { cls := Value.type "tuple", data := Data.seq #[] }) ::
  (nat_lit 417, { cls := Value.type "tuple", data := Data.seq #[Value.str (Str.ofString "digits") 771] }) ::
  (nat_lit 418, { cls := Value.type "tuple", data := Data.seq #[] }) ::
  (nat_lit 420, { cls := Value.type "code", data := Data.fields #[Value.str (Str.ofString "_law_cell") 768, Value.str (Str.ofString "_law_cell") 769, Value.str (Str.ofString "/claim/cut.py") 770, Value.int 203 0, Value.int 1 0, Value.int 0 0, Value.int 0 0, Value.int 3 0, Value.ref 415, Value.bool true, Value.int 181 0, Value.ref 416, Value.none, Value.ref 417, Value.ref 418, Value.ref 419, Value.int 772 0, Value.int 203 0, Value.str (Str.ofString "/claim/cut.py") 773] }) ::
  (nat_lit 421, fnO (rfl : nth PySem.Challenge.pw_nm0133_01.main.body 45 = _) "_law_cell" 3 (Value.none) (Value.str (Str.ofString "law_nm0133_01") 727) (Value.ref 420)) ::
  (nat_lit 422, { cls := Value.type "tuple", data := Data.seq #[] }) ::
  (nat_lit 424, { cls := Value.type "tuple", data := Data.seq #[Value.str (Str.ofString "digits") 778, Value.str (Str.ofString "many") 779, Value.str (Str.ofString "sort") 780] }) ::
  (nat_lit 425, { cls := Value.type "tuple", data := Data.seq #[] }) ::
  (nat_lit 427, { cls := Value.type "code", data := Data.fields #[Value.str (Str.ofString "_law_import") 775, Value.str (Str.ofString "_law_import") 776, Value.str (Str.ofString "/claim/cut.py") 777, Value.int 205 0, Value.int 2 0, Value.int 0 0, Value.int 0 0, Value.int 3 0, Value.ref 422, Value.bool true, Value.int 181 0, Value.ref 423, Value.none, Value.ref 424, Value.ref 425, Value.ref 426, Value.int 781 0, Value.int 205 0, Value.str (Str.ofString "/claim/cut.py") 782] }) ::
  (nat_lit 428, fnO (rfl : nth PySem.Challenge.pw_nm0133_01.main.body 46 = _) "_law_import" 3 (Value.none) (Value.str (Str.ofString "law_nm0133_01") 727) (Value.ref 427)) ::
  (nat_lit 429, { cls := Value.type "tuple", data := Data.seq #[] }) ::
  (nat_lit 432, { cls := Value.type "code", data := Data.fields #[Value.str (Str.ofString "_law_module") 784, Value.str (Str.ofString "_law_module") 785, Value.str (Str.ofString "/claim/cut.py") 786, Value.int 214 0, Value.int 1 0, Value.int 0 0, Value.int 0 0, Value.int 3 0, Value.ref 429, Value.bool true, Value.int 181 0, Value.ref 430, Value.none, Value.none, Value.none, Value.ref 431, Value.int 787 0, Value.int 214 0, Value.str (Str.ofString "/claim/cut.py") 788] }) ::
  (nat_lit 433, fnO (rfl : nth PySem.Challenge.pw_nm0133_01.main.body 47 = _) "_law_module" 3 (Value.none) (Value.str (Str.ofString "law_nm0133_01") 727) (Value.ref 432)) ::
  (nat_lit 434, { cls := Value.type "tuple", data := Data.seq #[] }) ::
  (nat_lit 437, { cls := Value.type "code", data := Data.fields #[Value.str (Str.ofString "_law_kinds_fault") 790, Value.str (Str.ofString "_law_kinds_fault") 791, Value.str (Str.ofString "/claim/cut.py") 792, Value.int 227 0, Value.int 1 0, Value.int 0 0, Value.int 0 0, Value.int 3 0, Value.ref 434, Value.bool true, Value.int 181 0, Value.ref 435, Value.none, Value.none, Value.none, Value.ref 436, Value.int 793 0, Value.int 227 0, Value.str (Str.ofString "/claim/cut.py") 794] }) ::
  (nat_lit 438, fnO (rfl : nth PySem.Challenge.pw_nm0133_01.main.body 48 = _) "_law_kinds_fault" 3 (Value.none) (Value.str (Str.ofString "law_nm0133_01") 727) (Value.ref 437)) ::
  (nat_lit 439, { cls := Value.type "tuple", data := Data.seq #[] }) ::
  (nat_lit 441, { cls := Value.type "tuple", data := Data.seq #[Value.str (Str.ofString "least") 799, Value.str (Str.ofString "most") 800, Value.str (Str.ofString "greatest") 801, Value.str (Str.ofString "why") 802] }) ::
  (nat_lit 442, { cls := Value.type "tuple", data := Data.seq #[] }) ::
  (nat_lit 444, { cls := Value.type "code", data := Data.fields #[Value.str (Str.ofString "_law_ends_fault") 796, Value.str (Str.ofString "_law_ends_fault") 797, Value.str (Str.ofString "/claim/cut.py") 798, Value.int 229 0, Value.int 4 0, Value.int 0 0, Value.int 0 0, Value.int 3 0, Value.ref 439, Value.bool true, Value.int 181 0, Value.ref 440, Value.none, Value.ref 441, Value.ref 442, Value.ref 443, Value.int 803 0, Value.int 229 0, Value.str (Str.ofString "/claim/cut.py") 804] }) ::
  (nat_lit 445, fnO (rfl : nth PySem.Challenge.pw_nm0133_01.main.body 49 = _) "_law_ends_fault" 3 (Value.none) (Value.str (Str.ofString "law_nm0133_01") 727) (Value.ref 444)) ::
  (nat_lit 446, { cls := Value.type "tuple", data := Data.seq #[] }) ::
  (nat_lit 448, { cls := Value.type "tuple", data := Data.seq #[Value.str (Str.ofString "about") 809, Value.str (Str.ofString "elements") 810] }) ::
  (nat_lit 449, { cls := Value.type "tuple", data := Data.seq #[] }) ::
  (nat_lit 451, { cls := Value.type "code", data := Data.fields #[Value.str (Str.ofString "_law_table_fault") 806, Value.str (Str.ofString "_law_table_fault") 807, Value.str (Str.ofString "/claim/cut.py") 808, Value.int 233 0, Value.int 2 0, Value.int 0 0, Value.int 0 0, Value.int 3 0, Value.ref 446, Value.bool true, Value.int 181 0, Value.ref 447, Value.none, Value.ref 448, Value.ref 449, Value.ref 450, Value.int 811 0, Value.int 233 0, Value.str (Str.ofString "/claim/cut.py") 812] }) ::
  (nat_lit 452, fnO (rfl : nth PySem.Challenge.pw_nm0133_01.main.body 50 = _) "_law_table_fault" 3 (Value.none) (Value.str (Str.ofString "law_nm0133_01") 727) (Value.ref 451)) ::
  (nat_lit 453, { cls := Value.type "tuple", data := Data.seq #[] }) ::
  (nat_lit 455, { cls := Value.type "tuple", data := Data.seq #[Value.str (Str.ofString "about") 817, Value.str (Str.ofString "pages") 818] }) ::
  (nat_lit 456, { cls := Value.type "tuple", data := Data.seq #[] }) ::
  (nat_lit 458, { cls := Value.type "code", data := Data.fields #[Value.str (Str.ofString "_law_memory_fault") 814, Value.str (Str.ofString "_law_memory_fault") 815, Value.str (Str.ofString "/claim/cut.py") 816, Value.int 237 0, Value.int 2 0, Value.int 0 0, Value.int 0 0, Value.int 3 0, Value.ref 453, Value.bool true, Value.int 181 0, Value.ref 454, Value.none, Value.ref 455, Value.ref 456, Value.ref 457, Value.int 819 0, Value.int 237 0, Value.str (Str.ofString "/claim/cut.py") 820] }) ::
  (nat_lit 459, fnO (rfl : nth PySem.Challenge.pw_nm0133_01.main.body 51 = _) "_law_memory_fault" 3 (Value.none) (Value.str (Str.ofString "law_nm0133_01") 727) (Value.ref 458)) ::
  (nat_lit 460, { cls := Value.type "tuple", data := Data.seq #[] }) ::
  (nat_lit 462, { cls := Value.type "tuple", data := Data.seq #[Value.str (Str.ofString "about") 825] }) ::
  (nat_lit 463, { cls := Value.type "tuple", data := Data.seq #[] }) ::
  (nat_lit 465, { cls := Value.type "code", data := Data.fields #[Value.str (Str.ofString "_law_cell_fault") 822, Value.str (Str.ofString "_law_cell_fault") 823, Value.str (Str.ofString "/claim/cut.py") 824, Value.int 239 0, Value.int 1 0, Value.int 0 0, Value.int 0 0, Value.int 3 0, Value.ref 460, Value.bool true, Value.int 181 0, Value.ref 461, Value.none, Value.ref 462, Value.ref 463, Value.ref 464, Value.int 826 0, Value.int 239 0, Value.str (Str.ofString "/claim/cut.py") 827] }) ::
  (nat_lit 466, fnO (rfl : nth PySem.Challenge.pw_nm0133_01.main.body 52 = _) "_law_cell_fault" 3 (Value.none) (Value.str (Str.ofString "law_nm0133_01") 727) (Value.ref 465)) ::
  (nat_lit 467, { cls := Value.type "tuple", data := Data.seq #[] }) ::
  (nat_lit 469, { cls := Value.type "tuple", data := Data.seq #[Value.str (Str.ofString "module") 832, Value.str (Str.ofString "one") 833, Value.str (Str.ofString "pages") 834, Value.str (Str.ofString "elements") 835] }) ::
  (nat_lit 470, { cls := Value.type "tuple", data := Data.seq #[] }) ::
  (nat_lit 472, { cls := Value.type "code", data := Data.fields #[Value.str (Str.ofString "_law_import_fault") 829, Value.str (Str.ofString "_law_import_fault") 830, Value.str (Str.ofString "/claim/cut.py") 831, Value.int 241 0, Value.int 4 0, Value.int 0 0, Value.int 0 0, Value.int 3 0, Value.ref 467, Value.bool true, Value.int 181 0, Value.ref 468, Value.none, Value.ref 469, Value.ref 470, Value.ref 471, Value.int 836 0, Value.int 241 0, Value.str (Str.ofString "/claim/cut.py") 837] }) ::
  (nat_lit 473, fnO (rfl : nth PySem.Challenge.pw_nm0133_01.main.body 53 = _) "_law_import_fault" 3 (Value.none) (Value.str (Str.ofString "law_nm0133_01") 727) (Value.ref 472)) ::
  (nat_lit 474, { cls := Value.type "tuple", data := Data.seq #[] }) ::
  (nat_lit 477, { cls := Value.type "code", data := Data.fields #[Value.str (Str.ofString "_law_faults") 839, Value.str (Str.ofString "_law_faults") 840, Value.str (Str.ofString "/claim/cut.py") 841, Value.int 249 0, Value.int 3 0, Value.int 0 0, Value.int 0 0, Value.int 3 0, Value.ref 474, Value.bool true, Value.int 181 0, Value.ref 475, Value.none, Value.none, Value.none, Value.ref 476, Value.int 842 0, Value.int 249 0, Value.str (Str.ofString "/claim/cut.py") 843] }) ::
  (nat_lit 478, fnO (rfl : nth PySem.Challenge.pw_nm0133_01.main.body 54 = _) "_law_faults" 3 (Value.none) (Value.str (Str.ofString "law_nm0133_01") 727) (Value.ref 477)) ::
  (nat_lit 479, { cls := Value.type "tuple", data := Data.seq #[] }) ::
  (nat_lit 481, { cls := Value.type "tuple", data := Data.seq #[Value.str (Str.ofString "script") 848, Value.str (Str.ofString "digits") 849, Value.str (Str.ofString "pages") 850, Value.str (Str.ofString "elements") 851, Value.str (Str.ofString "module") 852, Value.str (Str.ofString "due") 853, Value.str (Str.ofString "before") 854, Value.str (Str.ofString "fault") 855] }) ::
  (nat_lit 482, { cls := Value.type "tuple", data := Data.seq #[] }) ::
  (nat_lit 484, { cls := Value.type "code", data := Data.fields #[Value.str (Str.ofString "law") 845, Value.str (Str.ofString "law") 846, Value.str (Str.ofString "/claim/cut.py") 847, Value.int 260 0, Value.int 1 0, Value.int 0 0, Value.int 0 0, Value.int 3 0, Value.ref 479, Value.bool true, Value.int 181 0, Value.ref 480, Value.none, Value.ref 481, Value.ref 482, Value.ref 483, Value.int 856 0, Value.int 260 0, Value.str (Str.ofString "/claim/cut.py") 857] }) ::
  (nat_lit 485, fnO (rfl : nth PySem.Challenge.pw_nm0133_01.main.body 55 = _) "law" 3 (Value.none) (Value.str (Str.ofString "law_nm0133_01") 727) (Value.ref 484)) ::
  []
noncomputable def adrK : List Nat := nat_lit 2 :: nat_lit 3 :: nat_lit 15 :: nat_lit 17 :: nat_lit 18 :: nat_lit 20 :: nat_lit 21 :: nat_lit 22 :: nat_lit 29 :: nat_lit 31 :: nat_lit 32 :: nat_lit 34 :: nat_lit 35 :: nat_lit 36 :: nat_lit 37 :: nat_lit 38 :: nat_lit 39 :: nat_lit 42 :: nat_lit 49 :: nat_lit 51 :: nat_lit 52 :: nat_lit 54 :: nat_lit 55 :: nat_lit 56 :: nat_lit 57 :: nat_lit 58 :: nat_lit 61 :: nat_lit 62 :: nat_lit 70 :: nat_lit 71 :: nat_lit 73 :: nat_lit 74 :: nat_lit 76 :: nat_lit 77 :: nat_lit 78 :: nat_lit 79 :: nat_lit 80 :: nat_lit 81 :: nat_lit 82 :: nat_lit 85 :: nat_lit 87 :: nat_lit 88 :: nat_lit 90 :: nat_lit 91 :: nat_lit 92 :: nat_lit 94 :: nat_lit 95 :: nat_lit 97 :: nat_lit 98 :: nat_lit 99 :: nat_lit 101 :: nat_lit 102 :: nat_lit 104 :: nat_lit 105 :: nat_lit 106 :: nat_lit 108 :: nat_lit 109 :: nat_lit 111 :: nat_lit 112 :: nat_lit 113 :: nat_lit 115 :: nat_lit 116 :: nat_lit 118 :: nat_lit 119 :: nat_lit 120 :: nat_lit 122 :: nat_lit 123 :: nat_lit 125 :: nat_lit 126 :: nat_lit 127 :: nat_lit 129 :: nat_lit 130 :: nat_lit 132 :: nat_lit 133 :: nat_lit 134 :: nat_lit 136 :: nat_lit 137 :: nat_lit 139 :: nat_lit 140 :: nat_lit 141 :: nat_lit 143 :: nat_lit 144 :: nat_lit 146 :: nat_lit 147 :: nat_lit 148 :: nat_lit 150 :: nat_lit 151 :: nat_lit 153 :: nat_lit 154 :: nat_lit 155 :: nat_lit 157 :: nat_lit 158 :: nat_lit 160 :: nat_lit 161 :: nat_lit 162 :: nat_lit 164 :: nat_lit 165 :: nat_lit 167 :: nat_lit 168 :: nat_lit 169 :: nat_lit 171 :: nat_lit 172 :: nat_lit 174 :: nat_lit 175 :: nat_lit 183 :: nat_lit 185 :: nat_lit 186 :: nat_lit 188 :: nat_lit 189 :: nat_lit 190 :: nat_lit 192 :: nat_lit 193 :: nat_lit 195 :: nat_lit 196 :: nat_lit 197 :: nat_lit 198 :: nat_lit 199 :: nat_lit 200 :: nat_lit 201 :: nat_lit 211 :: nat_lit 213 :: nat_lit 214 :: nat_lit 216 :: nat_lit 217 :: nat_lit 218 :: nat_lit 220 :: nat_lit 221 :: nat_lit 223 :: nat_lit 224 :: nat_lit 225 :: nat_lit 226 :: nat_lit 227 :: nat_lit 228 :: nat_lit 229 :: nat_lit 239 :: nat_lit 241 :: nat_lit 242 :: nat_lit 244 :: nat_lit 245 :: nat_lit 246 :: nat_lit 248 :: nat_lit 249 :: nat_lit 251 :: nat_lit 252 :: nat_lit 253 :: nat_lit 254 :: nat_lit 255 :: nat_lit 256 :: nat_lit 257 :: nat_lit 267 :: nat_lit 269 :: nat_lit 270 :: nat_lit 272 :: nat_lit 273 :: nat_lit 274 :: nat_lit 276 :: nat_lit 277 :: nat_lit 279 :: nat_lit 280 :: nat_lit 281 :: nat_lit 284 :: nat_lit 285 :: nat_lit 286 :: nat_lit 288 :: nat_lit 289 :: nat_lit 291 :: nat_lit 292 :: nat_lit 293 :: nat_lit 295 :: nat_lit 296 :: nat_lit 298 :: nat_lit 299 :: nat_lit 300 :: nat_lit 302 :: nat_lit 303 :: nat_lit 305 :: nat_lit 306 :: nat_lit 307 :: nat_lit 309 :: nat_lit 310 :: nat_lit 312 :: nat_lit 313 :: nat_lit 314 :: nat_lit 316 :: nat_lit 317 :: nat_lit 319 :: nat_lit 320 :: nat_lit 321 :: nat_lit 323 :: nat_lit 324 :: nat_lit 326 :: nat_lit 327 :: nat_lit 328 :: nat_lit 330 :: nat_lit 331 :: nat_lit 333 :: nat_lit 334 :: nat_lit 335 :: nat_lit 337 :: nat_lit 338 :: nat_lit 340 :: nat_lit 341 :: nat_lit 342 :: nat_lit 344 :: nat_lit 345 :: nat_lit 347 :: nat_lit 348 :: nat_lit 349 :: nat_lit 351 :: nat_lit 352 :: nat_lit 354 :: nat_lit 355 :: nat_lit 356 :: nat_lit 358 :: nat_lit 359 :: nat_lit 361 :: nat_lit 362 :: nat_lit 363 :: nat_lit 365 :: nat_lit 366 :: nat_lit 368 :: nat_lit 369 :: nat_lit 370 :: nat_lit 371 :: nat_lit 372 :: nat_lit 373 :: nat_lit 374 :: nat_lit 377 :: nat_lit 380 :: nat_lit 381 :: nat_lit 382 :: nat_lit 384 :: nat_lit 385 :: nat_lit 387 :: nat_lit 388 :: nat_lit 389 :: nat_lit 391 :: nat_lit 392 :: nat_lit 394 :: nat_lit 395 :: nat_lit 396 :: nat_lit 399 :: nat_lit 400 :: nat_lit 401 :: nat_lit 403 :: nat_lit 404 :: nat_lit 406 :: nat_lit 407 :: nat_lit 408 :: nat_lit 410 :: nat_lit 411 :: nat_lit 413 :: nat_lit 414 :: nat_lit 415 :: nat_lit 417 :: nat_lit 418 :: nat_lit 420 :: nat_lit 421 :: nat_lit 422 :: nat_lit 424 :: nat_lit 425 :: nat_lit 427 :: nat_lit 428 :: nat_lit 429 :: nat_lit 432 :: nat_lit 433 :: nat_lit 434 :: nat_lit 437 :: nat_lit 438 :: nat_lit 439 :: nat_lit 441 :: nat_lit 442 :: nat_lit 444 :: nat_lit 445 :: nat_lit 446 :: nat_lit 448 :: nat_lit 449 :: nat_lit 451 :: nat_lit 452 :: nat_lit 453 :: nat_lit 455 :: nat_lit 456 :: nat_lit 458 :: nat_lit 459 :: nat_lit 460 :: nat_lit 462 :: nat_lit 463 :: nat_lit 465 :: nat_lit 466 :: nat_lit 467 :: nat_lit 469 :: nat_lit 470 :: nat_lit 472 :: nat_lit 473 :: nat_lit 474 :: nat_lit 477 :: nat_lit 478 :: nat_lit 479 :: nat_lit 481 :: nat_lit 482 :: nat_lit 484 :: nat_lit 485 :: []
noncomputable def viewK : Program := W.view PySem.Challenge.pw_nm0133_01 [0, 2, 3, 5, 6, 7, 8, 9, 10, 11, 12, 13, 14, 15, 16, 17, 19, 20, 21, 22, 23, 24, 25, 26, 27, 28, 29, 30, 31, 32, 34, 35, 36, 37, 38, 40, 41, 42, 43, 44, 45, 46, 47, 48, 49, 50, 51, 52, 53, 54, 55]
noncomputable abbrev fnP {st : Stmt} {n : Str} {a : Arguments} {b : List Stmt} {dl : List PySem.Expr} {r : Option PySem.Expr} {tp : List TypeParam} {sc : Scope} {ts : Option Scope} {bd : Str} {pos : Pos}
    (_ : st = .FunctionDef n a b dl r tp sc ts bd pos) (q : String) (g : Addr) (df pm cd : Value) : Obj :=
  { cls := .none, data := .func { name := n, qualname := .ofString q, params := a, body := .stmts b, scope := sc, globals := g, closure := [], defaults := df, kwdefaults := .none, pyModule := pm, code := cd } }
noncomputable def restK (P : Params) : Frag := 
  (nat_lit 0, { cls := Value.type "dict", data := Data.dict (List.toArray ({ hash := PyData.keyHash P (Str.ofString "__name__"), key := Value.str (Str.ofString "__name__") 1, val := Value.str (Str.ofString "builtins") 160 } :: { hash := PyData.keyHash P (Str.ofString "__doc__"), key := Value.str (Str.ofString "__doc__") 2, val := Value.builtin "builtins.__doc__:str#opaque" } :: { hash := PyData.keyHash P (Str.ofString "__package__"), key := Value.str (Str.ofString "__package__") 3, val := Value.builtin "builtins.__package__:str#opaque" } :: { hash := PyData.keyHash P (Str.ofString "__loader__"), key := Value.str (Str.ofString "__loader__") 4, val := Value.builtin "builtins.__loader__:shared#opaque" } :: { hash := PyData.keyHash P (Str.ofString "__spec__"), key := Value.str (Str.ofString "__spec__") 5, val := Value.builtin "builtins.__spec__#opaque" } :: { hash := PyData.keyHash P (Str.ofString "__build_class__"), key := Value.str (Str.ofString "__build_class__") 6, val := Value.builtin "__build_class__" } :: { hash := PyData.keyHash P (Str.ofString "__import__"), key := Value.str (Str.ofString "__import__") 7, val := Value.builtin "__import__" } :: { hash := PyData.keyHash P (Str.ofString "abs"), key := Value.str (Str.ofString "abs") 8, val := Value.builtin "abs" } :: { hash := PyData.keyHash P (Str.ofString "all"), key := Value.str (Str.ofString "all") 9, val := Value.builtin "all" } :: { hash := PyData.keyHash P (Str.ofString "any"), key := Value.str (Str.ofString "any") 10, val := Value.builtin "any" } :: { hash := PyData.keyHash P (Str.ofString "ascii"), key := Value.str (Str.ofString "ascii") 11, val := Value.builtin "ascii" } :: { hash := PyData.keyHash P (Str.ofString "bin"), key := Value.str (Str.ofString "bin") 12, val := Value.builtin "bin" } :: { hash := PyData.keyHash P (Str.ofString "breakpoint"), key := Value.str (Str.ofString "breakpoint") 13, val := Value.builtin "breakpoint" } :: { hash := PyData.keyHash P (Str.ofString "callable"), key := Value.str (Str.ofString "callable") 14, val := Value.builtin "callable" } :: { hash := PyData.keyHash P (Str.ofString "chr"), key := Value.str (Str.ofString "chr") 15, val := Value.builtin "chr" } :: { hash := PyData.keyHash P (Str.ofString "compile"), key := Value.str (Str.ofString "compile") 16, val := Value.builtin "compile" } :: { hash := PyData.keyHash P (Str.ofString "delattr"), key := Value.str (Str.ofString "delattr") 17, val := Value.builtin "delattr" } :: { hash := PyData.keyHash P (Str.ofString "dir"), key := Value.str (Str.ofString "dir") 18, val := Value.builtin "dir" } :: { hash := PyData.keyHash P (Str.ofString "divmod"), key := Value.str (Str.ofString "divmod") 19, val := Value.builtin "divmod" } :: { hash := PyData.keyHash P (Str.ofString "eval"), key := Value.str (Str.ofString "eval") 20, val := Value.builtin "eval" } :: { hash := PyData.keyHash P (Str.ofString "exec"), key := Value.str (Str.ofString "exec") 21, val := Value.builtin "exec" } :: { hash := PyData.keyHash P (Str.ofString "format"), key := Value.str (Str.ofString "format") 22, val := Value.builtin "format" } :: { hash := PyData.keyHash P (Str.ofString "getattr"), key := Value.str (Str.ofString "getattr") 23, val := Value.builtin "getattr" } :: { hash := PyData.keyHash P (Str.ofString "globals"), key := Value.str (Str.ofString "globals") 24, val := Value.builtin "globals" } :: { hash := PyData.keyHash P (Str.ofString "hasattr"), key := Value.str (Str.ofString "hasattr") 25, val := Value.builtin "hasattr" } :: { hash := PyData.keyHash P (Str.ofString "hash"), key := Value.str (Str.ofString "hash") 26, val := Value.builtin "hash" } :: { hash := PyData.keyHash P (Str.ofString "hex"), key := Value.str (Str.ofString "hex") 27, val := Value.builtin "hex" } :: { hash := PyData.keyHash P (Str.ofString "id"), key := Value.str (Str.ofString "id") 28, val := Value.builtin "id" } :: { hash := PyData.keyHash P (Str.ofString "input"), key := Value.str (Str.ofString "input") 29, val := Value.builtin "input" } :: { hash := PyData.keyHash P (Str.ofString "isinstance"), key := Value.str (Str.ofString "isinstance") 30, val := Value.builtin "isinstance" } :: { hash := PyData.keyHash P (Str.ofString "issubclass"), key := Value.str (Str.ofString "issubclass") 31, val := Value.builtin "issubclass" } :: { hash := PyData.keyHash P (Str.ofString "iter"), key := Value.str (Str.ofString "iter") 32, val := Value.builtin "iter" } :: { hash := PyData.keyHash P (Str.ofString "aiter"), key := Value.str (Str.ofString "aiter") 33, val := Value.builtin "aiter" } :: { hash := PyData.keyHash P (Str.ofString "len"), key := Value.str (Str.ofString "len") 34, val := Value.builtin "len" } :: { hash := PyData.keyHash P (Str.ofString "locals"), key := Value.str (Str.ofString "locals") 35, val := Value.builtin "locals" } :: { hash := PyData.keyHash P (Str.ofString "max"), key := Value.str (Str.ofString "max") 36, val := Value.builtin "max" } :: { hash := PyData.keyHash P (Str.ofString "min"), key := Value.str (Str.ofString "min") 37, val := Value.builtin "min" } :: { hash := PyData.keyHash P (Str.ofString "next"), key := Value.str (Str.ofString "next") 38, val := Value.builtin "next" } :: { hash := PyData.keyHash P (Str.ofString "anext"), key := Value.str (Str.ofString "anext") 39, val := Value.builtin "anext" } :: { hash := PyData.keyHash P (Str.ofString "oct"), key := Value.str (Str.ofString "oct") 40, val := Value.builtin "oct" } :: { hash := PyData.keyHash P (Str.ofString "ord"), key := Value.str (Str.ofString "ord") 41, val := Value.builtin "ord" } :: { hash := PyData.keyHash P (Str.ofString "pow"), key := Value.str (Str.ofString "pow") 42, val := Value.builtin "pow" } :: { hash := PyData.keyHash P (Str.ofString "print"), key := Value.str (Str.ofString "print") 43, val := Value.builtin "print" } :: { hash := PyData.keyHash P (Str.ofString "repr"), key := Value.str (Str.ofString "repr") 44, val := Value.builtin "repr" } :: { hash := PyData.keyHash P (Str.ofString "round"), key := Value.str (Str.ofString "round") 45, val := Value.builtin "round" } :: { hash := PyData.keyHash P (Str.ofString "setattr"), key := Value.str (Str.ofString "setattr") 46, val := Value.builtin "setattr" } :: { hash := PyData.keyHash P (Str.ofString "sorted"), key := Value.str (Str.ofString "sorted") 47, val := Value.builtin "sorted" } :: { hash := PyData.keyHash P (Str.ofString "sum"), key := Value.str (Str.ofString "sum") 48, val := Value.builtin "sum" } :: { hash := PyData.keyHash P (Str.ofString "vars"), key := Value.str (Str.ofString "vars") 49, val := Value.builtin "vars" } :: { hash := PyData.keyHash P (Str.ofString "None"), key := Value.str (Str.ofString "None") 50, val := Value.none } :: { hash := PyData.keyHash P (Str.ofString "Ellipsis"), key := Value.str (Str.ofString "Ellipsis") 51, val := Value.ellipsis } :: { hash := PyData.keyHash P (Str.ofString "NotImplemented"), key := Value.str (Str.ofString "NotImplemented") 52, val := Value.notImplemented } :: { hash := PyData.keyHash P (Str.ofString "False"), key := Value.str (Str.ofString "False") 53, val := Value.bool false } :: { hash := PyData.keyHash P (Str.ofString "True"), key := Value.str (Str.ofString "True") 54, val := Value.bool true } :: { hash := PyData.keyHash P (Str.ofString "bool"), key := Value.str (Str.ofString "bool") 55, val := Value.type "bool" } :: { hash := PyData.keyHash P (Str.ofString "memoryview"), key := Value.str (Str.ofString "memoryview") 56, val := Value.type "memoryview" } :: { hash := PyData.keyHash P (Str.ofString "bytearray"), key := Value.str (Str.ofString "bytearray") 57, val := Value.type "bytearray" } :: { hash := PyData.keyHash P (Str.ofString "bytes"), key := Value.str (Str.ofString "bytes") 58, val := Value.type "bytes" } :: { hash := PyData.keyHash P (Str.ofString "classmethod"), key := Value.str (Str.ofString "classmethod") 59, val := Value.type "classmethod" } :: { hash := PyData.keyHash P (Str.ofString "complex"), key := Value.str (Str.ofString "complex") 60, val := Value.type "complex" } :: { hash := PyData.keyHash P (Str.ofString "dict"), key := Value.str (Str.ofString "dict") 61, val := Value.type "dict" } :: { hash := PyData.keyHash P (Str.ofString "enumerate"), key := Value.str (Str.ofString "enumerate") 62, val := Value.type "enumerate" } :: { hash := PyData.keyHash P (Str.ofString "filter"), key := Value.str (Str.ofString "filter") 63, val := Value.type "filter" } :: { hash := PyData.keyHash P (Str.ofString "float"), key := Value.str (Str.ofString "float") 64, val := Value.type "float" } :: { hash := PyData.keyHash P (Str.ofString "frozenset"), key := Value.str (Str.ofString "frozenset") 65, val := Value.type "frozenset" } :: { hash := PyData.keyHash P (Str.ofString "property"), key := Value.str (Str.ofString "property") 66, val := Value.type "property" } :: { hash := PyData.keyHash P (Str.ofString "int"), key := Value.str (Str.ofString "int") 67, val := Value.type "int" } :: { hash := PyData.keyHash P (Str.ofString "list"), key := Value.str (Str.ofString "list") 68, val := Value.type "list" } :: { hash := PyData.keyHash P (Str.ofString "map"), key := Value.str (Str.ofString "map") 69, val := Value.type "map" } :: { hash := PyData.keyHash P (Str.ofString "object"), key := Value.str (Str.ofString "object") 70, val := Value.type "object" } :: { hash := PyData.keyHash P (Str.ofString "range"), key := Value.str (Str.ofString "range") 71, val := Value.type "range" } :: { hash := PyData.keyHash P (Str.ofString "reversed"), key := Value.str (Str.ofString "reversed") 72, val := Value.type "reversed" } :: { hash := PyData.keyHash P (Str.ofString "set"), key := Value.str (Str.ofString "set") 73, val := Value.type "set" } :: { hash := PyData.keyHash P (Str.ofString "slice"), key := Value.str (Str.ofString "slice") 74, val := Value.type "slice" } :: { hash := PyData.keyHash P (Str.ofString "staticmethod"), key := Value.str (Str.ofString "staticmethod") 75, val := Value.type "staticmethod" } :: { hash := PyData.keyHash P (Str.ofString "str"), key := Value.str (Str.ofString "str") 76, val := Value.type "str" } :: { hash := PyData.keyHash P (Str.ofString "super"), key := Value.str (Str.ofString "super") 77, val := Value.type "super" } :: { hash := PyData.keyHash P (Str.ofString "tuple"), key := Value.str (Str.ofString "tuple") 78, val := Value.type "tuple" } :: { hash := PyData.keyHash P (Str.ofString "type"), key := Value.str (Str.ofString "type") 79, val := Value.type "type" } :: { hash := PyData.keyHash P (Str.ofString "zip"), key := Value.str (Str.ofString "zip") 80, val := Value.type "zip" } :: { hash := PyData.keyHash P (Str.ofString "__debug__"), key := Value.str (Str.ofString "__debug__") 81, val := Value.bool true } :: { hash := PyData.keyHash P (Str.ofString "BaseException"), key := Value.str (Str.ofString "BaseException") 82, val := Value.type "BaseException" } :: { hash := PyData.keyHash P (Str.ofString "BaseExceptionGroup"), key := Value.str (Str.ofString "BaseExceptionGroup") 83, val := Value.type "BaseExceptionGroup" } :: { hash := PyData.keyHash P (Str.ofString "Exception"), key := Value.str (Str.ofString "Exception") 84, val := Value.type "Exception" } :: { hash := PyData.keyHash P (Str.ofString "GeneratorExit"), key := Value.str (Str.ofString "GeneratorExit") 85, val := Value.type "GeneratorExit" } :: { hash := PyData.keyHash P (Str.ofString "KeyboardInterrupt"), key := Value.str (Str.ofString "KeyboardInterrupt") 86, val := Value.type "KeyboardInterrupt" } :: { hash := PyData.keyHash P (Str.ofString "SystemExit"), key := Value.str (Str.ofString "SystemExit") 87, val := Value.type "SystemExit" } :: { hash := PyData.keyHash P (Str.ofString "ArithmeticError"), key := Value.str (Str.ofString "ArithmeticError") 88, val := Value.type "ArithmeticError" } :: { hash := PyData.keyHash P (Str.ofString "AssertionError"), key := Value.str (Str.ofString "AssertionError") 89, val := Value.type "AssertionError" } :: { hash := PyData.keyHash P (Str.ofString "AttributeError"), key := Value.str (Str.ofString "AttributeError") 90, val := Value.type "AttributeError" } :: { hash := PyData.keyHash P (Str.ofString "BufferError"), key := Value.str (Str.ofString "BufferError") 91, val := Value.type "BufferError" } :: { hash := PyData.keyHash P (Str.ofString "EOFError"), key := Value.str (Str.ofString "EOFError") 92, val := Value.type "EOFError" } :: { hash := PyData.keyHash P (Str.ofString "ImportError"), key := Value.str (Str.ofString "ImportError") 93, val := Value.type "ImportError" } :: { hash := PyData.keyHash P (Str.ofString "LookupError"), key := Value.str (Str.ofString "LookupError") 94, val := Value.type "LookupError" } :: { hash := PyData.keyHash P (Str.ofString "MemoryError"), key := Value.str (Str.ofString "MemoryError") 95, val := Value.type "MemoryError" } :: { hash := PyData.keyHash P (Str.ofString "NameError"), key := Value.str (Str.ofString "NameError") 96, val := Value.type "NameError" } :: { hash := PyData.keyHash P (Str.ofString "OSError"), key := Value.str (Str.ofString "OSError") 97, val := Value.type "OSError" } :: { hash := PyData.keyHash P (Str.ofString "ReferenceError"), key := Value.str (Str.ofString "ReferenceError") 98, val := Value.type "ReferenceError" } :: { hash := PyData.keyHash P (Str.ofString "RuntimeError"), key := Value.str (Str.ofString "RuntimeError") 99, val := Value.type "RuntimeError" } :: { hash := PyData.keyHash P (Str.ofString "StopAsyncIteration"), key := Value.str (Str.ofString "StopAsyncIteration") 100, val := Value.type "StopAsyncIteration" } :: { hash := PyData.keyHash P (Str.ofString "StopIteration"), key := Value.str (Str.ofString "StopIteration") 101, val := Value.type "StopIteration" } :: { hash := PyData.keyHash P (Str.ofString "SyntaxError"), key := Value.str (Str.ofString "SyntaxError") 102, val := Value.type "SyntaxError" } :: { hash := PyData.keyHash P (Str.ofString "SystemError"), key := Value.str (Str.ofString "SystemError") 103, val := Value.type "SystemError" } :: { hash := PyData.keyHash P (Str.ofString "TypeError"), key := Value.str (Str.ofString "TypeError") 104, val := Value.type "TypeError" } :: { hash := PyData.keyHash P (Str.ofString "ValueError"), key := Value.str (Str.ofString "ValueError") 105, val := Value.type "ValueError" } :: { hash := PyData.keyHash P (Str.ofString "Warning"), key := Value.str (Str.ofString "Warning") 106, val := Value.type "Warning" } :: { hash := PyData.keyHash P (Str.ofString "FloatingPointError"), key := Value.str (Str.ofString "FloatingPointError") 107, val := Value.type "FloatingPointError" } :: { hash := PyData.keyHash P (Str.ofString "OverflowError"), key := Value.str (Str.ofString "OverflowError") 108, val := Value.type "OverflowError" } :: { hash := PyData.keyHash P (Str.ofString "ZeroDivisionError"), key := Value.str (Str.ofString "ZeroDivisionError") 109, val := Value.type "ZeroDivisionError" } :: { hash := PyData.keyHash P (Str.ofString "BytesWarning"), key := Value.str (Str.ofString "BytesWarning") 110, val := Value.type "BytesWarning" } :: { hash := PyData.keyHash P (Str.ofString "DeprecationWarning"), key := Value.str (Str.ofString "DeprecationWarning") 111, val := Value.type "DeprecationWarning" } :: { hash := PyData.keyHash P (Str.ofString "EncodingWarning"), key := Value.str (Str.ofString "EncodingWarning") 112, val := Value.type "EncodingWarning" } :: { hash := PyData.keyHash P (Str.ofString "FutureWarning"), key := Value.str (Str.ofString "FutureWarning") 113, val := Value.type "FutureWarning" } :: { hash := PyData.keyHash P (Str.ofString "ImportWarning"), key := Value.str (Str.ofString "ImportWarning") 114, val := Value.type "ImportWarning" } :: { hash := PyData.keyHash P (Str.ofString "PendingDeprecationWarning"), key := Value.str (Str.ofString "PendingDeprecationWarning") 115, val := Value.type "PendingDeprecationWarning" } :: { hash := PyData.keyHash P (Str.ofString "ResourceWarning"), key := Value.str (Str.ofString "ResourceWarning") 116, val := Value.type "ResourceWarning" } :: { hash := PyData.keyHash P (Str.ofString "RuntimeWarning"), key := Value.str (Str.ofString "RuntimeWarning") 117, val := Value.type "RuntimeWarning" } :: { hash := PyData.keyHash P (Str.ofString "SyntaxWarning"), key := Value.str (Str.ofString "SyntaxWarning") 118, val := Value.type "SyntaxWarning" } :: { hash := PyData.keyHash P (Str.ofString "UnicodeWarning"), key := Value.str (Str.ofString "UnicodeWarning") 119, val := Value.type "UnicodeWarning" } :: { hash := PyData.keyHash P (Str.ofString "UserWarning"), key := Value.str (Str.ofString "UserWarning") 120, val := Value.type "UserWarning" } :: { hash := PyData.keyHash P (Str.ofString "BlockingIOError"), key := Value.str (Str.ofString "BlockingIOError") 121, val := Value.type "BlockingIOError" } :: { hash := PyData.keyHash P (Str.ofString "ChildProcessError"), key := Value.str (Str.ofString "ChildProcessError") 122, val := Value.type "ChildProcessError" } :: { hash := PyData.keyHash P (Str.ofString "ConnectionError"), key := Value.str (Str.ofString "ConnectionError") 123, val := Value.type "ConnectionError" } :: { hash := PyData.keyHash P (Str.ofString "FileExistsError"), key := Value.str (Str.ofString "FileExistsError") 124, val := Value.type "FileExistsError" } :: { hash := PyData.keyHash P (Str.ofString "FileNotFoundError"), key := Value.str (Str.ofString "FileNotFoundError") 125, val := Value.type "FileNotFoundError" } :: { hash := PyData.keyHash P (Str.ofString "InterruptedError"), key := Value.str (Str.ofString "InterruptedError") 126, val := Value.type "InterruptedError" } :: { hash := PyData.keyHash P (Str.ofString "IsADirectoryError"), key := Value.str (Str.ofString "IsADirectoryError") 127, val := Value.type "IsADirectoryError" } :: { hash := PyData.keyHash P (Str.ofString "NotADirectoryError"), key := Value.str (Str.ofString "NotADirectoryError") 128, val := Value.type "NotADirectoryError" } :: { hash := PyData.keyHash P (Str.ofString "PermissionError"), key := Value.str (Str.ofString "PermissionError") 129, val := Value.type "PermissionError" } :: { hash := PyData.keyHash P (Str.ofString "ProcessLookupError"), key := Value.str (Str.ofString "ProcessLookupError") 130, val := Value.type "ProcessLookupError" } :: { hash := PyData.keyHash P (Str.ofString "TimeoutError"), key := Value.str (Str.ofString "TimeoutError") 131, val := Value.type "TimeoutError" } :: { hash := PyData.keyHash P (Str.ofString "IndentationError"), key := Value.str (Str.ofString "IndentationError") 132, val := Value.type "IndentationError" } :: { hash := PyData.keyHash P (Str.ofString "_IncompleteInputError"), key := Value.str (Str.ofString "_IncompleteInputError") 133, val := Value.type "_IncompleteInputError" } :: { hash := PyData.keyHash P (Str.ofString "IndexError"), key := Value.str (Str.ofString "IndexError") 134, val := Value.type "IndexError" } :: { hash := PyData.keyHash P (Str.ofString "KeyError"), key := Value.str (Str.ofString "KeyError") 135, val := Value.type "KeyError" } :: { hash := PyData.keyHash P (Str.ofString "ModuleNotFoundError"), key := Value.str (Str.ofString "ModuleNotFoundError") 136, val := Value.type "ModuleNotFoundError" } :: { hash := PyData.keyHash P (Str.ofString "NotImplementedError"), key := Value.str (Str.ofString "NotImplementedError") 137, val := Value.type "NotImplementedError" } :: { hash := PyData.keyHash P (Str.ofString "PythonFinalizationError"), key := Value.str (Str.ofString "PythonFinalizationError") 138, val := Value.type "PythonFinalizationError" } :: { hash := PyData.keyHash P (Str.ofString "RecursionError"), key := Value.str (Str.ofString "RecursionError") 139, val := Value.type "RecursionError" } :: { hash := PyData.keyHash P (Str.ofString "UnboundLocalError"), key := Value.str (Str.ofString "UnboundLocalError") 140, val := Value.type "UnboundLocalError" } :: { hash := PyData.keyHash P (Str.ofString "UnicodeError"), key := Value.str (Str.ofString "UnicodeError") 141, val := Value.type "UnicodeError" } :: { hash := PyData.keyHash P (Str.ofString "BrokenPipeError"), key := Value.str (Str.ofString "BrokenPipeError") 142, val := Value.type "BrokenPipeError" } :: { hash := PyData.keyHash P (Str.ofString "ConnectionAbortedError"), key := Value.str (Str.ofString "ConnectionAbortedError") 143, val := Value.type "ConnectionAbortedError" } :: { hash := PyData.keyHash P (Str.ofString "ConnectionRefusedError"), key := Value.str (Str.ofString "ConnectionRefusedError") 144, val := Value.type "ConnectionRefusedError" } :: { hash := PyData.keyHash P (Str.ofString "ConnectionResetError"), key := Value.str (Str.ofString "ConnectionResetError") 145, val := Value.type "ConnectionResetError" } :: { hash := PyData.keyHash P (Str.ofString "TabError"), key := Value.str (Str.ofString "TabError") 146, val := Value.type "TabError" } :: { hash := PyData.keyHash P (Str.ofString "UnicodeDecodeError"), key := Value.str (Str.ofString "UnicodeDecodeError") 147, val := Value.type "UnicodeDecodeError" } :: { hash := PyData.keyHash P (Str.ofString "UnicodeEncodeError"), key := Value.str (Str.ofString "UnicodeEncodeError") 148, val := Value.type "UnicodeEncodeError" } :: { hash := PyData.keyHash P (Str.ofString "UnicodeTranslateError"), key := Value.str (Str.ofString "UnicodeTranslateError") 149, val := Value.type "UnicodeTranslateError" } :: { hash := PyData.keyHash P (Str.ofString "ExceptionGroup"), key := Value.str (Str.ofString "ExceptionGroup") 150, val := Value.type "ExceptionGroup" } :: { hash := PyData.keyHash P (Str.ofString "EnvironmentError"), key := Value.str (Str.ofString "EnvironmentError") 151, val := Value.type "OSError" } :: { hash := PyData.keyHash P (Str.ofString "IOError"), key := Value.str (Str.ofString "IOError") 152, val := Value.type "OSError" } :: { hash := PyData.keyHash P (Str.ofString "open"), key := Value.str (Str.ofString "open") 153, val := Value.builtin "open" } :: { hash := PyData.keyHash P (Str.ofString "quit"), key := Value.str (Str.ofString "quit") 154, val := Value.builtin "builtins.quit#opaque" } :: { hash := PyData.keyHash P (Str.ofString "exit"), key := Value.str (Str.ofString "exit") 155, val := Value.builtin "builtins.exit#opaque" } :: { hash := PyData.keyHash P (Str.ofString "copyright"), key := Value.str (Str.ofString "copyright") 156, val := Value.builtin "builtins.copyright#opaque" } :: { hash := PyData.keyHash P (Str.ofString "credits"), key := Value.str (Str.ofString "credits") 157, val := Value.builtin "builtins.credits#opaque" } :: { hash := PyData.keyHash P (Str.ofString "license"), key := Value.str (Str.ofString "license") 158, val := Value.builtin "builtins.license#opaque" } :: { hash := PyData.keyHash P (Str.ofString "help"), key := Value.str (Str.ofString "help") 159, val := Value.builtin "builtins.help#opaque" } :: [])) 159 }) ::
  (nat_lit 1, { cls := Value.type "dict", data := Data.dict #[{ hash := PyData.keyHash P (Str.ofString "builtins"), key := Value.str (Str.ofString "builtins") 162, val := Value.ref 4 }, { hash := PyData.keyHash P (Str.ofString "__main__"), key := Value.str (Str.ofString "__main__") 163, val := Value.ref 5 }] 2 }) ::
  (nat_lit 4, { cls := Value.type "module", dict := some 0 }) ::
  (nat_lit 5, { cls := Value.type "module", dict := some 3 }) ::
  (nat_lit 6, { cls := Value.type "dict", data := Data.dict #[] }) ::
  (nat_lit 7, { cls := Value.type "tuple", data := Data.seq #[] }) ::
  (nat_lit 8, { cls := Value.none, data := Data.fields #[] }) ::
  (nat_lit 9, { cls := Value.type "code", data := Data.fields #[Value.str (Str.ofString "<module>") 176, Value.str (Str.ofString "<module>") 177, Value.str (Str.ofString "/claim/cut.py") 178, Value.int 1 0, Value.int 0 0, Value.int 0 0, Value.int 0 0, Value.int 0 0, Value.ref 7, Value.bool false, Value.int 175 0, Value.ref 8, Value.none, Value.none, Value.none, Value.none, Value.int 179 0, Value.int 1 0, Value.str (Str.ofString "/claim/cut.py") 180] }) ::
  (nat_lit 10, { cls := Value.type "frame", slots := #[some (Value.ref 9), some (Value.ref 3), some (Value.ref 3), none, some (Value.str (Str.ofString "__main__") 164), none, some (Value.ref 0)] }) ::
  (nat_lit 11, { cls := Value.type "tuple", data := Data.seq #[] }) ::
  (nat_lit 12, { cls := Value.none, data := Data.fields #[Value.int 1 0, Value.int 0 0, Value.ref 20, Value.int 5 0, Value.int 0 0, Value.ref 27, Value.int 10 0, Value.int 0 0, Value.ref 47, Value.int 27 0, Value.int 0 0, Value.ref 68, Value.int 35 0, Value.int 0 0, Value.ref 90, Value.int 37 0, Value.int 0 0, Value.ref 97, Value.int 43 0, Value.int 0 0, Value.ref 104, Value.int 46 0, Value.int 0 0, Value.ref 111, Value.int 49 0, Value.int 0 0, Value.ref 118, Value.int 54 0, Value.int 0 0, Value.ref 125, Value.int 57 0, Value.int 0 0, Value.ref 132, Value.int 61 0, Value.int 0 0, Value.ref 139, Value.int 64 0, Value.int 0 0, Value.ref 146, Value.int 68 0, Value.int 0 0, Value.ref 153, Value.int 70 0, Value.int 0 0, Value.ref 160, Value.int 74 0, Value.int 0 0, Value.ref 167, Value.int 84 0, Value.int 0 0, Value.ref 174, Value.int 99 0, Value.int 0 0, Value.ref 181, Value.int 109 0, Value.int 0 0, Value.ref 209, Value.int 118 0, Value.int 0 0, Value.ref 237, Value.int 127 0, Value.int 0 0, Value.ref 265, Value.int 187 0, Value.int 0 0, Value.ref 380, Value.int 190 0, Value.int 0 0, Value.ref 387, Value.int 192 0, Value.int 0 0, Value.ref 394, Value.int 194 0, Value.int 0 0, Value.ref 399, Value.int 196 0, Value.int 0 0, Value.ref 406, Value.int 199 0, Value.int 0 0, Value.ref 413, Value.int 203 0, Value.int 0 0, Value.ref 420, Value.int 205 0, Value.int 0 0, Value.ref 427, Value.int 214 0, Value.int 0 0, Value.ref 432, Value.int 227 0, Value.int 0 0, Value.ref 437, Value.int 229 0, Value.int 0 0, Value.ref 444, Value.int 233 0, Value.int 0 0, Value.ref 451, Value.int 237 0, Value.int 0 0, Value.ref 458, Value.int 239 0, Value.int 0 0, Value.ref 465, Value.int 241 0, Value.int 0 0, Value.ref 472, Value.int 249 0, Value.int 0 0, Value.ref 477, Value.int 260 0, Value.int 0 0, Value.ref 484] }) ::
  (nat_lit 13, { cls := Value.type "code", data := Data.fields #[Value.str (Str.ofString "<module>") 182, Value.str (Str.ofString "<module>") 183, Value.str (Str.ofString "/claim/cut.py") 184, Value.int 1 0, Value.int 0 0, Value.int 0 0, Value.int 0 0, Value.int 0 0, Value.ref 11, Value.bool false, Value.int 181 0, Value.ref 12, Value.none, Value.none, Value.none, Value.none, Value.int 185 0, Value.int 1 0, Value.str (Str.ofString "/claim/cut.py") 186] }) ::
  (nat_lit 14, { cls := Value.type "frame", slots := #[some (Value.ref 13), some (Value.ref 3), some (Value.ref 3), none, some (Value.str (Str.ofString "__main__") 164), none, some (Value.ref 0)] }) ::
  (nat_lit 16, { cls := Value.none, data := Data.fields #[] }) ::
  (nat_lit 19, fnP (rfl : nth PySem.Challenge.pw_nm0133_01.main.body 0 = _) "_wall" 0 (Value.none) (Value.none) (Value.none)) ::
  (nat_lit 23, { cls := Value.type "builtin_function_or_method", data := Data.fields #[Value.builtin "type.__prepare__", Value.type "type"] }) ::
  (nat_lit 24, { cls := Value.type "dict", data := Data.dict #[{ hash := PyData.keyHash P (Str.ofString "__module__"), key := Value.str (Str.ofString "__module__") 203, val := Value.str (Str.ofString "wasmcore.faults") 194 }, { hash := PyData.keyHash P (Str.ofString "__qualname__"), key := Value.str (Str.ofString "__qualname__") 205, val := Value.str (Str.ofString "WasmFault") 204 }, { hash := PyData.keyHash P (Str.ofString "__firstlineno__"), key := Value.str (Str.ofString "__firstlineno__") 207, val := Value.int 5 206 }, { hash := PyData.keyHash P (Str.ofString "__init__"), key := Value.str (Str.ofString "__init__") 215, val := Value.ref 35 }, { hash := PyData.keyHash P (Str.ofString "__static_attributes__"), key := Value.str (Str.ofString "__static_attributes__") 217, val := Value.ref 36 }] 5 }) ::
  (nat_lit 25, { cls := Value.type "tuple", data := Data.seq #[] }) ::
  (nat_lit 26, { cls := Value.none, data := Data.fields #[Value.int 7 0, Value.int 4 0, Value.ref 34] }) ::
  (nat_lit 27, { cls := Value.type "code", data := Data.fields #[Value.str (Str.ofString "WasmFault") 198, Value.str (Str.ofString "WasmFault") 199, Value.str (Str.ofString "/claim/cut.py") 200, Value.int 5 0, Value.int 0 0, Value.int 0 0, Value.int 0 0, Value.int 0 0, Value.ref 25, Value.bool false, Value.int 181 0, Value.ref 26, Value.none, Value.none, Value.none, Value.none, Value.int 201 0, Value.int 5 0, Value.str (Str.ofString "/claim/cut.py") 202] }) ::
  (nat_lit 28, { cls := Value.type "frame", slots := #[some (Value.ref 27), some (Value.ref 3), some (Value.ref 24), none, some (Value.str (Str.ofString "wasmcore.faults") 194), none, some (Value.ref 0)] }) ::
  (nat_lit 30, { cls := Value.none, data := Data.fields #[] }) ::
  (nat_lit 33, fnP (rfl : nth (inner (nth PySem.Challenge.pw_nm0133_01.main.body 2)) 0 = _) "WasmFault.__init__" 0 (Value.none) (Value.none) (Value.none)) ::
  (nat_lit 40, { cls := Value.type "super", data := Data.fields #[Value.ref 38, Value.ref 38, Value.ref 38] }) ::
  (nat_lit 41, { cls := Value.type "builtin_function_or_method", data := Data.fields #[Value.builtin "object.__init_subclass__", Value.ref 38] }) ::
  (nat_lit 43, { cls := Value.type "builtin_function_or_method", data := Data.fields #[Value.builtin "type.__prepare__", Value.type "type"] }) ::
  (nat_lit 44, { cls := Value.type "dict", data := Data.dict #[{ hash := PyData.keyHash P (Str.ofString "__module__"), key := Value.str (Str.ofString "__module__") 232, val := Value.str (Str.ofString "wasmcore.faults") 194 }, { hash := PyData.keyHash P (Str.ofString "__qualname__"), key := Value.str (Str.ofString "__qualname__") 234, val := Value.str (Str.ofString "Invalid") 233 }, { hash := PyData.keyHash P (Str.ofString "__firstlineno__"), key := Value.str (Str.ofString "__firstlineno__") 236, val := Value.int 10 235 }, { hash := PyData.keyHash P (Str.ofString "__init__"), key := Value.str (Str.ofString "__init__") 246, val := Value.ref 55 }, { hash := PyData.keyHash P (Str.ofString "__static_attributes__"), key := Value.str (Str.ofString "__static_attributes__") 249, val := Value.ref 56 }] 5 }) ::
  (nat_lit 45, { cls := Value.type "tuple", data := Data.seq #[] }) ::
  (nat_lit 46, { cls := Value.none, data := Data.fields #[Value.int 12 0, Value.int 4 0, Value.ref 54] }) ::
  (nat_lit 47, { cls := Value.type "code", data := Data.fields #[Value.str (Str.ofString "Invalid") 227, Value.str (Str.ofString "Invalid") 228, Value.str (Str.ofString "/claim/cut.py") 229, Value.int 10 0, Value.int 0 0, Value.int 0 0, Value.int 0 0, Value.int 0 0, Value.ref 45, Value.bool false, Value.int 181 0, Value.ref 46, Value.none, Value.none, Value.none, Value.none, Value.int 230 0, Value.int 10 0, Value.str (Str.ofString "/claim/cut.py") 231] }) ::
  (nat_lit 48, { cls := Value.type "frame", slots := #[some (Value.ref 47), some (Value.ref 3), some (Value.ref 44), none, some (Value.str (Str.ofString "wasmcore.faults") 194), none, some (Value.ref 0)] }) ::
  (nat_lit 50, { cls := Value.none, data := Data.fields #[] }) ::
  (nat_lit 53, fnP (rfl : nth (inner (nth PySem.Challenge.pw_nm0133_01.main.body 3)) 0 = _) "Invalid.__init__" 0 (Value.none) (Value.none) (Value.none)) ::
  (nat_lit 59, { cls := Value.type "super", data := Data.fields #[Value.ref 58, Value.ref 58, Value.ref 58] }) ::
  (nat_lit 60, { cls := Value.type "builtin_function_or_method", data := Data.fields #[Value.builtin "object.__init_subclass__", Value.ref 58] }) ::
  (nat_lit 63, { cls := Value.type "tuple", data := Data.seq #[] }) ::
  (nat_lit 64, { cls := Value.type "builtin_function_or_method", data := Data.fields #[Value.builtin "type.__prepare__", Value.type "type"] }) ::
  (nat_lit 65, { cls := Value.type "dict", data := Data.dict #[{ hash := PyData.keyHash P (Str.ofString "__module__"), key := Value.str (Str.ofString "__module__") 296, val := Value.str (Str.ofString "wasmcore.kinds") 253 }, { hash := PyData.keyHash P (Str.ofString "__qualname__"), key := Value.str (Str.ofString "__qualname__") 298, val := Value.str (Str.ofString "Sizes") 297 }, { hash := PyData.keyHash P (Str.ofString "__firstlineno__"), key := Value.str (Str.ofString "__firstlineno__") 300, val := Value.int 27 299 }, { hash := PyData.keyHash P (Str.ofString "__init__"), key := Value.str (Str.ofString "__init__") 316, val := Value.ref 77 }, { hash := PyData.keyHash P (Str.ofString "__static_attributes__"), key := Value.str (Str.ofString "__static_attributes__") 322, val := Value.ref 78 }] 5 }) ::
  (nat_lit 66, { cls := Value.type "tuple", data := Data.seq #[] }) ::
  (nat_lit 67, { cls := Value.none, data := Data.fields #[Value.int 29 0, Value.int 4 0, Value.ref 76] }) ::
  (nat_lit 68, { cls := Value.type "code", data := Data.fields #[Value.str (Str.ofString "Sizes") 291, Value.str (Str.ofString "Sizes") 292, Value.str (Str.ofString "/claim/cut.py") 293, Value.int 27 0, Value.int 0 0, Value.int 0 0, Value.int 0 0, Value.int 0 0, Value.ref 66, Value.bool false, Value.int 181 0, Value.ref 67, Value.none, Value.none, Value.none, Value.none, Value.int 294 0, Value.int 27 0, Value.str (Str.ofString "/claim/cut.py") 295] }) ::
  (nat_lit 69, { cls := Value.type "frame", slots := #[some (Value.ref 68), some (Value.ref 3), some (Value.ref 65), none, some (Value.str (Str.ofString "wasmcore.kinds") 253), none, some (Value.ref 0)] }) ::
  (nat_lit 72, { cls := Value.none, data := Data.fields #[] }) ::
  (nat_lit 75, fnP (rfl : nth (inner (nth PySem.Challenge.pw_nm0133_01.main.body 15)) 0 = _) "Sizes.__init__" 0 (Value.none) (Value.none) (Value.none)) ::
  (nat_lit 83, { cls := Value.type "super", data := Data.fields #[Value.ref 80, Value.ref 80, Value.ref 80] }) ::
  (nat_lit 84, { cls := Value.type "builtin_function_or_method", data := Data.fields #[Value.builtin "object.__init_subclass__", Value.ref 80] }) ::
  (nat_lit 86, { cls := Value.none, data := Data.fields #[] }) ::
  (nat_lit 89, fnP (rfl : nth PySem.Challenge.pw_nm0133_01.main.body 16 = _) "is_kind" 0 (Value.none) (Value.none) (Value.none)) ::
  (nat_lit 93, { cls := Value.none, data := Data.fields #[] }) ::
  (nat_lit 96, fnP (rfl : nth PySem.Challenge.pw_nm0133_01.main.body 17 = _) "is_ref" 0 (Value.none) (Value.none) (Value.none)) ::
  (nat_lit 100, { cls := Value.none, data := Data.fields #[] }) ::
  (nat_lit 103, fnP (rfl : nth PySem.Challenge.pw_nm0133_01.main.body 22 = _) "want" 0 (Value.none) (Value.none) (Value.none)) ::
  (nat_lit 107, { cls := Value.none, data := Data.fields #[] }) ::
  (nat_lit 110, fnP (rfl : nth PySem.Challenge.pw_nm0133_01.main.body 23 = _) "want_kinds" 0 (Value.none) (Value.none) (Value.none)) ::
  (nat_lit 114, { cls := Value.none, data := Data.fields #[] }) ::
  (nat_lit 117, fnP (rfl : nth PySem.Challenge.pw_nm0133_01.main.body 24 = _) "check_limits" 0 (Value.none) (Value.none) (Value.none)) ::
  (nat_lit 121, { cls := Value.none, data := Data.fields #[] }) ::
  (nat_lit 124, fnP (rfl : nth PySem.Challenge.pw_nm0133_01.main.body 25 = _) "pages_text" 0 (Value.none) (Value.none) (Value.none)) ::
  (nat_lit 128, { cls := Value.none, data := Data.fields #[] }) ::
  (nat_lit 131, fnP (rfl : nth PySem.Challenge.pw_nm0133_01.main.body 26 = _) "check_table_kind" 0 (Value.none) (Value.none) (Value.none)) ::
  (nat_lit 135, { cls := Value.none, data := Data.fields #[] }) ::
  (nat_lit 138, fnP (rfl : nth PySem.Challenge.pw_nm0133_01.main.body 27 = _) "check_memory_kind" 0 (Value.none) (Value.none) (Value.none)) ::
  (nat_lit 142, { cls := Value.none, data := Data.fields #[] }) ::
  (nat_lit 145, fnP (rfl : nth PySem.Challenge.pw_nm0133_01.main.body 28 = _) "check_global_kind" 0 (Value.none) (Value.none) (Value.none)) ::
  (nat_lit 149, { cls := Value.none, data := Data.fields #[] }) ::
  (nat_lit 152, fnP (rfl : nth PySem.Challenge.pw_nm0133_01.main.body 29 = _) "want_type" 0 (Value.none) (Value.none) (Value.none)) ::
  (nat_lit 156, { cls := Value.none, data := Data.fields #[] }) ::
  (nat_lit 159, fnP (rfl : nth PySem.Challenge.pw_nm0133_01.main.body 30 = _) "check_types" 0 (Value.none) (Value.none) (Value.none)) ::
  (nat_lit 163, { cls := Value.none, data := Data.fields #[] }) ::
  (nat_lit 166, fnP (rfl : nth PySem.Challenge.pw_nm0133_01.main.body 31 = _) "check_import" 0 (Value.none) (Value.none) (Value.none)) ::
  (nat_lit 170, { cls := Value.none, data := Data.fields #[] }) ::
  (nat_lit 173, fnP (rfl : nth PySem.Challenge.pw_nm0133_01.main.body 32 = _) "check_heads" 0 (Value.none) (Value.none) (Value.none)) ::
  (nat_lit 176, { cls := Value.type "tuple", data := Data.seq #[] }) ::
  (nat_lit 177, { cls := Value.type "builtin_function_or_method", data := Data.fields #[Value.builtin "type.__prepare__", Value.type "type"] }) ::
  (nat_lit 178, { cls := Value.type "dict", data := Data.dict #[{ hash := PyData.keyHash P (Str.ofString "__module__"), key := Value.str (Str.ofString "__module__") 463, val := Value.str (Str.ofString "wasmcore.modules") 454 }, { hash := PyData.keyHash P (Str.ofString "__qualname__"), key := Value.str (Str.ofString "__qualname__") 465, val := Value.str (Str.ofString "Import") 464 }, { hash := PyData.keyHash P (Str.ofString "__firstlineno__"), key := Value.str (Str.ofString "__firstlineno__") 467, val := Value.int 99 466 }, { hash := PyData.keyHash P (Str.ofString "__init__"), key := Value.str (Str.ofString "__init__") 478, val := Value.ref 189 }, { hash := PyData.keyHash P (Str.ofString "plain"), key := Value.str (Str.ofString "plain") 485, val := Value.ref 196 }, { hash := PyData.keyHash P (Str.ofString "__static_attributes__"), key := Value.str (Str.ofString "__static_attributes__") 490, val := Value.ref 197 }] 6 }) ::
  (nat_lit 179, { cls := Value.type "tuple", data := Data.seq #[] }) ::
  (nat_lit 180, { cls := Value.none, data := Data.fields #[Value.int 101 0, Value.int 4 0, Value.ref 188, Value.int 107 0, Value.int 4 0, Value.ref 195] }) ::
  (nat_lit 181, { cls := Value.type "code", data := Data.fields #[Value.str (Str.ofString "Import") 458, Value.str (Str.ofString "Import") 459, Value.str (Str.ofString "/claim/cut.py") 460, Value.int 99 0, Value.int 0 0, Value.int 0 0, Value.int 0 0, Value.int 0 0, Value.ref 179, Value.bool false, Value.int 181 0, Value.ref 180, Value.none, Value.none, Value.none, Value.none, Value.int 461 0, Value.int 99 0, Value.str (Str.ofString "/claim/cut.py") 462] }) ::
  (nat_lit 182, { cls := Value.type "frame", slots := #[some (Value.ref 181), some (Value.ref 3), some (Value.ref 178), none, some (Value.str (Str.ofString "wasmcore.modules") 454), none, some (Value.ref 0)] }) ::
  (nat_lit 184, { cls := Value.none, data := Data.fields #[] }) ::
  (nat_lit 187, fnP (rfl : nth (inner (nth PySem.Challenge.pw_nm0133_01.main.body 34)) 0 = _) "Import.__init__" 0 (Value.none) (Value.none) (Value.none)) ::
  (nat_lit 191, { cls := Value.none, data := Data.fields #[] }) ::
  (nat_lit 194, fnP (rfl : nth (inner (nth PySem.Challenge.pw_nm0133_01.main.body 34)) 1 = _) "Import.plain" 0 (Value.none) (Value.none) (Value.none)) ::
  (nat_lit 202, { cls := Value.type "super", data := Data.fields #[Value.ref 199, Value.ref 199, Value.ref 199] }) ::
  (nat_lit 203, { cls := Value.type "builtin_function_or_method", data := Data.fields #[Value.builtin "object.__init_subclass__", Value.ref 199] }) ::
  (nat_lit 204, { cls := Value.type "tuple", data := Data.seq #[] }) ::
  (nat_lit 205, { cls := Value.type "builtin_function_or_method", data := Data.fields #[Value.builtin "type.__prepare__", Value.type "type"] }) ::
  (nat_lit 206, { cls := Value.type "dict", data := Data.dict #[{ hash := PyData.keyHash P (Str.ofString "__module__"), key := Value.str (Str.ofString "__module__") 505, val := Value.str (Str.ofString "wasmcore.modules") 454 }, { hash := PyData.keyHash P (Str.ofString "__qualname__"), key := Value.str (Str.ofString "__qualname__") 507, val := Value.str (Str.ofString "Func") 506 }, { hash := PyData.keyHash P (Str.ofString "__firstlineno__"), key := Value.str (Str.ofString "__firstlineno__") 509, val := Value.int 109 508 }, { hash := PyData.keyHash P (Str.ofString "__init__"), key := Value.str (Str.ofString "__init__") 519, val := Value.ref 217 }, { hash := PyData.keyHash P (Str.ofString "plain"), key := Value.str (Str.ofString "plain") 526, val := Value.ref 224 }, { hash := PyData.keyHash P (Str.ofString "__static_attributes__"), key := Value.str (Str.ofString "__static_attributes__") 530, val := Value.ref 225 }] 6 }) ::
  (nat_lit 207, { cls := Value.type "tuple", data := Data.seq #[] }) ::
  (nat_lit 208, { cls := Value.none, data := Data.fields #[Value.int 111 0, Value.int 4 0, Value.ref 216, Value.int 116 0, Value.int 4 0, Value.ref 223] }) ::
  (nat_lit 209, { cls := Value.type "code", data := Data.fields #[Value.str (Str.ofString "Func") 500, Value.str (Str.ofString "Func") 501, Value.str (Str.ofString "/claim/cut.py") 502, Value.int 109 0, Value.int 0 0, Value.int 0 0, Value.int 0 0, Value.int 0 0, Value.ref 207, Value.bool false, Value.int 181 0, Value.ref 208, Value.none, Value.none, Value.none, Value.none, Value.int 503 0, Value.int 109 0, Value.str (Str.ofString "/claim/cut.py") 504] }) ::
  (nat_lit 210, { cls := Value.type "frame", slots := #[some (Value.ref 209), some (Value.ref 3), some (Value.ref 206), none, some (Value.str (Str.ofString "wasmcore.modules") 454), none, some (Value.ref 0)] }) ::
  (nat_lit 212, { cls := Value.none, data := Data.fields #[] }) ::
  (nat_lit 215, fnP (rfl : nth (inner (nth PySem.Challenge.pw_nm0133_01.main.body 35)) 0 = _) "Func.__init__" 0 (Value.none) (Value.none) (Value.none)) ::
  (nat_lit 219, { cls := Value.none, data := Data.fields #[] }) ::
  (nat_lit 222, fnP (rfl : nth (inner (nth PySem.Challenge.pw_nm0133_01.main.body 35)) 1 = _) "Func.plain" 0 (Value.none) (Value.none) (Value.none)) ::
  (nat_lit 230, { cls := Value.type "super", data := Data.fields #[Value.ref 227, Value.ref 227, Value.ref 227] }) ::
  (nat_lit 231, { cls := Value.type "builtin_function_or_method", data := Data.fields #[Value.builtin "object.__init_subclass__", Value.ref 227] }) ::
  (nat_lit 232, { cls := Value.type "tuple", data := Data.seq #[] }) ::
  (nat_lit 233, { cls := Value.type "builtin_function_or_method", data := Data.fields #[Value.builtin "type.__prepare__", Value.type "type"] }) ::
  (nat_lit 234, { cls := Value.type "dict", data := Data.dict #[{ hash := PyData.keyHash P (Str.ofString "__module__"), key := Value.str (Str.ofString "__module__") 545, val := Value.str (Str.ofString "wasmcore.modules") 454 }, { hash := PyData.keyHash P (Str.ofString "__qualname__"), key := Value.str (Str.ofString "__qualname__") 547, val := Value.str (Str.ofString "Global") 546 }, { hash := PyData.keyHash P (Str.ofString "__firstlineno__"), key := Value.str (Str.ofString "__firstlineno__") 549, val := Value.int 118 548 }, { hash := PyData.keyHash P (Str.ofString "__init__"), key := Value.str (Str.ofString "__init__") 559, val := Value.ref 245 }, { hash := PyData.keyHash P (Str.ofString "plain"), key := Value.str (Str.ofString "plain") 566, val := Value.ref 252 }, { hash := PyData.keyHash P (Str.ofString "__static_attributes__"), key := Value.str (Str.ofString "__static_attributes__") 570, val := Value.ref 253 }] 6 }) ::
  (nat_lit 235, { cls := Value.type "tuple", data := Data.seq #[] }) ::
  (nat_lit 236, { cls := Value.none, data := Data.fields #[Value.int 120 0, Value.int 4 0, Value.ref 244, Value.int 125 0, Value.int 4 0, Value.ref 251] }) ::
  (nat_lit 237, { cls := Value.type "code", data := Data.fields #[Value.str (Str.ofString "Global") 540, Value.str (Str.ofString "Global") 541, Value.str (Str.ofString "/claim/cut.py") 542, Value.int 118 0, Value.int 0 0, Value.int 0 0, Value.int 0 0, Value.int 0 0, Value.ref 235, Value.bool false, Value.int 181 0, Value.ref 236, Value.none, Value.none, Value.none, Value.none, Value.int 543 0, Value.int 118 0, Value.str (Str.ofString "/claim/cut.py") 544] }) ::
  (nat_lit 238, { cls := Value.type "frame", slots := #[some (Value.ref 237), some (Value.ref 3), some (Value.ref 234), none, some (Value.str (Str.ofString "wasmcore.modules") 454), none, some (Value.ref 0)] }) ::
  (nat_lit 240, { cls := Value.none, data := Data.fields #[] }) ::
  (nat_lit 243, fnP (rfl : nth (inner (nth PySem.Challenge.pw_nm0133_01.main.body 36)) 0 = _) "Global.__init__" 0 (Value.none) (Value.none) (Value.none)) ::
  (nat_lit 247, { cls := Value.none, data := Data.fields #[] }) ::
  (nat_lit 250, fnP (rfl : nth (inner (nth PySem.Challenge.pw_nm0133_01.main.body 36)) 1 = _) "Global.plain" 0 (Value.none) (Value.none) (Value.none)) ::
  (nat_lit 258, { cls := Value.type "super", data := Data.fields #[Value.ref 255, Value.ref 255, Value.ref 255] }) ::
  (nat_lit 259, { cls := Value.type "builtin_function_or_method", data := Data.fields #[Value.builtin "object.__init_subclass__", Value.ref 255] }) ::
  (nat_lit 260, { cls := Value.type "tuple", data := Data.seq #[] }) ::
  (nat_lit 261, { cls := Value.type "builtin_function_or_method", data := Data.fields #[Value.builtin "type.__prepare__", Value.type "type"] }) ::
  (nat_lit 262, { cls := Value.type "dict", data := Data.dict #[{ hash := PyData.keyHash P (Str.ofString "__module__"), key := Value.str (Str.ofString "__module__") 585, val := Value.str (Str.ofString "wasmcore.modules") 454 }, { hash := PyData.keyHash P (Str.ofString "__qualname__"), key := Value.str (Str.ofString "__qualname__") 587, val := Value.str (Str.ofString "Module") 586 }, { hash := PyData.keyHash P (Str.ofString "__firstlineno__"), key := Value.str (Str.ofString "__firstlineno__") 589, val := Value.int 127 588 }, { hash := PyData.keyHash P (Str.ofString "__init__"), key := Value.str (Str.ofString "__init__") 596, val := Value.ref 273 }, { hash := PyData.keyHash P (Str.ofString "imported"), key := Value.str (Str.ofString "imported") 604, val := Value.ref 280 }, { hash := PyData.keyHash P (Str.ofString "abouts"), key := Value.str (Str.ofString "abouts") 610, val := Value.ref 285 }, { hash := PyData.keyHash P (Str.ofString "func_kinds"), key := Value.str (Str.ofString "func_kinds") 617, val := Value.ref 292 }, { hash := PyData.keyHash P (Str.ofString "table_kinds"), key := Value.str (Str.ofString "table_kinds") 624, val := Value.ref 299 }, { hash := PyData.keyHash P (Str.ofString "memory_kinds"), key := Value.str (Str.ofString "memory_kinds") 631, val := Value.ref 306 }, { hash := PyData.keyHash P (Str.ofString "global_kinds"), key := Value.str (Str.ofString "global_kinds") 638, val := Value.ref 313 }, { hash := PyData.keyHash P (Str.ofString "many"), key := Value.str (Str.ofString "many") 647, val := Value.ref 320 }, { hash := PyData.keyHash P (Str.ofString "func"), key := Value.str (Str.ofString "func") 656, val := Value.ref 327 }, { hash := PyData.keyHash P (Str.ofString "kind_of_func"), key := Value.str (Str.ofString "kind_of_func") 664, val := Value.ref 334 }, { hash := PyData.keyHash P (Str.ofString "export"), key := Value.str (Str.ofString "export") 672, val := Value.ref 341 }, { hash := PyData.keyHash P (Str.ofString "plain"), key := Value.str (Str.ofString "plain") 680, val := Value.ref 348 }, { hash := PyData.keyHash P (Str.ofString "bodies"), key := Value.str (Str.ofString "bodies") 687, val := Value.ref 355 }, { hash := PyData.keyHash P (Str.ofString "constants"), key := Value.str (Str.ofString "constants") 694, val := Value.ref 362 }, { hash := PyData.keyHash P (Str.ofString "copy"), key := Value.str (Str.ofString "copy") 701, val := Value.ref 369 }, { hash := PyData.keyHash P (Str.ofString "__static_attributes__"), key := Value.str (Str.ofString "__static_attributes__") 713, val := Value.ref 370 }] 19 }) ::
  (nat_lit 263, { cls := Value.type "tuple", data := Data.seq #[] }) ::
  (nat_lit 264, { cls := Value.none, data := Data.fields #[Value.int 129 0, Value.int 4 0, Value.ref 272, Value.int 142 0, Value.int 4 0, Value.ref 279, Value.int 145 0, Value.int 4 0, Value.ref 284, Value.int 148 0, Value.int 4 0, Value.ref 291, Value.int 151 0, Value.int 4 0, Value.ref 298, Value.int 154 0, Value.int 4 0, Value.ref 305, Value.int 157 0, Value.int 4 0, Value.ref 312, Value.int 160 0, Value.int 4 0, Value.ref 319, Value.int 164 0, Value.int 4 0, Value.ref 326, Value.int 168 0, Value.int 4 0, Value.ref 333, Value.int 171 0, Value.int 4 0, Value.ref 340, Value.int 174 0, Value.int 4 0, Value.ref 347, Value.int 179 0, Value.int 4 0, Value.ref 354, Value.int 182 0, Value.int 4 0, Value.ref 361, Value.int 185 0, Value.int 4 0, Value.ref 368] }) ::
  (nat_lit 265, { cls := Value.type "code", data := Data.fields #[Value.str (Str.ofString "Module") 580, Value.str (Str.ofString "Module") 581, Value.str (Str.ofString "/claim/cut.py") 582, Value.int 127 0, Value.int 0 0, Value.int 0 0, Value.int 0 0, Value.int 0 0, Value.ref 263, Value.bool false, Value.int 181 0, Value.ref 264, Value.none, Value.none, Value.none, Value.none, Value.int 583 0, Value.int 127 0, Value.str (Str.ofString "/claim/cut.py") 584] }) ::
  (nat_lit 266, { cls := Value.type "frame", slots := #[some (Value.ref 265), some (Value.ref 3), some (Value.ref 262), none, some (Value.str (Str.ofString "wasmcore.modules") 454), none, some (Value.ref 0)] }) ::
  (nat_lit 268, { cls := Value.none, data := Data.fields #[] }) ::
  (nat_lit 271, fnP (rfl : nth (inner (nth PySem.Challenge.pw_nm0133_01.main.body 37)) 0 = _) "Module.__init__" 0 (Value.none) (Value.none) (Value.none)) ::
  (nat_lit 275, { cls := Value.none, data := Data.fields #[] }) ::
  (nat_lit 278, fnP (rfl : nth (inner (nth PySem.Challenge.pw_nm0133_01.main.body 37)) 1 = _) "Module.imported" 0 (Value.none) (Value.none) (Value.none)) ::
  (nat_lit 282, { cls := Value.none, data := Data.fields #[] }) ::
  (nat_lit 283, fnP (rfl : nth (inner (nth PySem.Challenge.pw_nm0133_01.main.body 37)) 2 = _) "Module.abouts" 0 (Value.none) (Value.none) (Value.none)) ::
  (nat_lit 287, { cls := Value.none, data := Data.fields #[] }) ::
  (nat_lit 290, fnP (rfl : nth (inner (nth PySem.Challenge.pw_nm0133_01.main.body 37)) 3 = _) "Module.func_kinds" 0 (Value.none) (Value.none) (Value.none)) ::
  (nat_lit 294, { cls := Value.none, data := Data.fields #[] }) ::
  (nat_lit 297, fnP (rfl : nth (inner (nth PySem.Challenge.pw_nm0133_01.main.body 37)) 4 = _) "Module.table_kinds" 0 (Value.none) (Value.none) (Value.none)) ::
  (nat_lit 301, { cls := Value.none, data := Data.fields #[] }) ::
  (nat_lit 304, fnP (rfl : nth (inner (nth PySem.Challenge.pw_nm0133_01.main.body 37)) 5 = _) "Module.memory_kinds" 0 (Value.none) (Value.none) (Value.none)) ::
  (nat_lit 308, { cls := Value.none, data := Data.fields #[] }) ::
  (nat_lit 311, fnP (rfl : nth (inner (nth PySem.Challenge.pw_nm0133_01.main.body 37)) 6 = _) "Module.global_kinds" 0 (Value.none) (Value.none) (Value.none)) ::
  (nat_lit 315, { cls := Value.none, data := Data.fields #[] }) ::
  (nat_lit 318, fnP (rfl : nth (inner (nth PySem.Challenge.pw_nm0133_01.main.body 37)) 7 = _) "Module.many" 0 (Value.none) (Value.none) (Value.none)) ::
  (nat_lit 322, { cls := Value.none, data := Data.fields #[] }) ::
  (nat_lit 325, fnP (rfl : nth (inner (nth PySem.Challenge.pw_nm0133_01.main.body 37)) 8 = _) "Module.func" 0 (Value.none) (Value.none) (Value.none)) ::
  (nat_lit 329, { cls := Value.none, data := Data.fields #[] }) ::
  (nat_lit 332, fnP (rfl : nth (inner (nth PySem.Challenge.pw_nm0133_01.main.body 37)) 9 = _) "Module.kind_of_func" 0 (Value.none) (Value.none) (Value.none)) ::
  (nat_lit 336, { cls := Value.none, data := Data.fields #[] }) ::
  (nat_lit 339, fnP (rfl : nth (inner (nth PySem.Challenge.pw_nm0133_01.main.body 37)) 10 = _) "Module.export" 0 (Value.none) (Value.none) (Value.none)) ::
  (nat_lit 343, { cls := Value.none, data := Data.fields #[] }) ::
  (nat_lit 346, fnP (rfl : nth (inner (nth PySem.Challenge.pw_nm0133_01.main.body 37)) 11 = _) "Module.plain" 0 (Value.none) (Value.none) (Value.none)) ::
  (nat_lit 350, { cls := Value.none, data := Data.fields #[] }) ::
  (nat_lit 353, fnP (rfl : nth (inner (nth PySem.Challenge.pw_nm0133_01.main.body 37)) 12 = _) "Module.bodies" 0 (Value.none) (Value.none) (Value.none)) ::
  (nat_lit 357, { cls := Value.none, data := Data.fields #[] }) ::
  (nat_lit 360, fnP (rfl : nth (inner (nth PySem.Challenge.pw_nm0133_01.main.body 37)) 13 = _) "Module.constants" 0 (Value.none) (Value.none) (Value.none)) ::
  (nat_lit 364, { cls := Value.none, data := Data.fields #[] }) ::
  (nat_lit 367, fnP (rfl : nth (inner (nth PySem.Challenge.pw_nm0133_01.main.body 37)) 14 = _) "Module.copy" 0 (Value.none) (Value.none) (Value.none)) ::
  (nat_lit 375, { cls := Value.type "super", data := Data.fields #[Value.ref 372, Value.ref 372, Value.ref 372] }) ::
  (nat_lit 376, { cls := Value.type "builtin_function_or_method", data := Data.fields #[Value.builtin "object.__init_subclass__", Value.ref 372] }) ::
  (nat_lit 378, { cls := Value.none, data := Data.fields #[] }) ::
  (nat_lit 379, fnP (rfl : nth PySem.Challenge.pw_nm0133_01.main.body 38 = _) "parts_of" 0 (Value.none) (Value.none) (Value.none)) ::
  (nat_lit 383, { cls := Value.none, data := Data.fields #[] }) ::
  (nat_lit 386, fnP (rfl : nth PySem.Challenge.pw_nm0133_01.main.body 40 = _) "_law_take" 0 (Value.none) (Value.none) (Value.none)) ::
  (nat_lit 390, { cls := Value.none, data := Data.fields #[] }) ::
  (nat_lit 393, fnP (rfl : nth PySem.Challenge.pw_nm0133_01.main.body 41 = _) "_law_kind" 0 (Value.none) (Value.none) (Value.none)) ::
  (nat_lit 397, { cls := Value.none, data := Data.fields #[] }) ::
  (nat_lit 398, fnP (rfl : nth PySem.Challenge.pw_nm0133_01.main.body 42 = _) "_law_some" 0 (Value.none) (Value.none) (Value.none)) ::
  (nat_lit 402, { cls := Value.none, data := Data.fields #[] }) ::
  (nat_lit 405, fnP (rfl : nth PySem.Challenge.pw_nm0133_01.main.body 43 = _) "_law_ends" 0 (Value.none) (Value.none) (Value.none)) ::
  (nat_lit 409, { cls := Value.none, data := Data.fields #[] }) ::
  (nat_lit 412, fnP (rfl : nth PySem.Challenge.pw_nm0133_01.main.body 44 = _) "_law_table" 0 (Value.none) (Value.none) (Value.none)) ::
  (nat_lit 416, { cls := Value.none, data := Data.fields #[] }) ::
  (nat_lit 419, fnP (rfl : nth PySem.Challenge.pw_nm0133_01.main.body 45 = _) "_law_cell" 0 (Value.none) (Value.none) (Value.none)) ::
  (nat_lit 423, { cls := Value.none, data := Data.fields #[] }) ::
  (nat_lit 426, fnP (rfl : nth PySem.Challenge.pw_nm0133_01.main.body 46 = _) "_law_import" 0 (Value.none) (Value.none) (Value.none)) ::
  (nat_lit 430, { cls := Value.none, data := Data.fields #[] }) ::
  (nat_lit 431, fnP (rfl : nth PySem.Challenge.pw_nm0133_01.main.body 47 = _) "_law_module" 0 (Value.none) (Value.none) (Value.none)) ::
  (nat_lit 435, { cls := Value.none, data := Data.fields #[] }) ::
  (nat_lit 436, fnP (rfl : nth PySem.Challenge.pw_nm0133_01.main.body 48 = _) "_law_kinds_fault" 0 (Value.none) (Value.none) (Value.none)) ::
  (nat_lit 440, { cls := Value.none, data := Data.fields #[] }) ::
  (nat_lit 443, fnP (rfl : nth PySem.Challenge.pw_nm0133_01.main.body 49 = _) "_law_ends_fault" 0 (Value.none) (Value.none) (Value.none)) ::
  (nat_lit 447, { cls := Value.none, data := Data.fields #[] }) ::
  (nat_lit 450, fnP (rfl : nth PySem.Challenge.pw_nm0133_01.main.body 50 = _) "_law_table_fault" 0 (Value.none) (Value.none) (Value.none)) ::
  (nat_lit 454, { cls := Value.none, data := Data.fields #[] }) ::
  (nat_lit 457, fnP (rfl : nth PySem.Challenge.pw_nm0133_01.main.body 51 = _) "_law_memory_fault" 0 (Value.none) (Value.none) (Value.none)) ::
  (nat_lit 461, { cls := Value.none, data := Data.fields #[] }) ::
  (nat_lit 464, fnP (rfl : nth PySem.Challenge.pw_nm0133_01.main.body 52 = _) "_law_cell_fault" 0 (Value.none) (Value.none) (Value.none)) ::
  (nat_lit 468, { cls := Value.none, data := Data.fields #[] }) ::
  (nat_lit 471, fnP (rfl : nth PySem.Challenge.pw_nm0133_01.main.body 53 = _) "_law_import_fault" 0 (Value.none) (Value.none) (Value.none)) ::
  (nat_lit 475, { cls := Value.none, data := Data.fields #[] }) ::
  (nat_lit 476, fnP (rfl : nth PySem.Challenge.pw_nm0133_01.main.body 54 = _) "_law_faults" 0 (Value.none) (Value.none) (Value.none)) ::
  (nat_lit 480, { cls := Value.none, data := Data.fields #[] }) ::
  (nat_lit 483, fnP (rfl : nth PySem.Challenge.pw_nm0133_01.main.body 55 = _) "law" 0 (Value.none) (Value.none) (Value.none)) ::
  []
noncomputable def repA (P : Params) : Frag := 
  (nat_lit 2, { cls := Value.none, data := Data.dict #[] }) ::
  (nat_lit 3, { cls := Value.type "dict", data := Data.dict #[{ hash := PyData.keyHash P (Str.ofString "__name__"), key := Value.str (Str.ofString "__name__") 165, val := Value.str (Str.ofString "__main__") 164 }, { hash := PyData.keyHash P (Str.ofString "__doc__"), key := Value.str (Str.ofString "__doc__") 166, val := Value.none }, { hash := PyData.keyHash P (Str.ofString "__package__"), key := Value.str (Str.ofString "__package__") 167, val := Value.none }, { hash := PyData.keyHash P (Str.ofString "__loader__"), key := Value.str (Str.ofString "__loader__") 168, val := Value.builtin "__main__.__loader__#opaque" }, { hash := PyData.keyHash P (Str.ofString "__spec__"), key := Value.str (Str.ofString "__spec__") 169, val := Value.none }, { hash := PyData.keyHash P (Str.ofString "__annotations__"), key := Value.str (Str.ofString "__annotations__") 170, val := Value.ref 6 }, { hash := PyData.keyHash P (Str.ofString "__builtins__"), key := Value.str (Str.ofString "__builtins__") 171, val := Value.ref 4 }, { hash := PyData.keyHash P (Str.ofString "__file__"), key := Value.str (Str.ofString "__file__") 173, val := Value.str (Str.ofString "/claim/cut.py") 172 }, { hash := PyData.keyHash P (Str.ofString "__cached__"), key := Value.str (Str.ofString "__cached__") 174, val := Value.none }] 9 }) ::
  (nat_lit 12, { cls := Value.none, data := Data.fields #[] }) ::
  []
noncomputable def repB (P : Params) : Frag := 
  (nat_lit 3, { cls := Value.type "dict", data := Data.dict #[{ hash := PyData.keyHash P (Str.ofString "__name__"), key := Value.str (Str.ofString "__name__") 165, val := Value.str (Str.ofString "wasmcore.kinds") 253 }, { hash := PyData.keyHash P (Str.ofString "__doc__"), key := Value.str (Str.ofString "__doc__") 166, val := Value.none }, { hash := PyData.keyHash P (Str.ofString "__package__"), key := Value.str (Str.ofString "__package__") 167, val := Value.none }, { hash := PyData.keyHash P (Str.ofString "__loader__"), key := Value.str (Str.ofString "__loader__") 168, val := Value.builtin "__main__.__loader__#opaque" }, { hash := PyData.keyHash P (Str.ofString "__spec__"), key := Value.str (Str.ofString "__spec__") 169, val := Value.none }, { hash := PyData.keyHash P (Str.ofString "__annotations__"), key := Value.str (Str.ofString "__annotations__") 170, val := Value.ref 6 }, { hash := PyData.keyHash P (Str.ofString "__builtins__"), key := Value.str (Str.ofString "__builtins__") 171, val := Value.ref 4 }, { hash := PyData.keyHash P (Str.ofString "__file__"), key := Value.str (Str.ofString "__file__") 173, val := Value.str (Str.ofString "/claim/cut.py") 172 }, { hash := PyData.keyHash P (Str.ofString "__cached__"), key := Value.str (Str.ofString "__cached__") 174, val := Value.none }, { hash := PyData.keyHash P (Str.ofString "_wall"), key := Value.str (Str.ofString "_wall") 193, val := Value.ref 21 }, { hash := PyData.keyHash P (Str.ofString "WasmFault"), key := Value.str (Str.ofString "WasmFault") 224, val := Value.ref 38 }, { hash := PyData.keyHash P (Str.ofString "Invalid"), key := Value.str (Str.ofString "Invalid") 252, val := Value.ref 58 }, { hash := PyData.keyHash P (Str.ofString "I32"), key := Value.str (Str.ofString "I32") 257, val := Value.int (-1) 256 }, { hash := PyData.keyHash P (Str.ofString "I64"), key := Value.str (Str.ofString "I64") 260, val := Value.int (-2) 259 }, { hash := PyData.keyHash P (Str.ofString "FUNCREF"), key := Value.str (Str.ofString "FUNCREF") 263, val := Value.int (-16) 262 }, { hash := PyData.keyHash P (Str.ofString "EXTERNREF"), key := Value.str (Str.ofString "EXTERNREF") 266, val := Value.int (-17) 265 }, { hash := PyData.keyHash P (Str.ofString "FUNCTION"), key := Value.str (Str.ofString "FUNCTION") 268, val := Value.int 0 267 }, { hash := PyData.keyHash P (Str.ofString "TABLE"), key := Value.str (Str.ofString "TABLE") 270, val := Value.int 1 269 }, { hash := PyData.keyHash P (Str.ofString "MEMORY"), key := Value.str (Str.ofString "MEMORY") 272, val := Value.int 2 271 }, { hash := PyData.keyHash P (Str.ofString "GLOBAL"), key := Value.str (Str.ofString "GLOBAL") 274, val := Value.int 3 273 }] 20 }) ::
  (nat_lit 12, { cls := Value.none, data := Data.fields #[Value.int 1 0, Value.int 0 0, Value.ref 20, Value.int 5 0, Value.int 0 0, Value.ref 27, Value.int 10 0, Value.int 0 0, Value.ref 47] }) ::
  []
noncomputable def repC (P : Params) : Frag := 
  (nat_lit 3, { cls := Value.type "dict", data := Data.dict #[{ hash := PyData.keyHash P (Str.ofString "__name__"), key := Value.str (Str.ofString "__name__") 165, val := Value.str (Str.ofString "wasmcore.kinds") 253 }, { hash := PyData.keyHash P (Str.ofString "__doc__"), key := Value.str (Str.ofString "__doc__") 166, val := Value.none }, { hash := PyData.keyHash P (Str.ofString "__package__"), key := Value.str (Str.ofString "__package__") 167, val := Value.none }, { hash := PyData.keyHash P (Str.ofString "__loader__"), key := Value.str (Str.ofString "__loader__") 168, val := Value.builtin "__main__.__loader__#opaque" }, { hash := PyData.keyHash P (Str.ofString "__spec__"), key := Value.str (Str.ofString "__spec__") 169, val := Value.none }, { hash := PyData.keyHash P (Str.ofString "__annotations__"), key := Value.str (Str.ofString "__annotations__") 170, val := Value.ref 6 }, { hash := PyData.keyHash P (Str.ofString "__builtins__"), key := Value.str (Str.ofString "__builtins__") 171, val := Value.ref 4 }, { hash := PyData.keyHash P (Str.ofString "__file__"), key := Value.str (Str.ofString "__file__") 173, val := Value.str (Str.ofString "/claim/cut.py") 172 }, { hash := PyData.keyHash P (Str.ofString "__cached__"), key := Value.str (Str.ofString "__cached__") 174, val := Value.none }, { hash := PyData.keyHash P (Str.ofString "_wall"), key := Value.str (Str.ofString "_wall") 193, val := Value.ref 21 }, { hash := PyData.keyHash P (Str.ofString "WasmFault"), key := Value.str (Str.ofString "WasmFault") 224, val := Value.ref 38 }, { hash := PyData.keyHash P (Str.ofString "Invalid"), key := Value.str (Str.ofString "Invalid") 252, val := Value.ref 58 }, { hash := PyData.keyHash P (Str.ofString "I32"), key := Value.str (Str.ofString "I32") 257, val := Value.int (-1) 256 }, { hash := PyData.keyHash P (Str.ofString "I64"), key := Value.str (Str.ofString "I64") 260, val := Value.int (-2) 259 }, { hash := PyData.keyHash P (Str.ofString "FUNCREF"), key := Value.str (Str.ofString "FUNCREF") 263, val := Value.int (-16) 262 }, { hash := PyData.keyHash P (Str.ofString "EXTERNREF"), key := Value.str (Str.ofString "EXTERNREF") 266, val := Value.int (-17) 265 }, { hash := PyData.keyHash P (Str.ofString "FUNCTION"), key := Value.str (Str.ofString "FUNCTION") 268, val := Value.int 0 267 }, { hash := PyData.keyHash P (Str.ofString "TABLE"), key := Value.str (Str.ofString "TABLE") 270, val := Value.int 1 269 }, { hash := PyData.keyHash P (Str.ofString "MEMORY"), key := Value.str (Str.ofString "MEMORY") 272, val := Value.int 2 271 }, { hash := PyData.keyHash P (Str.ofString "GLOBAL"), key := Value.str (Str.ofString "GLOBAL") 274, val := Value.int 3 273 }, { hash := PyData.keyHash P (Str.ofString "KIND_NAMES"), key := Value.str (Str.ofString "KIND_NAMES") 283, val := Value.ref 61 }, { hash := PyData.keyHash P (Str.ofString "HEAP_NAMES"), key := Value.str (Str.ofString "HEAP_NAMES") 288, val := Value.ref 62 }] 22 }) ::
  (nat_lit 12, { cls := Value.none, data := Data.fields #[Value.int 1 0, Value.int 0 0, Value.ref 20, Value.int 5 0, Value.int 0 0, Value.ref 27, Value.int 10 0, Value.int 0 0, Value.ref 47] }) ::
  []
noncomputable def repD (P : Params) : Frag := 
  (nat_lit 3, { cls := Value.type "dict", data := Data.dict #[{ hash := PyData.keyHash P (Str.ofString "__name__"), key := Value.str (Str.ofString "__name__") 165, val := Value.str (Str.ofString "wasmcore.modules") 454 }, { hash := PyData.keyHash P (Str.ofString "__doc__"), key := Value.str (Str.ofString "__doc__") 166, val := Value.none }, { hash := PyData.keyHash P (Str.ofString "__package__"), key := Value.str (Str.ofString "__package__") 167, val := Value.none }, { hash := PyData.keyHash P (Str.ofString "__loader__"), key := Value.str (Str.ofString "__loader__") 168, val := Value.builtin "__main__.__loader__#opaque" }, { hash := PyData.keyHash P (Str.ofString "__spec__"), key := Value.str (Str.ofString "__spec__") 169, val := Value.none }, { hash := PyData.keyHash P (Str.ofString "__annotations__"), key := Value.str (Str.ofString "__annotations__") 170, val := Value.ref 6 }, { hash := PyData.keyHash P (Str.ofString "__builtins__"), key := Value.str (Str.ofString "__builtins__") 171, val := Value.ref 4 }, { hash := PyData.keyHash P (Str.ofString "__file__"), key := Value.str (Str.ofString "__file__") 173, val := Value.str (Str.ofString "/claim/cut.py") 172 }, { hash := PyData.keyHash P (Str.ofString "__cached__"), key := Value.str (Str.ofString "__cached__") 174, val := Value.none }, { hash := PyData.keyHash P (Str.ofString "_wall"), key := Value.str (Str.ofString "_wall") 193, val := Value.ref 21 }, { hash := PyData.keyHash P (Str.ofString "WasmFault"), key := Value.str (Str.ofString "WasmFault") 224, val := Value.ref 38 }, { hash := PyData.keyHash P (Str.ofString "Invalid"), key := Value.str (Str.ofString "Invalid") 252, val := Value.ref 58 }, { hash := PyData.keyHash P (Str.ofString "I32"), key := Value.str (Str.ofString "I32") 257, val := Value.int (-1) 256 }, { hash := PyData.keyHash P (Str.ofString "I64"), key := Value.str (Str.ofString "I64") 260, val := Value.int (-2) 259 }, { hash := PyData.keyHash P (Str.ofString "FUNCREF"), key := Value.str (Str.ofString "FUNCREF") 263, val := Value.int (-16) 262 }, { hash := PyData.keyHash P (Str.ofString "EXTERNREF"), key := Value.str (Str.ofString "EXTERNREF") 266, val := Value.int (-17) 265 }, { hash := PyData.keyHash P (Str.ofString "FUNCTION"), key := Value.str (Str.ofString "FUNCTION") 268, val := Value.int 0 267 }, { hash := PyData.keyHash P (Str.ofString "TABLE"), key := Value.str (Str.ofString "TABLE") 270, val := Value.int 1 269 }, { hash := PyData.keyHash P (Str.ofString "MEMORY"), key := Value.str (Str.ofString "MEMORY") 272, val := Value.int 2 271 }, { hash := PyData.keyHash P (Str.ofString "GLOBAL"), key := Value.str (Str.ofString "GLOBAL") 274, val := Value.int 3 273 }, { hash := PyData.keyHash P (Str.ofString "KIND_NAMES"), key := Value.str (Str.ofString "KIND_NAMES") 283, val := Value.ref 61 }, { hash := PyData.keyHash P (Str.ofString "HEAP_NAMES"), key := Value.str (Str.ofString "HEAP_NAMES") 288, val := Value.ref 62 }, { hash := PyData.keyHash P (Str.ofString "Sizes"), key := Value.str (Str.ofString "Sizes") 329, val := Value.ref 80 }, { hash := PyData.keyHash P (Str.ofString "is_kind"), key := Value.str (Str.ofString "is_kind") 336, val := Value.ref 91 }, { hash := PyData.keyHash P (Str.ofString "is_ref"), key := Value.str (Str.ofString "is_ref") 343, val := Value.ref 98 }, { hash := PyData.keyHash P (Str.ofString "OUTSIDE"), key := Value.str (Str.ofString "OUTSIDE") 348, val := Value.int (-1) 347 }, { hash := PyData.keyHash P (Str.ofString "MOST_MEMORIES"), key := Value.str (Str.ofString "MOST_MEMORIES") 350, val := Value.int 1 349 }, { hash := PyData.keyHash P (Str.ofString "FULL_PAGES"), key := Value.str (Str.ofString "FULL_PAGES") 352, val := Value.int 65536 351 }, { hash := PyData.keyHash P (Str.ofString "want"), key := Value.str (Str.ofString "want") 360, val := Value.ref 105 }, { hash := PyData.keyHash P (Str.ofString "want_kinds"), key := Value.str (Str.ofString "want_kinds") 368, val := Value.ref 112 }, { hash := PyData.keyHash P (Str.ofString "check_limits"), key := Value.str (Str.ofString "check_limits") 378, val := Value.ref 119 }, { hash := PyData.keyHash P (Str.ofString "pages_text"), key := Value.str (Str.ofString "pages_text") 386, val := Value.ref 126 }, { hash := PyData.keyHash P (Str.ofString "check_table_kind"), key := Value.str (Str.ofString "check_table_kind") 397, val := Value.ref 133 }, { hash := PyData.keyHash P (Str.ofString "check_memory_kind"), key := Value.str (Str.ofString "check_memory_kind") 407, val := Value.ref 140 }, { hash := PyData.keyHash P (Str.ofString "check_global_kind"), key := Value.str (Str.ofString "check_global_kind") 416, val := Value.ref 147 }, { hash := PyData.keyHash P (Str.ofString "want_type"), key := Value.str (Str.ofString "want_type") 424, val := Value.ref 154 }, { hash := PyData.keyHash P (Str.ofString "check_types"), key := Value.str (Str.ofString "check_types") 433, val := Value.ref 161 }, { hash := PyData.keyHash P (Str.ofString "check_import"), key := Value.str (Str.ofString "check_import") 442, val := Value.ref 168 }, { hash := PyData.keyHash P (Str.ofString "check_heads"), key := Value.str (Str.ofString "check_heads") 453, val := Value.ref 175 }, { hash := PyData.keyHash P (Str.ofString "Import"), key := Value.str (Str.ofString "Import") 497, val := Value.ref 199 }, { hash := PyData.keyHash P (Str.ofString "Func"), key := Value.str (Str.ofString "Func") 537, val := Value.ref 227 }, { hash := PyData.keyHash P (Str.ofString "Global"), key := Value.str (Str.ofString "Global") 577, val := Value.ref 255 }] 42 }) ::
  (nat_lit 12, { cls := Value.none, data := Data.fields #[Value.int 1 0, Value.int 0 0, Value.ref 20, Value.int 5 0, Value.int 0 0, Value.ref 27, Value.int 10 0, Value.int 0 0, Value.ref 47, Value.int 27 0, Value.int 0 0, Value.ref 68, Value.int 35 0, Value.int 0 0, Value.ref 90, Value.int 37 0, Value.int 0 0, Value.ref 97, Value.int 43 0, Value.int 0 0, Value.ref 104, Value.int 46 0, Value.int 0 0, Value.ref 111, Value.int 49 0, Value.int 0 0, Value.ref 118, Value.int 54 0, Value.int 0 0, Value.ref 125, Value.int 57 0, Value.int 0 0, Value.ref 132, Value.int 61 0, Value.int 0 0, Value.ref 139, Value.int 64 0, Value.int 0 0, Value.ref 146, Value.int 68 0, Value.int 0 0, Value.ref 153, Value.int 70 0, Value.int 0 0, Value.ref 160, Value.int 74 0, Value.int 0 0, Value.ref 167, Value.int 84 0, Value.int 0 0, Value.ref 174, Value.int 99 0, Value.int 0 0, Value.ref 181, Value.int 109 0, Value.int 0 0, Value.ref 209, Value.int 118 0, Value.int 0 0, Value.ref 237] }) ::
  []
/-- two parts, laid one into the other by their places -/
noncomputable def mg : Nat → Nat → Frag → Frag → List Obj
  | 0, _, _, _ => []
  | f + 1, i, (k, o) :: a, b => match Nat.beq k i with
    | true => o :: mg f (i + 1) a b
    | false => match b with
      | (_, o') :: b' => o' :: mg f (i + 1) ((k, o) :: a) b'
      | [] => []
  | f + 1, i, [], (_, o) :: b => o :: mg f (i + 1) [] b
  | _ + 1, _, [], [] => []
/-- the first objects of a list, some of them others -/
noncomputable def ov : Nat → Nat → Frag → List Obj → List Obj
  | 0, _, _, _ => []
  | _ + 1, _, _, [] => []
  | f + 1, i, [], o :: l => o :: ov f (i + 1) [] l
  | f + 1, i, (k, o') :: a, o :: l => match Nat.beq k i with
    | true => o' :: ov f (i + 1) a l
    | false => o :: ov f (i + 1) ((k, o') :: a) l
noncomputable def alt : Nat → List Obj → List Obj
  | 0, _ => []
  | _ + 1, [] => []
  | f + 1, a :: l => a :: alt f l.tail
noncomputable def bt : Nat → List Obj → BT
  | 0, _ => .nil
  | _ + 1, [] => .nil
  | f + 1, o :: l => .node o (bt f (alt 500 l)) (bt f (alt 500 l.tail))
noncomputable def finL (P : Params) : List Obj := mg 486 0 (heapK P) (restK P)
noncomputable def sA (w : World) (os : OsState) : SharedT := ⟨bt 12 (ov 15 0 (repA w.params) (finL w.params)), 15, {}, #[], {}, 187, os⟩
noncomputable def sB (w : World) (os : OsState) : SharedT := ⟨bt 12 (ov 61 0 (repB w.params) (finL w.params)), 61, {}, #[], {}, 275, os⟩
noncomputable def sC (w : World) (os : OsState) : SharedT := ⟨bt 12 (ov 63 0 (repC w.params) (finL w.params)), 63, {}, #[], {}, 289, os⟩
noncomputable def sD (w : World) (os : OsState) : SharedT := ⟨bt 12 (ov 260 0 (repD w.params) (finL w.params)), 260, {}, #[], {}, 578, os⟩
noncomputable def sE (w : World) (os : OsState) : SharedT := ⟨bt 12 (finL w.params), 486, {}, #[], {}, 859, os⟩
noncomputable def heapF (P : Params) : Heap := ⟨(finL P).toArray, {}⟩
noncomputable abbrev bodyK : List Stmt := behindTheImports PySem.Challenge.pw_nm0133_01
noncomputable def envK : Env := { scope := PySem.Challenge.pw_nm0133_01.main.scope, locals := mainNs, globals := mainNs, cells := [], code := .ref 13, frame := some 14 }
noncomputable abbrev codeK : Code := .body bodyK envK
abbrev q0 : Pos := { line := 0, col := 0, endLine := 0, endCol := 0 }
abbrev q1 : Pos := { line := 24, col := 0, endLine := 24, endCol := 6 }
abbrev q2 : Pos := { line := 26, col := 0, endLine := 26, endCol := 10 }
abbrev q3 : Pos := { line := 118, col := 0, endLine := 126, endCol := 58 }
abbrev q4 : Pos := { line := 260, col := 0, endLine := 269, endCol := 49 }
noncomputable abbrev stackK : List Frame := [topFrame q0]
noncomputable def sl (a n : Nat) : List Stmt := (bodyK.drop a).take n
abbrev annK : Option Value := some (.ref 6)
theorem pre_K (w : World) (os : OsState) : topGo treeTable PySem.Challenge.pw_nm0133_01 w 11 annK 12 ⟨boot_heap w.params, #[], boot_drawn, boot_toks, os⟩ (topStub PySem.Challenge.pw_nm0133_01) = some ((sA w os).abs, ⟨denote treeTable codeK, codeK, q0, stackK⟩) := by kernel_rfl
theorem block_K (w : World) (os : OsState) : segRunT treeTable PySem.Challenge.pw_nm0133_01 w 11 annK 1 1 (sA w os) (blockOf bodyK envK codeK q0 stackK) = some (.next, sA w os, codeK, q0) := by rw [PySem.W.Fast.te10110043849684766642, PySem.W.Fast.te14364793385576792824]; kernel_rfl
theorem g1_K (w : World) (os : OsState) : segRunT treeTable PySem.Challenge.pw_nm0133_01 w 11 annK 1 700 (sA w os) (piecesOf (sl 0 13) envK codeK q0 stackK) = some (.next, sB w os, codeK, q1) := by rw [PySem.W.Fast.te10110043849684766642, PySem.W.Fast.te14364793385576792824]; kernel_rfl
theorem g2_f (w : World) (os : OsState) : segRunT treeTable PySem.Challenge.pw_nm0133_01 (w.withFollow "special-get-raises" false) 11 annK 1 150 (sB (w.withFollow "special-get-raises" false) os) (piecesOf (sl 13 2) envK codeK q1 stackK) = some (.next, sC (w.withFollow "special-get-raises" false) os, codeK, q2) := by rw [PySem.W.Fast.te10110043849684766642, PySem.W.Fast.te14364793385576792824]; kernel_rfl
theorem g2_t (w : World) (os : OsState) : segRunT treeTable PySem.Challenge.pw_nm0133_01 (w.withFollow "special-get-raises" true) 11 annK 1 150 (sB (w.withFollow "special-get-raises" true) os) (piecesOf (sl 13 2) envK codeK q1 stackK) = some (.next, sC (w.withFollow "special-get-raises" true) os, codeK, q2) := by rw [PySem.W.Fast.te10110043849684766642, PySem.W.Fast.te14364793385576792824]; kernel_rfl
theorem g2_K (w : World) (os : OsState) : segRunT treeTable PySem.Challenge.pw_nm0133_01 w 11 annK 1 150 (sB w os) (piecesOf (sl 13 2) envK codeK q1 stackK) = some (.next, sC w os, codeK, q2) :=
  byRow2 "special-get-raises" (P := fun w => segRunT treeTable PySem.Challenge.pw_nm0133_01 w 11 annK 1 150 (sB w os) (piecesOf (sl 13 2) envK codeK q1 stackK) = some (.next, sC w os, codeK, q2)) (fun w => g2_f w os) (fun w => g2_t w os) w
theorem g3_K (w : World) (os : OsState) : segRunT treeTable PySem.Challenge.pw_nm0133_01 w 11 annK 1 1500 (sC w os) (piecesOf (sl 15 22) envK codeK q2 stackK) = some (.next, sD w os, codeK, q3) := by rw [PySem.W.Fast.te10110043849684766642, PySem.W.Fast.te14364793385576792824]; kernel_rfl
theorem g4_K (w : World) (os : OsState) : segRunT treeTable PySem.Challenge.pw_nm0133_01 w 11 annK 1 1500 (sD w os) (piecesOf (sl 37 19) envK codeK q3 stackK) = some (.next, sE w os, codeK, q4) := by rw [PySem.W.Fast.te10110043849684766642, PySem.W.Fast.te14364793385576792824]; kernel_rfl
theorem fin_K (w : World) (os : OsState) : topRun treeTable PySem.Challenge.pw_nm0133_01 w 11 annK 2 (sE w os).abs ⟨doneF .next, codeK, q4, stackK⟩ = some ⟨heapF w.params, #[], {}, 859, os⟩ := by kernel_rfl
theorem body_K : sl 0 13 ++ (sl 13 2 ++ (sl 15 22 ++ (sl 37 19 ++ []))) = bodyK := by kernel_rfl
theorem run_K (w : World) (os : OsState) : topRun treeTable PySem.Challenge.pw_nm0133_01 w 11 annK (12 + (1 + (700 + (150 + (1500 + (1500 + 2)))))) ⟨boot_heap w.params, #[], boot_drawn, boot_toks, os⟩ (topStub PySem.Challenge.pw_nm0133_01) = some ⟨heapF w.params, #[], {}, 859, os⟩ := by
  refine go_top (pre_K w os) (piece_block (segRun_of (block_K w os)) ?_)
  have h := piece_app (segRun_of (g1_K w os)) (piece_app (segRun_of (g2_K w os)) (piece_app (segRun_of (g3_K w os)) (piece_app (segRun_of (g4_K w os)) (piece_nil (fin_K w os)))))
  rw [body_K] at h
  exact h
theorem open_K (w : World) : (fencedOpening treeTable PySem.Challenge.pw_nm0133_01 w 6854).map (fun s => (s.heap, s.gens, s.drawn, s.toks)) = some (boot_heap w.params, Array.mk [], boot_drawn, boot_toks) :=
  boot_open (by kernel_rfl) (by decide) (fun s => by kernel_rfl) w
theorem size_K (w : World) : ((boot_heap w.params).isNs mainGlobals && (Array.mk ([] : List GenState)).size == 0, (boot_heap w.params).objs.size, (boot_heap w.params).nsMap mainGlobals "__annotations__") = (true, 11, annK) := by kernel_rfl
theorem said_K : OpenLaw.wellSaid PySem.Challenge.rw_nm0133_01 = true := by rw [PySem.W.Fast.te9446332074065402090]; kernel_rfl
noncomputable abbrev looseK : List Str := [Str.ofString "KIND_NAMES", Str.ofString "HEAP_NAMES"]
noncomputable abbrev rowK : RowW := PySem.Challenge.rw_nm0133_01.row.toRowW
noncomputable abbrev xtK : Shared → Bool := fun s => xlAt viewK [] s && recOk (RowW.records rowK) s
noncomputable abbrev endK (P : Params) (os : OsState) : Shared := ⟨heapF P, #[], {}, 859, os⟩
noncomputable abbrev hookK : Hook := kHook heapK adrK (fun _ => by kernel_rfl)
theorem look1 (P : Params) (os : OsState) : (staticsOk (importedModules PySem.Challenge.pw_nm0133_01.main.body) (boot_heap P) (heapF P) && namesBound PySem.Challenge.pw_nm0133_01 (heapF P) && gensDone (endK P os) && laidKept (boot_heap P) (heapF P)) = true := by kernel_rfl
theorem look2 (P : Params) (os : OsState) : openSeen viewK looseK (importedModules PySem.Challenge.pw_nm0133_01.main.body) xtK true (endK P os) = openGood viewK looseK := by rw [PySem.W.Fast.te4187177175401517315]; kernel_rfl
theorem look3 (P : Params) (os : OsState) : adrK.map (endK P os).heap.get? = (heapK P).map fun p => some p.2 := by kernel_rfl
theorem left_K : LeftO PySem.Challenge.pw_nm0133_01 viewK looseK xtK hookK.obs hookK.val 6854 :=
  LeftO.of_pieces open_K size_K run_K (by decide) fun w => funext fun os => Prod.ext (look1 w.params os) (Prod.ext (look2 w.params os) (look3 w.params os))
theorem hd {d : DefRec} {kwd : List (Str × PySem.Expr)} (hdef : defOf viewK PySem.Challenge.rw_nm0133_01.row.name = some (d, kwd)) (hp : PySem.Challenge.rw_nm0133_01.row.prog.theDef PySem.Challenge.rw_nm0133_01.row.name = some (d.params, d.body, d.scope)) (hk : kwWritten? d.params.kwonlyargs d.params.kw_defaults = some kwd)
    (walk : WalkO viewK [Str.ofString "KIND_NAMES", Str.ofString "HEAP_NAMES"] (XL viewK []) (kHook heapK adrK (fun _ => by kernel_rfl)).says PySem.Challenge.rw_nm0133_01.row.toRowW d kwd fun f vs => PySem.call f vs) : PySem.Challenge.rw_nm0133_01.Holds := by
  refine holds_law said_K fun said => ?_
  refine holds_open (q := viewK) (loose := looseK) (Xt := xtK) (XP := XL viewK []) (Yf := Hook.obs hookK) (Ya := Hook.val hookK) (YP := Hook.says hookK) (N := 6854) left_K (Hook.of hookK) (Hook.keeps hookK) (fun s e => xl_of s (Bool.and_eq_true_iff.mp e).1) XL.keeps hdef hp hk (fun s e => recFacts_of (Bool.and_eq_true_iff.mp e).2) (by rfl) said (by decide +kernel) ⟨rfl, rfl, rfl, rfl, rfl, by decide +kernel⟩ ?hw walk
  case hw => w_witness2
end Mine
open PySem PySem.W PySem.Calls PyProof.Rows
set_option Elab.async false
set_option maxRecDepth 100000
namespace Mine
theorem fill_0 : True := by
  have h : ((∀ w : World, (Mine.heapK w.params).In ({} : Heap) → PySem.Challenge.rw_nm0133_01.Holds) → True) := by
    k_fill
    exact fun _ => trivial
  exact trivial
local macro_rules | `(tactic| walk_at $s:str) => `(tactic| k_extra $s)

def Ext (h h' : Heap) : Prop := ∀ b o, h.get? b = some o → h'.get? b = some o
def ExtBut (D : Addr) (h h' : Heap) : Prop := ∀ b o, b ≠ D → h.get? b = some o → h'.get? b = some o
theorem Ext.refl (h : Heap) : Ext h h := fun _ _ e => e
theorem Ext.trans {a b c : Heap} (x : Ext a b) (y : Ext b c) : Ext a c := fun k o e => y k o (x k o e)
theorem ExtBut.refl (D : Addr) (h : Heap) : ExtBut D h h := fun _ _ _ e => e
theorem ExtBut.trans {D : Addr} {a b c : Heap} (x : ExtBut D a b) (y : ExtBut D b c) : ExtBut D a c := fun k o n e => y k o n (x k o n e)
theorem Ext.but {D : Addr} {a b : Heap} (x : Ext a b) : ExtBut D a b := fun k o _ e => x k o e

/-- the ground on which a call stands; lv: the room that is left -/
structure At (lv : Nat) (w : World) (mean : ExcName → Option Value) (mg mb : Str → Option Value) (A : Around) (base : Heap) (outer : List Env) (G h : Heap) : Prop where
  X : (Mine.heapK w.params).In base
  T : Top Mine.viewK (looseW Mine.viewK [Str.ofString "KIND_NAMES", Str.ofString "HEAP_NAMES"]) mean mg mb base
  B : Below A base outer G
  stays : G.StaysIn h
  hand : A.handled = none
  dep : A.depth + lv < 900
  un : A.units + 10 * lv < 9000

theorem At.ground {lv : Nat} {w : World} {mean : ExcName → Option Value} {mg mb : Str → Option Value} {A : Around} {base G h : Heap} {outer : List Env} (C : At lv w mean mg mb A base outer G h)
    {led : List (Addr × Obj)} (hl : ∀ q ∈ led, h.get? q.1 = some q.2 ∧ G.get? q.1 = none) : Below A base outer (hideAll h (led.map (·.1))) := by
  have nm : ∀ b o, G.get? b = some o → b ∉ led.map (·.1) := fun b o e q => by
    obtain ⟨p, hp, rfl⟩ := List.mem_map.mp q
    rw [(hl p hp).2] at e; cases e
  have st : G.StaysIn (hideAll h (led.map (·.1))) := fun b o e => hideAll_get _ (C.stays b o e) (nm b o e)
  exact ⟨C.B.stack, fun b o e => st b o (C.B.stays b o e), C.B.frames.of_keeps fun b o e _ => ⟨o, st b o e, rfl⟩⟩

/-- within a def: what does not hang on the heap of the moment -/
structure Hr (lv : Nat) (w : World) (mean : ExcName → Option Value) (mg mb : Str → Option Value) (A₀ A : Around) (base : Heap) (outer : List Env) (env : Env) (g : Heap) (L : Addr) : Prop where
  X : (Mine.heapK w.params).In base
  T : Top Mine.viewK (looseW Mine.viewK [Str.ofString "KIND_NAMES", Str.ofString "HEAP_NAMES"]) mean mg mb base
  B : Below A₀ base outer g
  frames : A.frames = some (env :: outer)
  fr : env.frame = some L
  kind : env.scope.kind = .function
  hand : A.handled = none
  dep : A.depth + lv < 900
  un : A.units + 10 * lv < 9000

theorem Hr.at {lv k : Nat} {w : World} {mean : ExcName → Option Value} {mg mb : Str → Option Value} {A₀ A : Around} {base : Heap} {outer : List Env} {env : Env} {g h : Heap} {L : Addr} {m : Str → Option Value} {led : List (Addr × Obj)}
    (H : Hr lv w mean mg mb A₀ A base outer env g L) (F : Fr g L h m) (N : News g L h led) (hk : k ≤ lv) : At k w mean mg mb A base (env :: outer) (hideAll h (led.map (·.1))) h := by
  let s : Shared := { heap := h }
  obtain ⟨_, B, _⟩ := groundX (s := s) (R := fun _ _ => True) H.B F N H.frames H.fr H.kind
  exact ⟨H.X, H.T, B, fun b o e => of_hideAll _ e, H.hand, by have := H.dep; omega, by have := H.un; omega⟩

theorem none_in {h : Heap} {led : List (Addr × Obj)} {a : Addr} {o : Obj} (hm : (a, o) ∈ led) : (hideAll h (led.map (·.1))).get? a = none := hideAll_none _ (List.mem_map_of_mem hm)

section
variable {lv : Nat} {w : World} {mean : ExcName → Option Value} {mg mb : Str → Option Value} {A : Around} {base G : Heap} {outer : List Env} {s : Shared} {led : List (Addr × Obj)} {R : Result → Shared → Prop}
  {name qual : Str} {params : Arguments} {body : List Stmt} {scope : Scope} {dV kV doc pm cdv ct oc : Value} {an od : Option Addr} {osl : Array (Option Value)} {f : Addr} {args : Args} {binds : List (Str × Value)}
theorem enter (led : List (Addr × Obj)) (binds : List (Str × Value)) (C : At (lv + 1) w mean mg mb A base outer G s.heap) (hlv : 10 ≤ lv) (hl : ∀ q ∈ led, s.heap.get? q.1 = some q.2 ∧ G.get? q.1 = none)
    (ho : (Mine.heapK w.params).lookup f = some ⟨oc, od, .func (fnOf name qual params body scope dV kV doc pm an cdv ct), osl⟩) (hcd : codeIn (Mine.heapK w.params) cdv qual = true)
    (hbind : BindsTo s (fnOf name qual params body scope dV kV doc pm an cdv ct) args binds) (hloc : ∀ y ∈ binds, scope.names.lookup y.1 = some .local)
    (hco : scope.isCoroutine = false) (hgen : scope.isGenerator = false) (hk : scope.kind = .function) (hcell : ∀ x ∈ scope.names, x.2 ≠ .cell)
    (h : ∀ g L' h₁, g = hideAll s.heap (led.map (·.1)) → AllLt L' led → Fr g L' h₁ (fun y => binds.reverse.lookup y) → News g L' h₁ led → (Mine.heapK w.params).In g → Top Mine.viewK (looseW Mine.viewK [Str.ofString "KIND_NAMES", Str.ofString "HEAP_NAMES"]) mean mg mb g →
      Hr lv w mean mg mb A (A.deeper (envOf qual scope L' f cdv)) base outer (envOf qual scope L' f cdv) g L' → A.depth < 890 → A.units < 8900 → A.handled = none →
      wpAny (model PySem.Challenge.pw_nm0133_01 w) (A.deeper (envOf qual scope L' f cdv)) (execs body (envOf qual scope L' f cdv))
        (fun fl s' => R (.ok (.ret (match fl with | .ret v => v | _ => .none))) s')
        (fun e s' => wpAny (model PySem.Challenge.pw_nm0133_01 w) (A.deeper (envOf qual scope L' f cdv)) (leaving (envOf qual scope L' f cdv) e) (fun _ s'' => R (.error e) s'') (fun e' s'' => R (.error e') s'') s')
        { s with heap := h₁, toks := s.toks + binds.length }) : codeAny (model PySem.Challenge.pw_nm0133_01 w) A (.call (.ref f) args) R s := by
  have hB := C.ground hl
  have sb : base.StaysIn s.heap := fun b o e => C.stays b o (C.B.stays b o e)
  have hX : (Mine.heapK w.params).In s.heap := C.X.keeps sb
  have hroom : A.depth < recursionLimit := by have := C.dep; simp only [recursionLimit]; omega
  refine codeAny_call_def (fd := fnOf name qual params body scope dV kV doc pm an cdv ct) (body := body) (binds := binds) hroom (hX _ _ ho) rfl (C.T.nolimit.keeps sb) (codeRec_of hX hcd) rfl hbind hcell hloc (fun h₁ hns hk₁ => ?_) hco hgen hk
  refine h _ s.heap.objs.size h₁ rfl (allLt_of fun p hp => Heap.lt_size (hl p hp).1) ⟨hns, fun b o e => hk₁ b o (of_hideAll _ e), Nat.le_of_eq (hideAll_size _ _)⟩
    (fun p hp => ⟨hk₁ _ _ (hl p hp).1, Nat.ne_of_lt (Heap.lt_size (hl p hp).1), hideAll_none _ (List.mem_map_of_mem hp)⟩) (C.X.keeps hB.stays) (C.T.keeps hB.stays)
    ⟨C.X, C.T, hB, Around.frames_deeper hB.stack, rfl, hk, C.hand, ?_, ?_⟩ (by have := C.dep; omega) (by have := C.un; omega) C.hand
  · have := C.dep; simp only [depth_deeper]; omega
  · have := C.un; simp only [Around.deeper_units]; omega
theorem enterC (led : List (Addr × Obj)) (binds : List (Str × Value)) (C : At (lv + 1) w mean mg mb A base outer G s.heap) (hlv : 10 ≤ lv) (hl : ∀ q ∈ led, s.heap.get? q.1 = some q.2 ∧ G.get? q.1 = none)
    (ho : (Mine.heapK w.params).lookup f = some ⟨oc, od, .func (fnOf name qual params body scope dV kV doc pm an cdv ct), osl⟩) (hcd : codeIn (Mine.heapK w.params) cdv qual = true)
    (hbind : BindsTo s (fnOf name qual params body scope dV kV doc pm an cdv ct) args binds) (hkind : (binds.all fun y => scope.names.lookup y.1 == some .local || scope.names.lookup y.1 == some .cell) = true)
    (hco : scope.isCoroutine = false) (hgen : scope.isGenerator = false) (hk : scope.kind = .function) (hnd : ((cellsFrom 0 scope.names []).map (·.1)).Nodup)
    (h : ∀ g L' h₁ tk cells, g = hideAll s.heap (led.map (·.1)) → AllLt L' led → Fr g L' h₁ (bindL (envOfC qual scope L' f cdv).kindOf binds fun _ => none) → News g L' h₁ (cells ++ led) →
      CellsAre (bindC (envOfC qual scope L' f cdv).kindOf binds fun _ => none) (cellsFrom (L' + 1) scope.names []) cells → (Mine.heapK w.params).In g → Top Mine.viewK (looseW Mine.viewK [Str.ofString "KIND_NAMES", Str.ofString "HEAP_NAMES"]) mean mg mb g →
      Hr lv w mean mg mb A (A.deeper (envOfC qual scope L' f cdv)) base outer (envOfC qual scope L' f cdv) g L' → A.depth < 890 → A.units < 8900 → A.handled = none →
      wpAny (model PySem.Challenge.pw_nm0133_01 w) (A.deeper (envOfC qual scope L' f cdv)) (execs body (envOfC qual scope L' f cdv))
        (fun fl s' => R (.ok (.ret (match fl with | .ret v => v | _ => .none))) s')
        (fun e s' => wpAny (model PySem.Challenge.pw_nm0133_01 w) (A.deeper (envOfC qual scope L' f cdv)) (leaving (envOfC qual scope L' f cdv) e) (fun _ s'' => R (.error e) s'') (fun e' s'' => R (.error e') s'') s')
        { s with heap := h₁, toks := tk }) : codeAny (model PySem.Challenge.pw_nm0133_01 w) A (.call (.ref f) args) R s := by
  have hB := C.ground hl
  have sb : base.StaysIn s.heap := fun b o e => C.stays b o (C.B.stays b o e)
  have hX : (Mine.heapK w.params).In s.heap := C.X.keeps sb
  have hroom : A.depth < recursionLimit := by have := C.dep; simp only [recursionLimit]; omega
  refine codeAny_call_function hroom (hX _ _ ho) rfl hco hgen rfl (codeRec_of hX hcd) (hbind _ _ _ _ ?_)
  refine wpAny_newFunctionEnv_cells hk (kindsX hkind _) fun env' he s' x => ?_
  subst he
  refine ⟨(C.T.nolimit.keeps sb).keeps x.toInCall.keep, codeAny_func ?_⟩
  obtain ⟨h₁, tk, rfl, _⟩ := x.done
  have hk₁ := x.toInCall.keep
  obtain ⟨cells, NC, Y⟩ := Cl.news (h₀ := s.heap) (Nat.le_refl _) fun n c hm => ⟨x.cell n c (lookup_of_mem_nodup (cellsFrom_names scope.names 0 (s.heap.objs.size + 1) [] [] rfl ▸ hnd) hm), x.above n c hm⟩
  refine h _ s.heap.objs.size h₁ tk cells rfl (allLt_of fun p hp => Heap.lt_size (hl p hp).1) ⟨x.toInCall.ns, fun b o e => hk₁ b o (of_hideAll _ e), Nat.le_of_eq (hideAll_size _ _)⟩ (fun p hp => ?_) Y (C.X.keeps hB.stays) (C.T.keeps hB.stays)
    ⟨C.X, C.T, hB, Around.frames_deeper hB.stack, rfl, hk, C.hand, ?_, ?_⟩ (by have := C.dep; omega) (by have := C.un; omega) C.hand
  · rcases List.mem_append.mp hp with hp | hp
    · refine ⟨(NC p hp).1, (NC p hp).2.1, ?_⟩
      cases q : (hideAll s.heap (led.map (·.1))).get? p.1 with
      | none => rfl
      | some o => have := of_hideAll _ q; rw [(NC p hp).2.2] at this; cases this
    · exact ⟨hk₁ _ _ (hl p hp).1, Nat.ne_of_lt (Heap.lt_size (hl p hp).1), hideAll_none _ (List.mem_map_of_mem hp)⟩
  · have := C.dep; simp only [depth_deeper]; omega
  · have := C.un; simp only [Around.deeper_units]; omega
end

theorem but_of {h g h' : Heap} {D L : Addr} {o : Obj} {m : Str → Option Value} (hg : g = hideAll h ([(D, o)].map (·.1))) (F : Fr g L h' m) : ExtBut D h h' := by
  subst hg
  intro b ob hb e
  exact F.keep b ob (hideAll_get _ e (by simpa using hb))
theorem ext_of {h g h' : Heap} {L : Addr} {m : Str → Option Value} (hg : g = hideAll h (([] : List (Addr × Obj)).map (·.1))) (F : Fr g L h' m) : Ext h h' := by
  subst hg
  exact F.keep
theorem one_led {h G : Heap} {D : Addr} {o : Obj} (h1 : h.get? D = some o) (h2 : G.get? D = none) : ∀ q ∈ [(D, o)], h.get? q.1 = some q.2 ∧ G.get? q.1 = none := by
  intro q hq; rcases List.mem_singleton.mp hq with rfl; exact ⟨h1, h2⟩
theorem no_led {h G : Heap} : ∀ q ∈ ([] : List (Addr × Obj)), h.get? q.1 = some q.2 ∧ G.get? q.1 = none := fun _ hq => nomatch hq

/-- the digits: a list of at most 63 ints -/
def DigO (o : Obj) : Prop := ∃ vs n ns, o = listOf (List.toArray vs) n ∧ IntsAre vs ns ∧ ns.length ≤ 63
def Digs (h : Heap) (D : Addr) : Prop := ∃ o, h.get? D = some o ∧ DigO o

section
variable {prog : Program} {w : World} {A : Around} {E : Value → Shared → Prop} {s : Shared} {h₀ h h' : Heap} {L D : Addr} {m : Str → Option Value} {news news' : List (Addr × Obj)} {n : Nat}
theorem fr_but {o : Obj} (F : Fr h₀ L h m) (N : News h₀ L h news) (hm : (D, o) ∈ news) (hE : ExtBut D h h') : Fr h₀ L h' m := by
  have q := N _ hm
  refine ⟨F.ns.at' fun o e => hE L o (Ne.symm q.2.1) e, fun b ob e => hE b ob (fun z => ?_) (F.keep b ob e), F.above⟩
  rw [z, q.2.2] at e; cases e
theorem news_but {o o' : Obj} (N : News h₀ L h news) (hE : ExtBut D h h') (hD : h'.get? D = some o') (U : Upd D o o' news news') : News h₀ L h' news' := by
  obtain ⟨pre, post, rfl, rfl, a, b⟩ := U.split
  intro p hp
  rcases List.mem_append.mp hp with hp | hp
  · have q := N p (List.mem_append_left _ hp)
    exact ⟨hE _ _ (a p hp) q.1, q.2⟩
  · have qD := N (D, o) (List.mem_append_right _ (.head _))
    cases hp with
    | head => exact ⟨hD, qD.2⟩
    | tail _ hp =>
      have q := N p (List.mem_append_right _ (.tail _ hp))
      exact ⟨hE _ _ (b p hp) q.1, q.2⟩
theorem Upd.mem {o o' : Obj} (U : Upd D o o' news news') : (D, o) ∈ news := by
  obtain ⟨pre, post, rfl, rfl, _, _⟩ := U.split
  exact List.mem_append_right _ (.head _)

theorem my_pop0 {u : Tok} {v : Value} {vr : List Value} {Q : Value → Shared → Prop} (F : Fr h₀ L s.heap m) (N : News h₀ L s.heap news)
    (U : Upd D (listOf (v :: vr).toArray n) (listOf vr.toArray (n + 1)) news news') (hz : vr.length ≤ 1000)
    (h : ∀ h', Fr h₀ L h' m → News h₀ L h' news' → Q v { s with heap := h' }) : wpAny (model prog w) A (call (.builtin "list.pop") [.ref D, .int 0 u]) Q E s := by
  refine kl_popAt (k := 0) (p := []) (q := vr) F N rfl ?_ rfl U ?_ h
  · rw [List.size_toArray, List.length_cons]; simp [seqIndex?]
  · rw [PySem.sizeLine_eq]; simp only [List.length_cons]; omega
end

def AllNe (d : Addr) : List (Addr × Obj) → Prop
  | [] => True
  | p :: r => @Ne Nat p.1 d ∧ AllNe d r
theorem allNe_iff {d : Addr} {l : List (Addr × Obj)} : AllNe d l ↔ ∀ p ∈ l, @Ne Nat p.1 d := by
  induction l with
  | nil => exact ⟨fun _ _ hp => (nomatch hp), fun _ => trivial⟩
  | cons p r ih =>
    constructor
    · intro h q hq
      rcases List.mem_cons.mp hq with rfl | hq
      · exact h.1
      · exact ih.mp h.2 q hq
    · intro h
      exact ⟨h p List.mem_cons_self, ih.mpr fun q hq => h q (List.mem_cons_of_mem _ hq)⟩
theorem new_ne {h g : Heap} {L a : Addr} {led : List (Addr × Obj)} (N : News g L h led) (ha : h.get? a = none) : AllNe a led := allNe_iff.mpr fun p hp e => by
  have q := (N p hp).1
  rw [e, ha] at q; cases q
theorem fresh_of {h g h' : Heap} {D L a : Addr} {o oa : Obj} {led : List (Addr × Obj)} (hg : g = hideAll h ([(D, o)].map (·.1))) (N : News g L h' led) (hm : (a, oa) ∈ led) (hne : a ≠ D) : h.get? a = none := by
  cases e : h.get? a with
  | none => rfl
  | some x =>
    have q := (N _ hm).2.2
    rw [hg, hideAll_get _ e (by simpa using hne)] at q
    cases q
/-- a thing that the call has made joins the ledger -/
theorem news_new {h g h' : Heap} {L D a : Addr} {oa o o' : Obj} {m : Str → Option Value} {led led' : List (Addr × Obj)} (F : Fr g L h m) (N : News g L h led) (hE : ExtBut D h h') (hD : h'.get? D = some o') (U : Upd D o o' led led')
    (ha : h'.get? a = some oa) (hn : h.get? a = none) : News g L h' ((a, oa) :: led') := by
  intro p hp
  cases hp with
  | head =>
    refine ⟨ha, fun e => ?_, ?_⟩
    · obtain ⟨oL, _, _, q, _⟩ := F.ns
      have e' : a = L := e
      rw [e', q] at hn; cases hn
    · show g.get? a = none
      cases q : g.get? a with
      | none => rfl
      | some x => rw [F.keep a x q] at hn; cases hn
  | tail _ hp => exact news_but N hE hD U p hp
/-- AllNe, kept as it was handed on -/
def NeF (d : Addr) (l : List (Addr × Obj)) : Prop := AllNe d l
theorem neF {d : Addr} {l : List (Addr × Obj)} (h : AllNe d l) : NeF d l := h
theorem NeF.out {d : Addr} {l : List (Addr × Obj)} (h : NeF d l) : AllNe d l := h
theorem ne_at {a b : Addr} {o : Obj} {l : List (Addr × Obj)} (h : NeF a l) (hp : (b, o) ∈ l) : @Ne Nat b a := allNe_iff.mp h _ hp
theorem ne_at' {a b : Addr} {o : Obj} {l : List (Addr × Obj)} (h : NeF a l) (hp : (b, o) ∈ l) : @Ne Nat a b := Ne.symm (ne_at h hp)
theorem lt_at {l : List (Addr × Obj)} {a b : Addr} {o : Obj} (h : AllLt a l) (hp : (b, o) ∈ l) : @Ne Nat b a := by
  induction l with
  | nil => exact nomatch hp
  | cons p r ih =>
    rcases List.mem_cons.mp hp with e | hp
    · subst e; exact Nat.ne_of_lt h.1
    · exact ih h.2 hp
theorem allLt_up {l : List (Addr × Obj)} {d x : Addr} (h2 : d < x) (h : AllLt d l) : AllLt x ((d, default) :: l) := ⟨h2, by
  induction l with
  | nil => trivial
  | cons p r ih => exact ⟨Nat.lt_trans h.1 h2, ih h.2⟩⟩
theorem lt_in {l : List (Addr × Obj)} {a b : Addr} {o : Obj} (h : AllLt a l) (hp : (b, o) ∈ l) : b < a := by
  induction l with
  | nil => exact nomatch hp
  | cons p r ih =>
    rcases List.mem_cons.mp hp with e | hp
    · subst e; exact h.1
    · exact ih h.2 hp
theorem allLt_ne {l : List (Addr × Obj)} {d : Addr} {p : Addr × Obj} (h : AllLt d l) (hp : p ∈ l) : @Ne Nat p.1 d := lt_at (b := p.1) (o := p.2) h hp
theorem neF_ne {l : List (Addr × Obj)} {d : Addr} {p : Addr × Obj} (h : NeF d l) (hp : p ∈ l) : @Ne Nat p.1 d := allNe_iff.mp h p hp
theorem lt_at' {l : List (Addr × Obj)} {a b : Addr} {o : Obj} (h : AllLt a l) (hp : (b, o) ∈ l) : @Ne Nat a b := Ne.symm (lt_at h hp)
theorem off3_ne {I C D : Addr} {l : List (Addr × Obj)} (h : LCg.Off3 I C D l) : NeF I l ∧ NeF C l ∧ NeF D l := ⟨allNe_iff.mpr fun p hp => (h.mem p hp).1, allNe_iff.mpr fun p hp => (h.mem p hp).2.1, allNe_iff.mpr fun p hp => (h.mem p hp).2.2⟩
theorem off1_ne {D : Addr} : ∀ {l : List (Addr × Obj)}, LCg.Off1 D l → NeF D l
  | [], _ => trivial
  | _ :: _, h => ⟨h.1, off1_ne h.2⟩
theorem rows_C1_1 : True := by
  k_with_none
  trivial
local macro_rules | `(tactic| walk_at "m_in") => `(tactic| ((case k6 => k_is); (case k7 => k_is); (case k9 => exact BindsTo.of_eq rfl); (case kB => exact locs rfl); (case c2 => exact rfl); (case c3 => exact rfl); (case c4 => exact rfl); (case c5 => decide)))
local macro_rules | `(tactic| k_ne) => `(tactic| (refine neN ?_; (try dsimp only); first | exact lt_at (by assumption) (by k_mem) | exact lt_at' (by assumption) (by k_mem) | exact ne_at (by assumption) (by k_mem) | exact ne_at' (by assumption) (by k_mem) | omega))
local macro_rules | `(tactic| walk_at "m_memT") => `(tactic| first | with_reducible assumption | (refine List.Mem.tail _ ?_; walk_at "m_memT"))
local macro_rules | `(tactic| k_all) => `(tactic| (intro pX hpX; first | exact allLt_ne (by assumption) (by walk_at "m_memT") | exact neF_ne (by assumption) (by walk_at "m_memT")))
local macro_rules | `(tactic| k_lt $h) => `(tactic| replace $h := allLt_of $h)
local macro_rules | `(tactic| k_lt2 $h) => `(tactic| replace $h := allLt_up (ltN $h) (by assumption))
local macro_rules | `(tactic| walk_at "m_go") => `(tactic| ((dsimp only); (try k_unmd); k_fold; k_steps))
theorem rows_C1_3 : True := by
  k_with "call builtin:list.pop" => (k_here; (with_reducible show wpAny _ _ (call (Value.builtin _) [Value.ref _, Value.int _ _]) _ _ _); k_dflt (refine' my_pop0 ?F ?N ?U ?z ?_; (case F => k_asm); (case N => k_asm); (case U => k_upd); (case z => ((have hLen := IntsAre.length (by assumption)); simp only [List.length_cons] at *; omega))); intro h'ᵣ F'ᵣ N'ᵣ)
  trivial

section
variable {w : World} {mean : ExcName → Option Value} {mg mb : Str → Option Value} {A A₀ : Around} {base G g : Heap} {outer : List Env} {env : Env} {s : Shared} {Q E : Value → Shared → Prop} {D L : Addr} {m : Str → Option Value} {led : List (Addr × Obj)} {o : Obj}
set_option maxHeartbeats 4000000 in
theorem take_ok {many : Int} {t : Tok} (C : At 20 w mean mg mb A base outer G s.heap) (hD : Digs s.heap D) (hG : G.get? D = none) (hm : 0 < many) (hm2 : many < 100)
    (h : ∀ v t' h' tk', 0 ≤ v → v < many → ExtBut D s.heap h' → Digs h' D → Q (.int v t') { s with heap := h', toks := tk' }) :
    wpAny (model PySem.Challenge.pw_nm0133_01 w) A (call (.ref 388) [.ref D, .int many t]) Q E s := by
  obtain ⟨_, hD, vs, n, ns, rfl, hi, hl⟩ := hD
  cases hi with
  | nil =>
    refine wpAny_call ?_
    refine' enter [(D, listOf [].toArray n)] [(Str.ofString "digits", .ref D), (Str.ofString "many", .int many t)] C (by decide) (one_led hD hG) ?k6 ?k7 ?k9 ?kB ?c2 ?c3 ?c4 ?c5 ?_
    walk_at "m_in"
    intro g L' h₁ hg hlt F' N' X' T' H hd hu hA
    have hi := IntsAre.nil
    clear C hD hG
    walk_at "m_go"
    refine h _ _ _ _ ?_ ?_ (but_of hg (by assumption)) ⟨_, (News.get (by assumption) (by k_mem)), _, _, _, rfl, .nil, hl⟩ <;> omega
  | cons i t₀ hr =>
    rename_i vr nr
    refine wpAny_call ?_
    refine' enter [(D, listOf (Value.int i t₀ :: vr).toArray n)] [(Str.ofString "digits", .ref D), (Str.ofString "many", .int many t)] C (by decide) (one_led hD hG) ?k6 ?k7 ?k9 ?kB ?c2 ?c3 ?c4 ?c5 ?_
    walk_at "m_in"
    intro g L' h₁ hg hlt F' N' X' T' H hd hu hA
    have hi := IntsAre.cons i t₀ hr
    clear C hD hG
    walk_at "m_go"
    all_goals first
    | (refine h _ _ _ _ ?_ ?_ (but_of hg (by assumption)) ⟨_, (News.get (by assumption) (by k_mem)), _, _, _, rfl, hi, hl⟩ <;> omega)
    | exact h _ _ _ _ (fmod_lo _ hm) (fmod_hi _ hm) (but_of hg (by assumption)) ⟨_, (News.get (by assumption) (by k_mem)), _, _, _, rfl, hr, by simp only [List.length_cons] at hl; omega⟩
theorem take_use {many : Int} {t : Tok} {led' : Obj → List (Addr × Obj)} {lv : Nat} (H : Hr lv w mean mg mb A₀ A base outer env g L) (F : Fr g L s.heap m) (N : News g L s.heap led) (U : ∀ o', Upd D o o' led (led' o')) (hlv : 20 ≤ lv) (hD : DigO o) (hm : 0 < many) (hm2 : many < 100)
    (h : ∀ (v : Nat) t' o' h' tk', (v : Int) < many → DigO o' → Fr g L h' m → News g L h' (led' o') → Q (.int (v : Int) t') { s with heap := h', toks := tk' }) :
    wpAny (model PySem.Challenge.pw_nm0133_01 w) A (call (.ref 388) [.ref D, .int many t]) Q E s := by
  have hmem := Upd.mem (U o)
  refine take_ok (H.at F N hlv) ⟨o, (N _ hmem).1, hD⟩ (none_in hmem) hm hm2 fun v t' h' tk' h0 h1 hE ⟨o', hD', hd'⟩ => ?_
  obtain ⟨v, rfl⟩ := Int.eq_ofNat_of_zero_le h0
  exact h v t' o' h' tk' h1 hd' (fr_but F N hmem hE) (news_but N hE hD' (U o'))
end
theorem rows_C2_1 : True := by
  k_with_none
  trivial
theorem rows_C2_2 : True := by
  k_with "call ref" => (k_here; (with_reducible show wpAny _ _ (call (Value.ref 388) [Value.ref _, Value.int _ _]) _ _ _); k_dflt (refine' take_use ?H ?F ?N ?U ?lv ?D ?m ?m2 ?_; (case H => assumption); (case F => k_asm); (case N => k_asm); (case U => (intro oX; k_upd)); (case lv => decide); (case D => assumption); (case m => omega); (case m2 => omega)); intro v'ᵣ t'ᵣ o'ᵣ h'ᵣ tk'ᵣ hv1 hDo'ᵣ F'ᵣ N'ᵣ; (try k_sweep))
  trivial

section
variable {w : World} {mean : ExcName → Option Value} {mg mb : Str → Option Value} {A A₀ : Around} {base G g : Heap} {outer : List Env} {env : Env} {s : Shared} {Q E : Value → Shared → Prop} {D L : Addr} {m : Str → Option Value} {led : List (Addr × Obj)} {o : Obj}
set_option maxHeartbeats 4000000 in
theorem kind_ok (C : At 30 w mean mg mb A base outer G s.heap) (hD : Digs s.heap D) (hG : G.get? D = none)
    (h : ∀ v t' h' tk', ExtBut D s.heap h' → Digs h' D → Q (.int v t') { s with heap := h', toks := tk' }) :
    wpAny (model PySem.Challenge.pw_nm0133_01 w) A (call (.ref 395) [.ref D]) Q E s := by
  obtain ⟨o, hD, hO⟩ := hD
  obtain ⟨hd0, dp, fr, gd, un⟩ := A
  obtain rfl : hd0 = none := C.hand
  obtain rfl : fr = some outer := C.B.stack
  refine wpAny_call ?_
  refine' enter [(D, o)] [(Str.ofString "digits", .ref D)] C (by decide) (one_led hD hG) ?k6 ?k7 ?k9 ?kB ?c2 ?c3 ?c4 ?c5 ?_
  walk_at "m_in"
  intro g L' h₁ hg hlt F' N' X' T' H hd hu hA
  clear C hD hG
  walk_at "m_go"
  exact h _ _ _ _ (but_of hg (by assumption)) ⟨_, News.get (by assumption) (by k_mem), by assumption⟩
theorem kind_use {led' : Obj → List (Addr × Obj)} {lv : Nat} (H : Hr lv w mean mg mb A₀ A base outer env g L) (F : Fr g L s.heap m) (N : News g L s.heap led) (U : ∀ o', Upd D o o' led (led' o')) (hlv : 30 ≤ lv) (hD : DigO o)
    (h : ∀ v t' o' h' tk', DigO o' → Fr g L h' m → News g L h' (led' o') → Q (.int v t') { s with heap := h', toks := tk' }) :
    wpAny (model PySem.Challenge.pw_nm0133_01 w) A (call (.ref 395) [.ref D]) Q E s := by
  have hmem := Upd.mem (U o)
  refine kind_ok (H.at F N hlv) ⟨o, (N _ hmem).1, hD⟩ (none_in hmem) fun v t' h' tk' hE ⟨o', hD', hd'⟩ => ?_
  exact h v t' o' h' tk' hd' (fr_but F N hmem hE) (news_but N hE hD' (U o'))

/-- least and most as the law writes them -/
def MostIs (v : Value) (d : Option Int) : Prop := (v = .none ∧ d = none) ∨ ∃ i t, v = .int i t ∧ d = some i ∧ 0 ≤ i
set_option maxHeartbeats 4000000 in
theorem ends_ok (C : At 30 w mean mg mb A base outer G s.heap) (hD : Digs s.heap D) (hG : G.get? D = none)
    (h : ∀ a l t mv mo h' tk', ExtBut D s.heap h' → Digs h' D → h'.get? a = some { cls := .type "tuple", data := .seq #[.int l t, mv] } → s.heap.get? a = none → 0 ≤ l → MostIs mv mo → Q (.ref a) { s with heap := h', toks := tk' }) :
    wpAny (model PySem.Challenge.pw_nm0133_01 w) A (call (.ref 407) [.ref D]) Q E s := by
  obtain ⟨o, hD, hO⟩ := hD
  obtain ⟨hd0, dp, fr, gd, un⟩ := A
  obtain rfl : hd0 = none := C.hand
  obtain rfl : fr = some outer := C.B.stack
  refine wpAny_call ?_
  refine' enter [(D, o)] [(Str.ofString "digits", .ref D)] C (by decide) (one_led hD hG) ?k6 ?k7 ?k9 ?kB ?c2 ?c3 ?c4 ?c5 ?_
  walk_at "m_in"
  intro g L' h₁ hg hlt F' N' X' T' H hd hu hA
  clear C hD hG
  walk_at "m_go"
  all_goals first
    | exact h _ _ _ _ none _ _ (but_of hg (by assumption)) ⟨_, News.get (by assumption) (by k_mem), by assumption⟩ (News.get (by assumption) (by k_mem)) (fresh_of hg (by assumption) (by k_mem) (by k_ne)) (by omega) (.inl ⟨rfl, rfl⟩)
    | (refine h _ _ _ _ (some _) _ _ (but_of hg (by assumption)) ⟨_, News.get (by assumption) (by k_mem), by assumption⟩ (News.get (by assumption) (by k_mem)) (fresh_of hg (by assumption) (by k_mem) (by k_ne)) (by omega) (.inr ⟨_, _, rfl, rfl, ?_⟩) <;> omega)
theorem ends_use {led' : Obj → List (Addr × Obj)} {lv : Nat} (H : Hr lv w mean mg mb A₀ A base outer env g L) (F : Fr g L s.heap m) (N : News g L s.heap led) (U : ∀ o', Upd D o o' led (led' o')) (hlv : 30 ≤ lv) (hD : DigO o)
    (h : ∀ a l t mv mo o' h' tk', DigO o' → 0 ≤ l → MostIs mv mo → AllNe a led → Fr g L h' m → News g L h' ((a, { cls := .type "tuple", data := .seq #[.int l t, mv] }) :: led' o') → Q (.ref a) { s with heap := h', toks := tk' }) :
    wpAny (model PySem.Challenge.pw_nm0133_01 w) A (call (.ref 407) [.ref D]) Q E s := by
  have hmem := Upd.mem (U o)
  refine ends_ok (H.at F N hlv) ⟨o, (N _ hmem).1, hD⟩ (none_in hmem) fun a l t mv mo h' tk' hE ⟨o', hD', hd'⟩ ha hn h0 hmo => ?_
  exact h a l t mv mo o' h' tk' hd' h0 hmo (new_ne N hn) (fr_but F N hmem hE) (news_new F N hE hD' (U o') ha hn)
theorem rows_C2_3 : True := by
  k_with "call ref" => (k_here; (with_reducible show wpAny _ _ (call (Value.ref 407) [Value.ref _]) _ _ _); k_dflt (refine' ends_use ?H ?F ?N ?U ?lv ?D ?_; (case H => assumption); (case F => k_asm); (case N => k_asm); (case U => (intro oX; k_upd)); (case lv => decide); (case D => assumption)); intro a'ᵣ l'ᵣ t'ᵣ mv'ᵣ mo'ᵣ o'ᵣ h'ᵣ tk'ᵣ hDo'ᵣ hl0'ᵣ hmo'ᵣ hne'ᵣ F'ᵣ N'ᵣ; (replace hne'ᵣ := neF hne'ᵣ); (try k_sweep))
  trivial
theorem rows_C2_4 : True := by
  k_with "call ref" => (k_here; (with_reducible show wpAny _ _ (call (Value.ref 395) [Value.ref _]) _ _ _); k_dflt (refine' kind_use ?H ?F ?N ?U ?lv ?D ?_; (case H => assumption); (case F => k_asm); (case N => k_asm); (case U => (intro oX; k_upd)); (case lv => decide); (case D => assumption)); intro v'ᵣ t'ᵣ o'ᵣ h'ᵣ tk'ᵣ hDo'ᵣ F'ᵣ N'ᵣ; (try k_sweep))
  trivial
set_option maxHeartbeats 4000000 in
theorem table_ok (C : At 40 w mean mg mb A base outer G s.heap) (hD : Digs s.heap D) (hG : G.get? D = none)
    (h : ∀ a k tk l t mv mo h' tk', ExtBut D s.heap h' → Digs h' D → h'.get? a = some { cls := .type "tuple", data := .seq #[.int k tk, .int l t, mv] } → s.heap.get? a = none → 0 ≤ l → MostIs mv mo → Q (.ref a) { s with heap := h', toks := tk' }) :
    wpAny (model PySem.Challenge.pw_nm0133_01 w) A (call (.ref 414) [.ref D]) Q E s := by
  obtain ⟨o, hD, hO⟩ := hD
  obtain ⟨hd0, dp, fr, gd, un⟩ := A
  obtain rfl : hd0 = none := C.hand
  obtain rfl : fr = some outer := C.B.stack
  refine wpAny_call ?_
  refine' enter [(D, o)] [(Str.ofString "digits", .ref D)] C (by decide) (one_led hD hG) ?k6 ?k7 ?k9 ?kB ?c2 ?c3 ?c4 ?c5 ?_
  walk_at "m_in"
  intro g L' h₁ hg hlt F' N' X' T' H hd hu hA
  clear C hD hG
  walk_at "m_go"
  exact h _ _ _ _ _ _ _ _ _ (but_of hg (by assumption)) ⟨_, News.get (by assumption) (by k_mem), by assumption⟩ (News.get (by assumption) (by k_mem)) (fresh_of hg (by assumption) (by k_mem) (by k_ne)) (by assumption) (by assumption)
theorem table_use {led' : Obj → List (Addr × Obj)} {lv : Nat} (H : Hr lv w mean mg mb A₀ A base outer env g L) (F : Fr g L s.heap m) (N : News g L s.heap led) (U : ∀ o', Upd D o o' led (led' o')) (hlv : 40 ≤ lv) (hD : DigO o)
    (h : ∀ a k tk l t mv mo o' h' tk', DigO o' → 0 ≤ l → MostIs mv mo → AllNe a led → Fr g L h' m → News g L h' ((a, { cls := .type "tuple", data := .seq #[.int k tk, .int l t, mv] }) :: led' o') → Q (.ref a) { s with heap := h', toks := tk' }) :
    wpAny (model PySem.Challenge.pw_nm0133_01 w) A (call (.ref 414) [.ref D]) Q E s := by
  have hmem := Upd.mem (U o)
  refine table_ok (H.at F N hlv) ⟨o, (N _ hmem).1, hD⟩ (none_in hmem) fun a k tk l t mv mo h' tk' hE ⟨o', hD', hd'⟩ ha hn h0 hmo => ?_
  exact h a k tk l t mv mo o' h' tk' hd' h0 hmo (new_ne N hn) (fr_but F N hmem hE) (news_new F N hE hD' (U o') ha hn)
theorem rows_C2_5 : True := by
  k_with "call ref" => (k_here; (with_reducible show wpAny _ _ (call (Value.ref 414) [Value.ref _]) _ _ _); k_dflt (refine' table_use ?H ?F ?N ?U ?lv ?D ?_; (case H => assumption); (case F => k_asm); (case N => k_asm); (case U => (intro oX; k_upd)); (case lv => decide); (case D => assumption)); intro a'ᵣ k'ᵣ tk1'ᵣ l'ᵣ t'ᵣ mv'ᵣ mo'ᵣ o'ᵣ h'ᵣ tk'ᵣ hDo'ᵣ hl0'ᵣ hmo'ᵣ hne'ᵣ F'ᵣ N'ᵣ; (replace hne'ᵣ := neF hne'ᵣ); (try k_sweep))
  trivial
set_option maxHeartbeats 4000000 in
theorem cell_ok (C : At 40 w mean mg mb A base outer G s.heap) (hD : Digs s.heap D) (hG : G.get? D = none)
    (h : ∀ a k tk l t h' tk', ExtBut D s.heap h' → Digs h' D → h'.get? a = some { cls := .type "tuple", data := .seq #[.int k tk, .int l t] } → s.heap.get? a = none → Q (.ref a) { s with heap := h', toks := tk' }) :
    wpAny (model PySem.Challenge.pw_nm0133_01 w) A (call (.ref 421) [.ref D]) Q E s := by
  obtain ⟨o, hD, hO⟩ := hD
  obtain ⟨hd0, dp, fr, gd, un⟩ := A
  obtain rfl : hd0 = none := C.hand
  obtain rfl : fr = some outer := C.B.stack
  refine wpAny_call ?_
  refine' enter [(D, o)] [(Str.ofString "digits", .ref D)] C (by decide) (one_led hD hG) ?k6 ?k7 ?k9 ?kB ?c2 ?c3 ?c4 ?c5 ?_
  walk_at "m_in"
  intro g L' h₁ hg hlt F' N' X' T' H hd hu hA
  clear C hD hG
  walk_at "m_go"
  exact h _ _ _ _ _ _ _ (but_of hg (by assumption)) ⟨_, News.get (by assumption) (by k_mem), by assumption⟩ (News.get (by assumption) (by k_mem)) (fresh_of hg (by assumption) (by k_mem) (by k_ne))
theorem cell_use {led' : Obj → List (Addr × Obj)} {lv : Nat} (H : Hr lv w mean mg mb A₀ A base outer env g L) (F : Fr g L s.heap m) (N : News g L s.heap led) (U : ∀ o', Upd D o o' led (led' o')) (hlv : 40 ≤ lv) (hD : DigO o)
    (h : ∀ a k tk l t o' h' tk', DigO o' → AllNe a led → Fr g L h' m → News g L h' ((a, { cls := .type "tuple", data := .seq #[.int k tk, .int l t] }) :: led' o') → Q (.ref a) { s with heap := h', toks := tk' }) :
    wpAny (model PySem.Challenge.pw_nm0133_01 w) A (call (.ref 421) [.ref D]) Q E s := by
  have hmem := Upd.mem (U o)
  refine cell_ok (H.at F N hlv) ⟨o, (N _ hmem).1, hD⟩ (none_in hmem) fun a k tk l t h' tk' hE ⟨o', hD', hd'⟩ ha hn => ?_
  exact h a k tk l t o' h' tk' hd' (new_ne N hn) (fr_but F N hmem hE) (news_new F N hE hD' (U o') ha hn)
theorem rows_C2_6 : True := by
  k_with "call ref" => (k_here; (with_reducible show wpAny _ _ (call (Value.ref 421) [Value.ref _]) _ _ _); k_dflt (refine' cell_use ?H ?F ?N ?U ?lv ?D ?_; (case H => assumption); (case F => k_asm); (case N => k_asm); (case U => (intro oX; k_upd)); (case lv => decide); (case D => assumption)); intro a'ᵣ k'ᵣ tk1'ᵣ l'ᵣ t'ᵣ o'ᵣ h'ᵣ tk'ᵣ hDo'ᵣ hne'ᵣ F'ᵣ N'ᵣ; (replace hne'ᵣ := neF hne'ᵣ); (try k_sweep))
  trivial
end
theorem rows_C3_1 : True := by
  k_with_none
  k_with "call ref" => (k_here; (with_reducible show wpAny _ _ (call (Value.ref 388) [Value.ref _, Value.int _ _]) _ _ _); k_dflt (refine' take_use ?H ?F ?N ?U ?lv ?D ?m ?m2 ?_; (case H => assumption); (case F => k_asm); (case N => k_asm); (case U => (intro oX; k_upd)); (case lv => decide); (case D => assumption); (case m => omega); (case m2 => omega)); intro v'ᵣ t'ᵣ o'ᵣ h'ᵣ tk'ᵣ hv1 hDo'ᵣ F'ᵣ N'ᵣ; (try k_sweep))
  k_with "call ref" => (k_here; (with_reducible show wpAny _ _ (call (Value.ref 395) [Value.ref _]) _ _ _); k_dflt (refine' kind_use ?H ?F ?N ?U ?lv ?D ?_; (case H => assumption); (case F => k_asm); (case N => k_asm); (case U => (intro oX; k_upd)); (case lv => decide); (case D => assumption)); intro v'ᵣ t'ᵣ o'ᵣ h'ᵣ tk'ᵣ hDo'ᵣ F'ᵣ N'ᵣ; (try k_sweep))
  k_with "call ref" => (k_here; (with_reducible show wpAny _ _ (call (Value.ref 407) [Value.ref _]) _ _ _); k_dflt (refine' ends_use ?H ?F ?N ?U ?lv ?D ?_; (case H => assumption); (case F => k_asm); (case N => k_asm); (case U => (intro oX; k_upd)); (case lv => decide); (case D => assumption)); intro a'ᵣ l'ᵣ t'ᵣ mv'ᵣ mo'ᵣ o'ᵣ h'ᵣ tk'ᵣ hDo'ᵣ hl0'ᵣ hmo'ᵣ hne'ᵣ F'ᵣ N'ᵣ; (replace hne'ᵣ := neF hne'ᵣ); (try k_sweep))
  k_with "call ref" => (k_here; (with_reducible show wpAny _ _ (call (Value.ref 414) [Value.ref _]) _ _ _); k_dflt (refine' table_use ?H ?F ?N ?U ?lv ?D ?_; (case H => assumption); (case F => k_asm); (case N => k_asm); (case U => (intro oX; k_upd)); (case lv => decide); (case D => assumption)); intro a'ᵣ k'ᵣ tk1'ᵣ l'ᵣ t'ᵣ mv'ᵣ mo'ᵣ o'ᵣ h'ᵣ tk'ᵣ hDo'ᵣ hl0'ᵣ hmo'ᵣ hne'ᵣ F'ᵣ N'ᵣ; (replace hne'ᵣ := neF hne'ᵣ); (try k_sweep))
  k_with "call ref" => (k_here; (with_reducible show wpAny _ _ (call (Value.ref 421) [Value.ref _]) _ _ _); k_dflt (refine' cell_use ?H ?F ?N ?U ?lv ?D ?_; (case H => assumption); (case F => k_asm); (case N => k_asm); (case U => (intro oX; k_upd)); (case lv => decide); (case D => assumption)); intro a'ᵣ k'ᵣ tk1'ᵣ l'ᵣ t'ᵣ o'ᵣ h'ᵣ tk'ᵣ hDo'ᵣ hne'ᵣ F'ᵣ N'ᵣ; (replace hne'ᵣ := neF hne'ᵣ); (try k_sweep))
  trivial
theorem rows_C3_2 : True := by
  k_with "eval ListComp" => (k_here; k_dflt (refine LCg.ListComp_U (F₀ := by k_asm) (by with_unfolding_all rfl) (by decide) (by rfl) (by decide) (by rfl) ?_))
  trivial

def Later (P : Prop) : Prop := P
def CI (_I : Nat → List Value → List (Addr × Obj) → Prop) : Prop := True
section
variable {prog : Program} {w : World} {A : Around} {h₀ : Heap} {L : Addr} {m : Str → Option Value} {env : Env} {elt : Expr} {x : Str} {scope : Scope} {cl : List (Str × Addr)} {s : Shared} {S : List (Addr × Obj) → Prop} {P : Nat → Value → Prop} {Fin : List Value → List (Addr × Obj) → Prop} {news : List (Addr × Obj)} {n : Nat}
theorem comp_inv {I : Nat → List Value → List (Addr × Obj) → Prop} (_hCI : CI I) (h0 : Later (I 0 [] news))
    (turn : Later (∀ i ys nw v IA oI C oC D m₂ h tk (E' : Value → Shared → Prop), i < n → I i ys nw → P i v → LCg.NsObj oC m₂ → m₂ x = some v → Fr h₀ L h m → News h₀ L h ((IA, oI) :: (C, oC) :: (D, LCg.lst ys) :: nw) → LCg.Off3 IA C D nw → ((@Ne Nat IA C) ∧ (@Ne Nat IA D) ∧ (@Ne Nat C D)) →
      wpAny (model prog w) A (eval elt (compEnvC scope cl C env)) (LCg.CompEnd h₀ L m { s with heap := h, toks := tk } IA oI C oC D (LCg.lst ys) S (fun y nw' => I (i + 1) (ys ++ [y]) nw')) E' { s with heap := h, toks := tk }))
    (fin : Later (∀ ys nw, I n ys nw → Fin ys nw)) : LCg.CompRest prog w A h₀ L m env elt x scope cl s S P Fin n 0 [] news := by
  have key : ∀ (j i : Nat) (ys : List Value) (nw : List (Addr × Obj)), i + j = n → I i ys nw → LCg.CompRest prog w A h₀ L m env elt x scope cl s S P Fin j i ys nw := by
    intro j
    induction j with
    | zero =>
      intro i ys nw hi hI
      have e : i = n := by omega
      subst e
      exact LCg.CompRest.zero (fin ys nw hI)
    | succ j ih =>
      intro i ys nw hi hI
      refine LCg.CompRest.succ ?_
      intro v IA oI C oC D m₂ h tk E' hv hC hx F N off ne
      refine wpAny_mono (turn i ys nw v IA oI C oC D m₂ h tk E' (by omega) hI hv hC hx F N off ne) (fun y s₂ hq => ?_) fun _ _ e => e
      obtain ⟨h', tk', nw', e, F', N', off', hS, hI'⟩ := hq
      exact ⟨h', tk', nw', e, F', N', off', hS, ih (i + 1) _ _ (by omega) hI'⟩
  exact key n 0 [] news (by omega) h0
end
theorem rows_C3_3 : True := by
  k_with "CompSrc" => (k_here; k_dflt (refine LCg.CompSrc.range (by rfl) (by k_asm) (by k_asm) (by assumption) (small_one (by omega) (by omega) (by omega) (by omega)) (rangeSize_nat _ _) (by rw [PySem.sizeLine_eq]; omega) ?_; intro g'ᵣ; refine comp_inv (by assumption) ?ci0 ?ciT ?ciF))
  trivial

def IntsN (vs : List Value) (n : Nat) : Prop := ∃ ns, IntsAre vs ns ∧ ns.length = n
theorem IntsN.nil : IntsN [] 0 := ⟨[], .nil, rfl⟩
theorem IntsN.snoc {vs : List Value} {n : Nat} {i : Int} {t : Tok} (h : IntsN vs n) : IntsN (vs ++ [.int i t]) (n + 1) := by
  obtain ⟨ns, a, b⟩ := h
  exact ⟨ns ++ [i], IntsAre.append a (.cons i t .nil), by simp [b]⟩
theorem ne_dig {g h : Heap} {L a D : Addr} {oa o : Obj} {led : List (Addr × Obj)} (N : News g L h led) (hm : (a, oa) ∈ led) (hD : (D, o) ∈ led) (hd : DigO o) (hc : oa.cls ≠ .type "list") : a ≠ D := by
  intro e
  subst e
  have q := (N _ hm).1
  rw [(N _ hD).1] at q
  obtain ⟨vs, n, ns, rfl, _⟩ := hd
  cases q
  exact hc rfl
section
variable {w : World} {mean : ExcName → Option Value} {mg mb : Str → Option Value} {A A₀ : Around} {base G g : Heap} {outer : List Env} {env : Env} {s : Shared} {Q E : Value → Shared → Prop} {D L : Addr} {m : Str → Option Value} {led : List (Addr × Obj)} {o : Obj}
set_option maxHeartbeats 4000000 in
theorem some_ok {t : Tok} (C : At 40 w mean mg mb A base outer G s.heap) (hD : Digs s.heap D) (hG : G.get? D = none)
    (h : ∀ a vs ks h' tk', ExtBut D s.heap h' → Digs h' D → h'.get? a = some { cls := .type "tuple", data := .seq (List.toArray vs) } → IntsAre vs ks → ks.length ≤ 2 → s.heap.get? a = none → Q (.ref a) { s with heap := h', toks := tk' }) :
    wpAny (model PySem.Challenge.pw_nm0133_01 w) A (call (.ref 400) [.ref D, .int 3 t]) Q E s := by
  obtain ⟨o, hD, hO⟩ := hD
  obtain ⟨hd0, dp, fr, gd, un⟩ := A
  obtain rfl : hd0 = none := C.hand
  obtain rfl : fr = some outer := C.B.stack
  refine wpAny_call ?_
  refine' enterC [(D, o)] [(Str.ofString "digits", .ref D), (Str.ofString "many", .int 3 t)] C (by decide) (one_led hD hG) ?k6 ?k7 ?k9 ?kB ?c2 ?c3 ?c4 ?c5 ?_
  case k6 => k_is
  case k7 => k_is
  case k9 => exact BindsTo.of_eq rfl
  case kB => exact rfl
  case c2 => exact rfl
  case c3 => exact rfl
  case c4 => exact rfl
  case c5 => decide +kernel
  intro g L' h₁ tkc cells hg hlt F' N' Y X' T' H hd hu hA
  clear C hD hG
  have hcell := CellsAre.one Y
  obtain ⟨oc, he, hoc⟩ := hcell
  subst he
  clear Y
  replace hoc : oc.data = .cell (some (.ref D)) := hoc
  simp only [List.cons_append, List.nil_append] at N'
  simp only [AllLt, and_true] at hlt
  have hCI : CI (fun i ys nw => IntsN ys i ∧ ∃ o, nw = [(L' + 1, oc), (D, o)] ∧ DigO o) := trivial
  walk_at "m_go"
  case ci0 => exact ⟨IntsN.nil, _, rfl, by assumption⟩
  case ciT =>
    intro i ys nw v IA oI C oC D' m₂ h tk E' hin hI hv hC hx F' N' off ne
    obtain ⟨hi, o', rfl, hdo⟩ := hI
    simp only [LCg.Off3, and_true] at off
    (try k_unmd)
    k_fold
    k_steps
    all_goals first | exact hi.snoc | assumption
  case ciF =>
    intro ys nw hI
    obtain ⟨⟨ns, hi, hlen⟩, o', rfl, hdo⟩ := hI
    k_steps
    exact h _ _ _ _ _ (but_of hg (by assumption)) ⟨_, News.get (by assumption) (by k_mem), by assumption⟩ (News.get (by assumption) (by k_mem)) hi (by omega) (fresh_of hg (by assumption) (by k_mem) (ne_dig (by assumption) (by k_mem) (by k_mem) hdo (by simp)))
theorem some_use {t : Tok} {led' : Obj → List (Addr × Obj)} {lv : Nat} (H : Hr lv w mean mg mb A₀ A base outer env g L) (F : Fr g L s.heap m) (N : News g L s.heap led) (U : ∀ o', Upd D o o' led (led' o')) (hlv : 40 ≤ lv) (hD : DigO o)
    (h : ∀ a vs ks o' h' tk', DigO o' → IntsAre vs ks → ks.length ≤ 2 → AllNe a led → Fr g L h' m → News g L h' ((a, { cls := .type "tuple", data := .seq (List.toArray vs) }) :: led' o') → Q (.ref a) { s with heap := h', toks := tk' }) :
    wpAny (model PySem.Challenge.pw_nm0133_01 w) A (call (.ref 400) [.ref D, .int 3 t]) Q E s := by
  have hmem := Upd.mem (U o)
  refine some_ok (H.at F N hlv) ⟨o, (N _ hmem).1, hD⟩ (none_in hmem) fun a vs ks h' tk' hE ⟨o', hD', hd'⟩ ha hi hl hn => ?_
  exact h a vs ks o' h' tk' hd' hi hl (new_ne N hn) (fr_but F N hmem hE) (news_new F N hE hD' (U o') ha hn)
theorem rows_C3_4 : True := by
  k_with "call ref" => (k_here; (with_reducible show wpAny _ _ (call (Value.ref 400) [Value.ref _, Value.int 3 _]) _ _ _); k_dflt (refine' some_use ?H ?F ?N ?U ?lv ?D ?_; (case H => assumption); (case F => k_asm); (case N => k_asm); (case U => (intro oX; k_upd)); (case lv => decide); (case D => assumption)); intro a'ᵣ vs'ᵣ ks'ᵣ o'ᵣ h'ᵣ tk'ᵣ hDo'ᵣ hi'ᵣ hl'ᵣ hne'ᵣ F'ᵣ N'ᵣ; (replace hne'ᵣ := neF hne'ᵣ); (try k_sweep))
  trivial
end
theorem rows_C4_1 : True := by
  k_with_none
  k_with "call ref" => (k_here; (with_reducible show wpAny _ _ (call (Value.ref 388) [Value.ref _, Value.int _ _]) _ _ _); k_dflt (refine' take_use ?H ?F ?N ?U ?lv ?D ?m ?m2 ?_; (case H => assumption); (case F => k_asm); (case N => k_asm); (case U => (intro oX; k_upd)); (case lv => decide); (case D => assumption); (case m => omega); (case m2 => omega)); intro v'ᵣ t'ᵣ o'ᵣ h'ᵣ tk'ᵣ hv1 hDo'ᵣ F'ᵣ N'ᵣ; (try k_sweep))
  k_with "call ref" => (k_here; (with_reducible show wpAny _ _ (call (Value.ref 395) [Value.ref _]) _ _ _); k_dflt (refine' kind_use ?H ?F ?N ?U ?lv ?D ?_; (case H => assumption); (case F => k_asm); (case N => k_asm); (case U => (intro oX; k_upd)); (case lv => decide); (case D => assumption)); intro v'ᵣ t'ᵣ o'ᵣ h'ᵣ tk'ᵣ hDo'ᵣ F'ᵣ N'ᵣ; (try k_sweep))
  k_with "call ref" => (k_here; (with_reducible show wpAny _ _ (call (Value.ref 407) [Value.ref _]) _ _ _); k_dflt (refine' ends_use ?H ?F ?N ?U ?lv ?D ?_; (case H => assumption); (case F => k_asm); (case N => k_asm); (case U => (intro oX; k_upd)); (case lv => decide); (case D => assumption)); intro a'ᵣ l'ᵣ t'ᵣ mv'ᵣ mo'ᵣ o'ᵣ h'ᵣ tk'ᵣ hDo'ᵣ hl0'ᵣ hmo'ᵣ hne'ᵣ F'ᵣ N'ᵣ; (replace hne'ᵣ := neF hne'ᵣ); (try k_sweep))
  k_with "call ref" => (k_here; (with_reducible show wpAny _ _ (call (Value.ref 414) [Value.ref _]) _ _ _); k_dflt (refine' table_use ?H ?F ?N ?U ?lv ?D ?_; (case H => assumption); (case F => k_asm); (case N => k_asm); (case U => (intro oX; k_upd)); (case lv => decide); (case D => assumption)); intro a'ᵣ k'ᵣ tk1'ᵣ l'ᵣ t'ᵣ mv'ᵣ mo'ᵣ o'ᵣ h'ᵣ tk'ᵣ hDo'ᵣ hl0'ᵣ hmo'ᵣ hne'ᵣ F'ᵣ N'ᵣ; (replace hne'ᵣ := neF hne'ᵣ); (try k_sweep))
  k_with "call ref" => (k_here; (with_reducible show wpAny _ _ (call (Value.ref 421) [Value.ref _]) _ _ _); k_dflt (refine' cell_use ?H ?F ?N ?U ?lv ?D ?_; (case H => assumption); (case F => k_asm); (case N => k_asm); (case U => (intro oX; k_upd)); (case lv => decide); (case D => assumption)); intro a'ᵣ k'ᵣ tk1'ᵣ l'ᵣ t'ᵣ o'ᵣ h'ᵣ tk'ᵣ hDo'ᵣ hne'ᵣ F'ᵣ N'ᵣ; (replace hne'ᵣ := neF hne'ᵣ); (try k_sweep))
  k_with "call ref" => (k_here; (with_reducible show wpAny _ _ (call (Value.ref 400) [Value.ref _, Value.int 3 _]) _ _ _); k_dflt (refine' some_use ?H ?F ?N ?U ?lv ?D ?_; (case H => assumption); (case F => k_asm); (case N => k_asm); (case U => (intro oX; k_upd)); (case lv => decide); (case D => assumption)); intro a'ᵣ vs'ᵣ ks'ᵣ o'ᵣ h'ᵣ tk'ᵣ hDo'ᵣ hi'ᵣ hl'ᵣ hne'ᵣ F'ᵣ N'ᵣ; (replace hne'ᵣ := neF hne'ᵣ); (try k_sweep))
  k_with "eval ListComp" => (k_here; k_dflt (refine LCg.ListComp_U (F₀ := by k_asm) (by with_unfolding_all rfl) (by decide) (by rfl) (by decide) (by rfl) ?_))
  k_with "CompSrc" => (k_here; k_dflt (refine LCg.CompSrc.range (by rfl) (by k_asm) (by k_asm) (by assumption) (small_one (by omega) (by omega) (by omega) (by omega)) (rangeSize_nat _ _) (by rw [PySem.sizeLine_eq]; omega) ?_; intro g'ᵣ; refine comp_inv (by assumption) ?ci0 ?ciT ?ciF))
  trivial
local macro_rules | `(tactic| k_room) => `(tactic| ((simp only [recursionLimit, depth_under_make, depth_under_kw, depth_in1, depth_deeper] at *); (try dsimp only at *); omega))
/-! what the law builds -/
abbrev tupO (vs : Array Value) : Obj := { cls := .type "tuple", data := .seq vs }
abbrev En (hs : Int) (k : String) (t : Tok) (v : Value) : DictEntry := ⟨hs, .str (Str.ofString k) t, v⟩
abbrev PO := Addr → Obj → Prop
def Mem (tl : List (Addr × Obj)) : PO := fun a o => (a, o) ∈ tl
def Hp (h : Heap) : PO := fun a o => h.get? a = some o

inductive AllV {α : Type} (R : Value → α → Prop) : List Value → List α → Prop
  | nil : AllV R [] []
  | cons {v x vs xs} : R v x → AllV R vs xs → AllV R (v :: vs) (x :: xs)
theorem AllV.mono {α : Type} {R R' : Value → α → Prop} (h : ∀ v x, R v x → R' v x) {vs : List Value} {xs : List α} (a : AllV R vs xs) : AllV R' vs xs := by
  induction a with
  | nil => exact .nil
  | cons r _ ih => exact .cons (h _ _ r) ih
theorem AllV.snoc {α : Type} {R : Value → α → Prop} {vs : List Value} {xs : List α} {v : Value} {x : α} (a : AllV R vs xs) (r : R v x) : AllV R (vs ++ [v]) (xs ++ [x]) := by
  induction a with
  | nil => exact .cons r .nil
  | cons q _ ih => exact .cons q ih
theorem AllV.length {α : Type} {R : Value → α → Prop} {vs : List Value} {xs : List α} (a : AllV R vs xs) : vs.length = xs.length := by
  induction a with
  | nil => rfl
  | cons _ _ ih => simp [ih]

inductive Imp where
  | fn (i : Int)
  | tab (k l : Int) (mo : Option Int)
  | mem (l : Int) (mo : Option Int)
  | cell (k m : Int)
  | odd (i : Int)
def Imp.sort : Imp → Int
  | .fn _ => 0
  | .tab .. => 1
  | .mem .. => 2
  | .cell .. => 3
  | .odd _ => 4
def Imp.nm : Imp → Str
  | .fn _ => Str.ofString "f"
  | .tab .. => Str.ofString "t"
  | .mem .. => Str.ofString "m"
  | .cell .. => Str.ofString "g"
  | .odd _ => Str.ofString "f"
def Imp.Ok : Imp → Prop
  | .fn i => 0 ≤ i
  | .tab _ l _ => 0 ≤ l
  | .mem l _ => 0 ≤ l
  | _ => True

inductive KindV (P : PO) (v : Value) (x : List Int × List Int) : Prop
  | mk : ∀ a b c vs us, (v = .ref a ∧ P a (tupO #[.ref b, .ref c]) ∧ P b (tupO (List.toArray vs)) ∧ IntsAre vs x.1 ∧ x.1.length ≤ 2 ∧ P c (tupO (List.toArray us)) ∧ IntsAre us x.2 ∧ x.2.length ≤ 2) → KindV P v x
inductive TabV (P : PO) (v : Value) (x : Int × Int × Option Int) : Prop
  | mk : ∀ a tk t mv, (v = .ref a ∧ P a (tupO #[.int x.1 tk, .int x.2.1 t, mv]) ∧ MostIs mv x.2.2 ∧ 0 ≤ x.2.1) → TabV P v x
inductive MemV (P : PO) (v : Value) (x : Int × Option Int) : Prop
  | mk : ∀ a t mv, (v = .ref a ∧ P a (tupO #[.int x.1 t, mv]) ∧ MostIs mv x.2 ∧ 0 ≤ x.1) → MemV P v x
def CellV (P : PO) (v : Value) (x : Int × Int) : Prop := ∃ a tk t, v = .ref a ∧ P a (tupO #[.int x.1 tk, .int x.2 t])
def AbV (P : PO) (v : Value) : Imp → Prop
  | .fn i => 0 ≤ i ∧ ∃ t, v = .int i t
  | .odd i => ∃ t, v = .int i t
  | .tab k l mo => TabV P v (k, l, mo)
  | .mem l mo => MemV P v (l, mo)
  | .cell k m => CellV P v (k, m)
inductive ImpV (P : PO) (v : Value) (i : Imp) : Prop
  | mk : ∀ x dx n av h1 h2 h3 h4 b1 b2 b3 b4 c1 c2 c3 z, (v = .ref x ∧ z = i.sort ∧ P x (instObj 199 dx) ∧
  P dx (dictOf [En h1 "place" b1 (.str (Str.ofString "h") c1), En h2 "name" b2 (.str i.nm c2), En h3 "sort" b3 (.int z c3), En h4 "about" b4 av] n) ∧ AbV P av i) → ImpV P v i
inductive FuncV (P : PO) (v : Value) (x : Int × List Int) : Prop
  | mk : ∀ a dx n b c vs e h1 h2 h3 b1 b2 b3 c1, (v = .ref a ∧ P a (instObj 227 dx) ∧
  P dx (dictOf [En h1 "kind" b1 (.int x.1 c1), En h2 "locals" b2 (.ref b), En h3 "body" b3 (.ref c)] n) ∧ P b (tupO (List.toArray vs)) ∧ IntsAre vs x.2 ∧ x.2.length ≤ 2 ∧ P c (listOf #[] e) ∧ 0 ≤ x.1) → FuncV P v x
inductive GlobV (P : PO) (v : Value) (x : Int × Int) : Prop
  | mk : ∀ a dx n c d e t h1 h2 h3 b1 b2 b3 c1 c2, (v = .ref a ∧ P a (instObj 255 dx) ∧
  P dx (dictOf [En h1 "kind" b1 (.int x.1 c1), En h2 "mutable" b2 (.int x.2 c2), En h3 "body" b3 (.ref c)] n) ∧ P c (listOf #[.ref d] e) ∧ P d (tupO #[.int 11 t])) → GlobV P v x

section
variable {P P' : PO} (h : ∀ a o, P a o → P' a o) {v : Value}
include h
theorem KindV.mono {x} (q : KindV P v x) : KindV P' v x := by
  obtain ⟨a, b, c, vs, us, e, p1, p2, i1, l1, p3, i2, l2⟩ := q
  exact ⟨a, b, c, vs, us, e, h _ _ p1, h _ _ p2, i1, l1, h _ _ p3, i2, l2⟩
theorem TabV.mono {x} (q : TabV P v x) : TabV P' v x := by
  obtain ⟨a, tk, t, mv, e, p1, r⟩ := q
  exact ⟨a, tk, t, mv, e, h _ _ p1, r⟩
theorem MemV.mono {x} (q : MemV P v x) : MemV P' v x := by
  obtain ⟨a, t, mv, e, p1, r⟩ := q
  exact ⟨a, t, mv, e, h _ _ p1, r⟩
theorem CellV.mono {x} (q : CellV P v x) : CellV P' v x := by
  obtain ⟨a, tk, t, e, p1⟩ := q
  exact ⟨a, tk, t, e, h _ _ p1⟩
theorem AbV.mono {i : Imp} (q : AbV P v i) : AbV P' v i := by
  cases i with
  | fn i => exact q
  | odd i => exact q
  | tab k l mo => exact TabV.mono h (x := (k, l, mo)) q
  | mem l mo => exact MemV.mono h (x := (l, mo)) q
  | cell k m => exact CellV.mono h (x := (k, m)) q
theorem ImpV.mono {i : Imp} (q : ImpV P v i) : ImpV P' v i := by
  obtain ⟨x, dx, n, av, h1, h2, h3, h4, b1, b2, b3, b4, c1, c2, c3, z, e, ez, p1, p2, r⟩ := q
  exact ⟨x, dx, n, av, h1, h2, h3, h4, b1, b2, b3, b4, c1, c2, c3, z, e, ez, h _ _ p1, h _ _ p2, r.mono h⟩
theorem FuncV.mono {x} (q : FuncV P v x) : FuncV P' v x := by
  obtain ⟨a, dx, n, b, c, vs, e, h1, h2, h3, b1, b2, b3, c1, ev, p1, p2, p3, i, l, p4, r⟩ := q
  exact ⟨a, dx, n, b, c, vs, e, h1, h2, h3, b1, b2, b3, c1, ev, h _ _ p1, h _ _ p2, h _ _ p3, i, l, h _ _ p4, r⟩
theorem GlobV.mono {x} (q : GlobV P v x) : GlobV P' v x := by
  obtain ⟨a, dx, n, c, d, e, t, h1, h2, h3, b1, b2, b3, c1, c2, ev, p1, p2, p3, p4⟩ := q
  exact ⟨a, dx, n, c, d, e, t, h1, h2, h3, b1, b2, b3, c1, c2, ev, h _ _ p1, h _ _ p2, h _ _ p3, h _ _ p4⟩
end

/-- new things -/
def New (h h' : Heap) (tl : List (Addr × Obj)) : Prop := ∀ p ∈ tl, h'.get? p.1 = some p.2 ∧ h.get? p.1 = none
theorem new_of {h g h' : Heap} {D L : Addr} {o : Obj} {led tl : List (Addr × Obj)} (hg : g = hideAll h ([(D, o)].map (·.1))) (N : News g L h' led) (hs : ∀ p ∈ tl, p ∈ led) (hne : AllNe D tl) : New h h' tl :=
  fun p hp => ⟨(N p (hs p hp)).1, fresh_of hg N (hs p hp) (allNe_iff.mp hne p hp)⟩
/-- a tail of new things goes to the end of the ledger -/
inductive Tl (tl : List (Addr × Obj)) : List (Addr × Obj) → List (Addr × Obj) → Prop
  | base {r} : Tl tl r (tl ++ r)
  | cons {p r r'} : Tl tl r r' → Tl tl (p :: r) (p :: r')
theorem Tl.mem {tl l l' : List (Addr × Obj)} (T : Tl tl l l') : ∀ p ∈ l', p ∈ tl ∨ p ∈ l := by
  induction T with
  | base => intro p hp; exact List.mem_append.mp hp
  | cons _ ih =>
    intro p hp
    rcases List.mem_cons.mp hp with rfl | hp
    · exact .inr List.mem_cons_self
    · exact (ih p hp).imp_right (List.mem_cons_of_mem _)
theorem news_tl {g h : Heap} {L : Addr} {tl l l' : List (Addr × Obj)} (T : Tl tl l l') (N : News g L h l) (N' : News g L h tl) : News g L h l' := fun p hp => (T.mem p hp).elim (N' p) (N p)
theorem new_news {g h h' : Heap} {L : Addr} {m : Str → Option Value} {tl : List (Addr × Obj)} (F : Fr g L h m) (hn : New h h' tl) : News g L h' tl := fun p hp => by
  have q := hn p hp
  refine ⟨q.1, fun e => ?_, ?_⟩
  · obtain ⟨oL, _, _, z, _⟩ := F.ns
    have e' : p.1 = L := e
    rw [e', z] at q; cases q.2
  · cases z : g.get? p.1 with
    | none => rfl
    | some x => have := F.keep _ x z; rw [q.2] at this; cases this
/-- the tail lies off the ledger that stood before -/
def OffL (led tl : List (Addr × Obj)) : Prop := ∀ q ∈ led, ∀ p ∈ tl, @Ne Nat p.1 q.1
theorem offL_of {g h h' : Heap} {L : Addr} {led tl : List (Addr × Obj)} (N : News g L h led) (hn : New h h' tl) : OffL led tl := fun q hq p hp e => by
  have z := (hn p hp).2
  have y := (N q hq).1
  have e' : p.1 = q.1 := e
  rw [e', y] at z; cases z
local macro_rules | `(tactic| walk_at "m_tl") => `(tactic| repeat (first | (refine' Tl.cons ?_) | (exact Tl.base)))
theorem import_odd {s : Shared} {Q : Value → Shared → Prop} {D x dx : Addr} {h' : Heap} {tk' n : Nat} {h1 h2 h3 h4 z i : Int} {b1 b2 b3 b4 c1 c2 c3 c4 : Tok} (h : ∀ v i tl h' tk', ExtBut D s.heap h' → Digs h' D → ImpV (Mem tl) v i → New s.heap h' tl → Q v { s with heap := h', toks := tk' })
    (hE : ExtBut D s.heap h') (hD : Digs h' D) (hz : z = 0 ∨ z = 4) (hi : 0 ≤ i) (p1 : h'.get? x = some (instObj 199 dx)) (f1 : s.heap.get? x = none)
    (p2 : h'.get? dx = some (dictOf [En h1 "place" b1 (.str (Str.ofString "h") c1), En h2 "name" b2 (.str (Str.ofString "f") c2), En h3 "sort" b3 (.int z c3), En h4 "about" b4 (.int i c4)] n)) (f2 : s.heap.get? dx = none) :
    Q (.ref x) { s with heap := h', toks := tk' } := by
  have hn : New s.heap h' [(x, instObj 199 dx), (dx, dictOf [En h1 "place" b1 (.str (Str.ofString "h") c1), En h2 "name" b2 (.str (Str.ofString "f") c2), En h3 "sort" b3 (.int z c3), En h4 "about" b4 (.int i c4)] n)] := by
    intro p hp
    rcases List.mem_cons.mp hp with rfl | hp
    · exact ⟨p1, f1⟩
    · rcases List.mem_singleton.mp hp with rfl
      exact ⟨p2, f2⟩
  rcases hz with rfl | rfl
  · exact h _ (.fn i) _ _ _ hE hD ⟨_, _, _, _, _, _, _, _, _, _, _, _, _, _, _, _, rfl, rfl, .head _, .tail _ (.head _), hi, _, rfl⟩ hn
  · exact h _ (.odd i) _ _ _ hE hD ⟨_, _, _, _, _, _, _, _, _, _, _, _, _, _, _, _, rfl, rfl, .head _, .tail _ (.head _), _, rfl⟩ hn
theorem fm5 (x : Int) : Int.fmod x 5 = x % 5 := Int.fmod_eq_emod_of_nonneg x (by decide)

section
variable {w : World} {mean : ExcName → Option Value} {mg mb : Str → Option Value} {A A₀ : Around} {base G g : Heap} {outer : List Env} {env : Env} {s : Shared} {Q E : Value → Shared → Prop} {D L : Addr} {m : Str → Option Value} {led : List (Addr × Obj)} {o : Obj}
set_option maxHeartbeats 4000000 in
theorem import_ok {many : Nat} {t : Tok} (C : At 50 w mean mg mb A base outer G s.heap) (hD : Digs s.heap D) (hG : G.get? D = none) (hm : many ≤ 3)
    (h : ∀ v i tl h' tk', ExtBut D s.heap h' → Digs h' D → ImpV (Mem tl) v i → New s.heap h' tl → Q v { s with heap := h', toks := tk' }) :
    wpAny (model PySem.Challenge.pw_nm0133_01 w) A (call (.ref 428) [.ref D, .int (many : Int) t]) Q E s := by
  obtain ⟨o, hD, hO⟩ := hD
  obtain ⟨hd0, dp, fr, gd, un⟩ := A
  obtain rfl : hd0 = none := C.hand
  obtain rfl : fr = some outer := C.B.stack
  refine wpAny_call ?_
  refine' enter [(D, o)] [(Str.ofString "digits", .ref D), (Str.ofString "many", .int many t)] C (by decide) (one_led hD hG) ?k6 ?k7 ?k9 ?kB ?c2 ?c3 ?c4 ?c5 ?_
  walk_at "m_in"
  intro g L' h₁ hg hlt F' N' X' T' H hd hu hA
  have B' := H.B
  simp only [AllLt, and_true] at hlt
  clear C hD hG
  walk_at "m_go"
  all_goals (simp only [fm5] at *)
  · refine h _ (.tab _ _ _) [_, _, _] _ _ (but_of hg (by assumption)) ⟨_, News.get (by assumption) (by k_mem), by assumption⟩ ⟨_, _, _, _, _, _, _, _, _, _, _, _, _, _, _, _, rfl, ?z, .head _, .tail _ (.head _), _, _, _, _, rfl, .tail _ (.tail _ (.head _)), by assumption, by assumption⟩ (new_of hg (by assumption) (by lcg_sub) ?ne)
    case z => simp only [Imp.sort]; omega
    case ne => exact ⟨by k_ne, by k_ne, by k_ne, trivial⟩
  · refine h _ (.mem _ _) [_, _, _] _ _ (but_of hg (by assumption)) ⟨_, News.get (by assumption) (by k_mem), by assumption⟩ ⟨_, _, _, _, _, _, _, _, _, _, _, _, _, _, _, _, rfl, ?z, .head _, .tail _ (.head _), _, _, _, rfl, .tail _ (.tail _ (.head _)), by assumption, by assumption⟩ (new_of hg (by assumption) (by lcg_sub) ?ne)
    case z => simp only [Imp.sort]; omega
    case ne => exact ⟨by k_ne, by k_ne, by k_ne, trivial⟩
  · refine h _ (.cell _ _) [_, _, _] _ _ (but_of hg (by assumption)) ⟨_, News.get (by assumption) (by k_mem), by assumption⟩ ⟨_, _, _, _, _, _, _, _, _, _, _, _, _, _, _, _, rfl, ?z, .head _, .tail _ (.head _), _, _, _, rfl, .tail _ (.tail _ (.head _))⟩ (new_of hg (by assumption) (by lcg_sub) ?ne)
    case z => simp only [Imp.sort]; omega
    case ne => exact ⟨by k_ne, by k_ne, by k_ne, trivial⟩
  · refine import_odd h (but_of hg (by assumption)) ⟨_, News.get (by assumption) (by k_mem), by assumption⟩ ?z ?i (News.get (by assumption) (by k_mem)) (fresh_of hg (by assumption) (by k_mem) (by k_ne)) (News.get (by assumption) (by k_mem)) (fresh_of hg (by assumption) (by k_mem) (by k_ne))
    case z => omega
    case i => omega
theorem import_use {many : Nat} {t : Tok} {led' : Obj → List (Addr × Obj)} {led'' : Obj → List (Addr × Obj) → List (Addr × Obj)} {lv : Nat} (H : Hr lv w mean mg mb A₀ A base outer env g L) (F : Fr g L s.heap m) (N : News g L s.heap led) (U : ∀ o', Upd D o o' led (led' o'))
    (T : ∀ o' tl, Tl tl (led' o') (led'' o' tl)) (hlv : 50 ≤ lv) (hD : DigO o) (hm : many ≤ 3)
    (h : ∀ v i tl o' h' tk', DigO o' → ImpV (Mem tl) v i → OffL led tl → Fr g L h' m → News g L h' (led'' o' tl) → Q v { s with heap := h', toks := tk' }) :
    wpAny (model PySem.Challenge.pw_nm0133_01 w) A (call (.ref 428) [.ref D, .int (many : Int) t]) Q E s := by
  have hmem := Upd.mem (U o)
  refine import_ok (H.at F N hlv) ⟨o, (N _ hmem).1, hD⟩ (none_in hmem) hm fun v i tl h' tk' hE ⟨o', hD', hd'⟩ hv hn => ?_
  exact h v i tl o' h' tk' hd' hv (offL_of N hn) (fr_but F N hmem hE) (news_tl (T o' tl) (news_but N hE hD' (U o')) (new_news F hn))
theorem rows_C4_4 : True := by
  k_with "call ref" => (k_here; (with_reducible show wpAny _ _ (call (Value.ref 428) [Value.ref _, Value.int _ _]) _ _ _); k_dflt (refine' import_use ?H ?F ?N ?U ?T ?lv ?D ?m ?_; (case H => assumption); (case F => k_asm); (case N => k_asm); (case U => (intro oX; k_upd)); (case T => (intro oX tX; walk_at "m_tl")); (case lv => decide); (case D => assumption); (case m => omega)); intro v'ᵣ i'ᵣ tl'ᵣ o'ᵣ h'ᵣ tk'ᵣ hDo'ᵣ hiv'ᵣ hoff'ᵣ F'ᵣ N'ᵣ; (try k_sweep))
  trivial
end
theorem rows_C5_1 : True := by
  k_with_none
  k_with "call ref" => (k_here; (with_reducible show wpAny _ _ (call (Value.ref 388) [Value.ref _, Value.int _ _]) _ _ _); k_dflt (refine' take_use ?H ?F ?N ?U ?lv ?D ?m ?m2 ?_; (case H => assumption); (case F => k_asm); (case N => k_asm); (case U => (intro oX; k_upd)); (case lv => decide); (case D => assumption); (case m => omega); (case m2 => omega)); intro v'ᵣ t'ᵣ o'ᵣ h'ᵣ tk'ᵣ hv1 hDo'ᵣ F'ᵣ N'ᵣ; (try k_sweep))
  k_with "call ref" => (k_here; (with_reducible show wpAny _ _ (call (Value.ref 395) [Value.ref _]) _ _ _); k_dflt (refine' kind_use ?H ?F ?N ?U ?lv ?D ?_; (case H => assumption); (case F => k_asm); (case N => k_asm); (case U => (intro oX; k_upd)); (case lv => decide); (case D => assumption)); intro v'ᵣ t'ᵣ o'ᵣ h'ᵣ tk'ᵣ hDo'ᵣ F'ᵣ N'ᵣ; (try k_sweep))
  k_with "call ref" => (k_here; (with_reducible show wpAny _ _ (call (Value.ref 407) [Value.ref _]) _ _ _); k_dflt (refine' ends_use ?H ?F ?N ?U ?lv ?D ?_; (case H => assumption); (case F => k_asm); (case N => k_asm); (case U => (intro oX; k_upd)); (case lv => decide); (case D => assumption)); intro a'ᵣ l'ᵣ t'ᵣ mv'ᵣ mo'ᵣ o'ᵣ h'ᵣ tk'ᵣ hDo'ᵣ hl0'ᵣ hmo'ᵣ hne'ᵣ F'ᵣ N'ᵣ; (replace hne'ᵣ := neF hne'ᵣ); (try k_sweep))
  k_with "call ref" => (k_here; (with_reducible show wpAny _ _ (call (Value.ref 414) [Value.ref _]) _ _ _); k_dflt (refine' table_use ?H ?F ?N ?U ?lv ?D ?_; (case H => assumption); (case F => k_asm); (case N => k_asm); (case U => (intro oX; k_upd)); (case lv => decide); (case D => assumption)); intro a'ᵣ k'ᵣ tk1'ᵣ l'ᵣ t'ᵣ mv'ᵣ mo'ᵣ o'ᵣ h'ᵣ tk'ᵣ hDo'ᵣ hl0'ᵣ hmo'ᵣ hne'ᵣ F'ᵣ N'ᵣ; (replace hne'ᵣ := neF hne'ᵣ); (try k_sweep))
  k_with "call ref" => (k_here; (with_reducible show wpAny _ _ (call (Value.ref 421) [Value.ref _]) _ _ _); k_dflt (refine' cell_use ?H ?F ?N ?U ?lv ?D ?_; (case H => assumption); (case F => k_asm); (case N => k_asm); (case U => (intro oX; k_upd)); (case lv => decide); (case D => assumption)); intro a'ᵣ k'ᵣ tk1'ᵣ l'ᵣ t'ᵣ o'ᵣ h'ᵣ tk'ᵣ hDo'ᵣ hne'ᵣ F'ᵣ N'ᵣ; (replace hne'ᵣ := neF hne'ᵣ); (try k_sweep))
  k_with "call ref" => (k_here; (with_reducible show wpAny _ _ (call (Value.ref 400) [Value.ref _, Value.int 3 _]) _ _ _); k_dflt (refine' some_use ?H ?F ?N ?U ?lv ?D ?_; (case H => assumption); (case F => k_asm); (case N => k_asm); (case U => (intro oX; k_upd)); (case lv => decide); (case D => assumption)); intro a'ᵣ vs'ᵣ ks'ᵣ o'ᵣ h'ᵣ tk'ᵣ hDo'ᵣ hi'ᵣ hl'ᵣ hne'ᵣ F'ᵣ N'ᵣ; (replace hne'ᵣ := neF hne'ᵣ); (try k_sweep))
  k_with "eval ListComp" => (k_here; k_dflt (refine LCg.ListComp_U (F₀ := by k_asm) (by with_unfolding_all rfl) (by decide) (by rfl) (by decide) (by rfl) ?_))
  k_with "CompSrc" => (k_here; k_dflt (refine LCg.CompSrc.range (by rfl) (by k_asm) (by k_asm) (by assumption) (small_one (by omega) (by omega) (by omega) (by omega)) (rangeSize_nat _ _) (by rw [PySem.sizeLine_eq]; omega) ?_; intro g'ᵣ; refine comp_inv (by assumption) ?ci0 ?ciT ?ciF))
  k_with "call ref" => (k_here; (with_reducible show wpAny _ _ (call (Value.ref 428) [Value.ref _, Value.int _ _]) _ _ _); k_dflt (refine' import_use ?H ?F ?N ?U ?T ?lv ?D ?m ?_; (case H => assumption); (case F => k_asm); (case N => k_asm); (case U => (intro oX; k_upd)); (case T => (intro oX tX; walk_at "m_tl")); (case lv => decide); (case D => assumption); (case m => omega)); intro v'ᵣ i'ᵣ tl'ᵣ o'ᵣ h'ᵣ tk'ᵣ hDo'ᵣ hiv'ᵣ hoff'ᵣ F'ᵣ N'ᵣ; (try k_sweep))
  trivial
section
variable {w : World} {mean : ExcName → Option Value} {mg mb : Str → Option Value} {A A₀ : Around} {base G g : Heap} {outer : List Env} {env : Env} {s : Shared} {Q E : Value → Shared → Prop} {D L : Addr} {m : Str → Option Value} {led : List (Addr × Obj)} {o : Obj}
theorem Hr.make {lv : Nat} {C : Addr} {pos : List Value} {kw : List (Str × Value)} (H : Hr (lv + 3) w mean mg mb A₀ A base outer env g L) : Hr lv w mean mg mb A₀ (A.under (.builtin "type.__call__" ⟨.ref C :: pos, kw⟩)) base outer env g L := by
  have e : (Code.builtin "type.__call__" ⟨.ref C :: pos, kw⟩).isFrame = false := rfl
  refine ⟨H.X, H.T, H.B, ?_, H.fr, H.kind, H.hand, ?_, ?_⟩
  · have := H.frames
    simp [Around.under, Code.envs, e, pushEnvs, this]
  · have := H.dep
    show A.depth + 1 + lv < 900; omega
  · have := H.un
    have q : (Code.builtin "type.__call__" ⟨.ref C :: pos, kw⟩).cUnits = 1 := by kernel_rfl
    show A.units + (Code.builtin "type.__call__" ⟨.ref C :: pos, kw⟩).cUnits + 10 * lv < 9000
    rw [q]
    omega
theorem back {g h₂ h' : Heap} {L L' : Addr} {m m' : Str → Option Value} {sub led : List (Addr × Obj)} (F : Fr g L h₂ m) (N : News g L h₂ led) (hs : ∀ p ∈ sub, p ∈ led) (F' : Fr (hideAll h₂ (sub.map (·.1))) L' h' m') : Fr g L h' m := by
  have st : g.StaysIn (hideAll h₂ (sub.map (·.1))) := fun b o e => hideAll_get _ (F.keep b o e) fun q => by
    obtain ⟨p, hp, rfl⟩ := List.mem_map.mp q
    rw [(N p (hs p hp)).2.2] at e; cases e
  obtain ⟨oL, es, ep, hL, r⟩ := F.ns
  have nL : L ∉ sub.map (·.1) := fun q => by
    obtain ⟨p, hp, e⟩ := List.mem_map.mp q
    exact (N p (hs p hp)).2.1 e
  exact ⟨⟨oL, es, ep, F'.keep _ _ (hideAll_get _ hL nL), r⟩, fun b o e => F'.keep b o (st b o e), F.above⟩
theorem news_back {g h₂ h' : Heap} {L L' : Addr} {m m' : Str → Option Value} {sub led led' r : List (Addr × Obj)} (F : Fr g L h₂ m) (N : News g L h₂ led) (hs : ∀ p ∈ sub, p ∈ led) (F' : Fr (hideAll h₂ (sub.map (·.1))) L' h' m')
    (N' : News (hideAll h₂ (sub.map (·.1))) L' h' led') (hr : ∀ p ∈ r, p ∈ led ∧ ∀ q ∈ sub, p.1 ≠ q.1) : News g L h' (led' ++ r) := by
  have st : g.StaysIn (hideAll h₂ (sub.map (·.1))) := fun b o e => hideAll_get _ (F.keep b o e) fun q => by
    obtain ⟨p, hp, rfl⟩ := List.mem_map.mp q
    rw [(N p (hs p hp)).2.2] at e; cases e
  obtain ⟨oL, es, ep, hL, _⟩ := F.ns
  have nL : L ∉ sub.map (·.1) := fun q => by
    obtain ⟨p, hp, e⟩ := List.mem_map.mp q
    exact (N p (hs p hp)).2.1 e
  intro p hp
  rcases List.mem_append.mp hp with hp | hp
  · have q := N' p hp
    refine ⟨q.1, fun e => ?_, ?_⟩
    · have e' : p.1 = L := e
      rw [e', hideAll_get _ hL nL] at q; cases q.2.2
    · cases z : g.get? p.1 with
      | none => rfl
      | some x => have := st _ _ z; rw [q.2.2] at this; cases this
  · obtain ⟨h1, h2⟩ := hr p hp
    have q := N p h1
    refine ⟨F'.keep _ _ (hideAll_get _ q.1 fun z => ?_), q.2⟩
    obtain ⟨y, hy, e⟩ := List.mem_map.mp z
    exact h2 y hy e.symm
theorem modnew_fin {g h' : Heap} {L x dx l0 l1 l2 l3 l4 l5 l6 l7 l8 l9 : Nat} {h1 h2 h3 h4 h5 h6 h7 h8 h9 h10 h11 : Int} {b1 b2 b3 b4 b5 b6 b7 b8 b9 b10 b11 : Tok} {led : List (Addr × Obj)}
    (NN : News g L h' ([(l0, listOf #[] 0), (l1, listOf #[] 0), (l2, listOf #[] 0), (l3, listOf #[] 0), (l4, listOf #[] 0), (l5, listOf #[] 0), (l6, listOf #[] 0), (l7, listOf #[] 0), (l8, listOf #[] 0), (l9, listOf #[] 0), (x, instObj 372 dx), (dx, dictOf [En h1 "kinds" b1 (.ref l9), En h2 "imports" b2 (.ref l8), En h3 "funcs" b3 (.ref l7), En h4 "tables" b4 (.ref l6), En h5 "memories" b5 (.ref l5), En h6 "globals" b6 (.ref l4), En h7 "exports" b7 (.ref l3), En h8 "start" b8 .none, En h9 "elems" b9 (.ref l2), En h10 "datas" b10 (.ref l1), En h11 "customs" b11 (.ref l0)] 11)] ++ led)) :
    News g L h' ((x, instObj 372 dx) :: (dx, dictOf [En h1 "kinds" b1 (.ref l9), En h2 "imports" b2 (.ref l8), En h3 "funcs" b3 (.ref l7), En h4 "tables" b4 (.ref l6), En h5 "memories" b5 (.ref l5), En h6 "globals" b6 (.ref l4), En h7 "exports" b7 (.ref l3), En h8 "start" b8 .none, En h9 "elems" b9 (.ref l2), En h10 "datas" b10 (.ref l1), En h11 "customs" b11 (.ref l0)] 11) :: (l7, listOf #[] 0) :: (l4, listOf #[] 0) :: (l3, listOf #[] 0) :: (l2, listOf #[] 0) :: (l1, listOf #[] 0) :: (l0, listOf #[] 0) :: led) := by
  intro p hp
  rcases List.mem_cons.mp hp with rfl | hp
  · exact NN _ (List.mem_append_left _ (.tail _ (.tail _ (.tail _ (.tail _ (.tail _ (.tail _ (.tail _ (.tail _ (.tail _ (.tail _ (.head _))))))))))))
  rcases List.mem_cons.mp hp with rfl | hp
  · exact NN _ (List.mem_append_left _ (.tail _ (.tail _ (.tail _ (.tail _ (.tail _ (.tail _ (.tail _ (.tail _ (.tail _ (.tail _ (.tail _ (.head _)))))))))))))
  rcases List.mem_cons.mp hp with rfl | hp
  · exact NN _ (List.mem_append_left _ (.tail _ (.tail _ (.tail _ (.tail _ (.tail _ (.tail _ (.tail _ (.head _)))))))))
  rcases List.mem_cons.mp hp with rfl | hp
  · exact NN _ (List.mem_append_left _ (.tail _ (.tail _ (.tail _ (.tail _ (.head _))))))
  rcases List.mem_cons.mp hp with rfl | hp
  · exact NN _ (List.mem_append_left _ (.tail _ (.tail _ (.tail _ (.head _)))))
  rcases List.mem_cons.mp hp with rfl | hp
  · exact NN _ (List.mem_append_left _ (.tail _ (.tail _ (.head _))))
  rcases List.mem_cons.mp hp with rfl | hp
  · exact NN _ (List.mem_append_left _ (.tail _ (.head _)))
  rcases List.mem_cons.mp hp with rfl | hp
  · exact NN _ (List.mem_append_left _ (.head _))
  exact NN _ (List.mem_append_right _ hp)
def Later2 (P : Prop) : Prop := P
set_option maxHeartbeats 4000000 in
theorem modnew_use {lv : Nat} (H : Hr lv w mean mg mb A₀ A base outer env g L) (F : Fr g L s.heap m) (N : News g L s.heap led) (X : (Mine.heapK w.params).In g) (hlv : 20 ≤ lv)
    (h : Later2 (∀ (x dx a3 a6 a7 a8 a9 a10 : Nat) v1 v2 v4 v5 h1 h2 h3 h4 h5 h6 h7 h8 h9 h10 h11 b1 b2 b3 b4 b5 b6 b7 b8 b9 b10 b11 h' tk', AllLt dx led → dx < x → x < a3 → a3 < a6 → a6 < a7 → a7 < a8 → a8 < a9 → a9 < a10 → Fr g L h' m →
      News g L h' ((x, instObj 372 dx) :: (dx, dictOf [En h1 "kinds" b1 v1, En h2 "imports" b2 v2, En h3 "funcs" b3 (.ref a3), En h4 "tables" b4 v4, En h5 "memories" b5 v5, En h6 "globals" b6 (.ref a6), En h7 "exports" b7 (.ref a7), En h8 "start" b8 .none, En h9 "elems" b9 (.ref a8), En h10 "datas" b10 (.ref a9), En h11 "customs" b11 (.ref a10)] 11) :: (a3, listOf #[] 0) :: (a6, listOf #[] 0) :: (a7, listOf #[] 0) :: (a8, listOf #[] 0) :: (a9, listOf #[] 0) :: (a10, listOf #[] 0) :: led) →
      Q (.ref x) { s with heap := h', toks := tk' })) :
    wpAny (model PySem.Challenge.pw_nm0133_01 w) A (call (.ref 372) []) Q E s := by
  unfold Later2 at h
  refine call_cls F X N (by k_is) (by k_is) (by k_is) fun x dx h₂ F₂ N₂ l1 l2 => ?_
  replace l2 := ltN l2
  obtain ⟨lv, rfl⟩ : ∃ k, lv = k + 20 := ⟨lv - 20, by omega⟩
  have H2 := Hr.make (lv := lv + 17) (C := 372) (pos := []) (kw := []) H
  have C := H2.at F₂ N₂ (k := lv + 17) (Nat.le_refl _)
  generalize hA : A.under (.builtin "type.__call__" ⟨[.ref 372], []⟩) = A at C ⊢
  obtain ⟨hd0, dp, fr, gd, un⟩ := A
  obtain rfl : hd0 = none := C.hand
  obtain rfl : fr = some (env :: outer) := C.B.stack
  refine' enter (lv := lv + 16) [(x, instObj 372 dx), (dx, dictOf [] 0)] [(Str.ofString "self", .ref x)] C (by omega) ?hl ?k6 ?k7 ?k9 ?kB ?c2 ?c3 ?c4 ?c5 ?_
  case hl =>
    intro q hq
    rcases List.mem_cons.mp hq with rfl | hq
    · exact ⟨(N₂ _ (.head _)).1, none_in (.head _)⟩
    · rcases List.mem_singleton.mp hq with rfl
      exact ⟨(N₂ _ (.tail _ (.head _))).1, none_in (o := dictOf [] 0) (.tail _ (.head _))⟩
  walk_at "m_in"
  intro g' L' h₁ hg hlt F' N' X' T' H hd hu hA
  have B' := H.B
  simp only [AllLt, and_true] at hlt
  clear C H2
  walk_at "m_go"
  subst hg
  have hsub : ∀ p ∈ [(x, instObj 372 dx), (dx, dictOf [] 0)], p ∈ (x, instObj 372 dx) :: (dx, dictOf [] 0) :: led := by lcg_sub
  have FF := back F₂ N₂ hsub (by assumption)
  have NN := news_back (r := led) F₂ N₂ hsub (by assumption) (by assumption) fun p hp => ⟨.tail _ (.tail _ hp), fun q hq => ?_⟩
  · exact ⟨rfl, h x dx _ _ _ _ _ _ _ _ _ _ _ _ _ _ _ _ _ _ _ _ _ _ _ _ _ _ _ _ _ _ _ _ _ _ (allLt_of l1) l2 (lt_in (by assumption) (by k_mem)) (lt_in (by assumption) (by k_mem)) (lt_in (by assumption) (by k_mem)) (lt_in (by assumption) (by k_mem)) (lt_in (by assumption) (by k_mem)) (lt_in (by assumption) (by k_mem)) FF (modnew_fin NN)⟩
  · have z := ltN (l1 p hp)
    rcases List.mem_cons.mp hq with rfl | hq
    · refine neN ?_; dsimp only; omega
    · rcases List.mem_singleton.mp hq with rfl
      refine neN ?_; dsimp only; omega
theorem rows_C5_2 : True := by
  k_with "call ref" => (k_here; (with_reducible show wpAny _ _ (call (Value.ref 372) _) _ _ _); k_dflt (refine' modnew_use ?H ?F ?N ?X ?lv ?mn; (case H => assumption); (case F => k_asm); (case N => k_asm); (case X => assumption); (case lv => decide)))
  trivial
end
theorem rows_C6_1 : True := by
  k_with_none
  k_with "call ref" => (k_here; (with_reducible show wpAny _ _ (call (Value.ref 388) [Value.ref _, Value.int _ _]) _ _ _); k_dflt (refine' take_use ?H ?F ?N ?U ?lv ?D ?m ?m2 ?_; (case H => assumption); (case F => k_asm); (case N => k_asm); (case U => (intro oX; k_upd)); (case lv => decide); (case D => assumption); (case m => omega); (case m2 => omega)); intro v'ᵣ t'ᵣ o'ᵣ h'ᵣ tk'ᵣ hv1 hDo'ᵣ F'ᵣ N'ᵣ; (try k_sweep))
  k_with "call ref" => (k_here; (with_reducible show wpAny _ _ (call (Value.ref 395) [Value.ref _]) _ _ _); k_dflt (refine' kind_use ?H ?F ?N ?U ?lv ?D ?_; (case H => assumption); (case F => k_asm); (case N => k_asm); (case U => (intro oX; k_upd)); (case lv => decide); (case D => assumption)); intro v'ᵣ t'ᵣ o'ᵣ h'ᵣ tk'ᵣ hDo'ᵣ F'ᵣ N'ᵣ; (try k_sweep))
  k_with "call ref" => (k_here; (with_reducible show wpAny _ _ (call (Value.ref 407) [Value.ref _]) _ _ _); k_dflt (refine' ends_use ?H ?F ?N ?U ?lv ?D ?_; (case H => assumption); (case F => k_asm); (case N => k_asm); (case U => (intro oX; k_upd)); (case lv => decide); (case D => assumption)); intro a'ᵣ l'ᵣ t'ᵣ mv'ᵣ mo'ᵣ o'ᵣ h'ᵣ tk'ᵣ hDo'ᵣ hl0'ᵣ hmo'ᵣ hne'ᵣ F'ᵣ N'ᵣ; (replace hne'ᵣ := neF hne'ᵣ); (try k_sweep))
  k_with "call ref" => (k_here; (with_reducible show wpAny _ _ (call (Value.ref 414) [Value.ref _]) _ _ _); k_dflt (refine' table_use ?H ?F ?N ?U ?lv ?D ?_; (case H => assumption); (case F => k_asm); (case N => k_asm); (case U => (intro oX; k_upd)); (case lv => decide); (case D => assumption)); intro a'ᵣ k'ᵣ tk1'ᵣ l'ᵣ t'ᵣ mv'ᵣ mo'ᵣ o'ᵣ h'ᵣ tk'ᵣ hDo'ᵣ hl0'ᵣ hmo'ᵣ hne'ᵣ F'ᵣ N'ᵣ; (replace hne'ᵣ := neF hne'ᵣ); (try k_sweep))
  k_with "call ref" => (k_here; (with_reducible show wpAny _ _ (call (Value.ref 421) [Value.ref _]) _ _ _); k_dflt (refine' cell_use ?H ?F ?N ?U ?lv ?D ?_; (case H => assumption); (case F => k_asm); (case N => k_asm); (case U => (intro oX; k_upd)); (case lv => decide); (case D => assumption)); intro a'ᵣ k'ᵣ tk1'ᵣ l'ᵣ t'ᵣ o'ᵣ h'ᵣ tk'ᵣ hDo'ᵣ hne'ᵣ F'ᵣ N'ᵣ; (replace hne'ᵣ := neF hne'ᵣ); (try k_sweep))
  k_with "call ref" => (k_here; (with_reducible show wpAny _ _ (call (Value.ref 400) [Value.ref _, Value.int 3 _]) _ _ _); k_dflt (refine' some_use ?H ?F ?N ?U ?lv ?D ?_; (case H => assumption); (case F => k_asm); (case N => k_asm); (case U => (intro oX; k_upd)); (case lv => decide); (case D => assumption)); intro a'ᵣ vs'ᵣ ks'ᵣ o'ᵣ h'ᵣ tk'ᵣ hDo'ᵣ hi'ᵣ hl'ᵣ hne'ᵣ F'ᵣ N'ᵣ; (replace hne'ᵣ := neF hne'ᵣ); (try k_sweep))
  k_with "eval ListComp" => (k_here; k_dflt (refine LCg.ListComp_U (F₀ := by k_asm) (by with_unfolding_all rfl) (by decide) (by rfl) (by decide) (by rfl) ?_))
  k_with "CompSrc" => (k_here; k_dflt (refine LCg.CompSrc.range (by rfl) (by k_asm) (by k_asm) (by assumption) (small_one (by omega) (by omega) (by omega) (by omega)) (rangeSize_nat _ _) (by rw [PySem.sizeLine_eq]; omega) ?_; intro g'ᵣ; refine comp_inv (by assumption) ?ci0 ?ciT ?ciF))
  k_with "call ref" => (k_here; (with_reducible show wpAny _ _ (call (Value.ref 428) [Value.ref _, Value.int _ _]) _ _ _); k_dflt (refine' import_use ?H ?F ?N ?U ?T ?lv ?D ?m ?_; (case H => assumption); (case F => k_asm); (case N => k_asm); (case U => (intro oX; k_upd)); (case T => (intro oX tX; walk_at "m_tl")); (case lv => decide); (case D => assumption); (case m => omega)); intro v'ᵣ i'ᵣ tl'ᵣ o'ᵣ h'ᵣ tk'ᵣ hDo'ᵣ hiv'ᵣ hoff'ᵣ F'ᵣ N'ᵣ; (try k_sweep))
  k_with "call ref" => (k_here; (with_reducible show wpAny _ _ (call (Value.ref 372) _) _ _ _); k_dflt (refine' modnew_use ?H ?F ?N ?X ?lv ?mn; (case H => assumption); (case F => k_asm); (case N => k_asm); (case X => assumption); (case lv => decide)))
  trivial
def JM (_J : Nat → (Str → Option Value) → List (Addr × Obj) → Prop) : Prop := True
/-- the end of a turn -/
def TurnE (h₀ : Heap) (L I : Addr) (oI : Obj) (J : (Str → Option Value) → List (Addr × Obj) → Prop) (s₁ : Shared) (Q : Flow → Shared → Prop) (f : Flow) (s₂ : Shared) : Prop :=
  match f with
  | .ret v => Q (.ret v) s₂
  | .brk => Q .next s₂
  | _ => ∃ h' tk m' nw, s₂ = { s₁ with heap := h', toks := tk } ∧ Fr h₀ L h' m' ∧ News h₀ L h' ((I, oI) :: nw) ∧ AllNe I nw ∧ J m' nw
section
variable {prog : Program} {w : World} {A : Around} {E : Value → Shared → Prop} {s : Shared} {env : Env} {h₀ : Heap} {x : Str} {body : List Stmt} {Q : Flow → Shared → Prop}
theorem own_one {I L : Addr} {h : Heap} {own nw : List (Addr × Obj)} {oI : Obj} (hown : ∀ p ∈ own, p.1 ∈ [I]) (hI : h.get? I = some oI) (N : News h₀ L h (own ++ nw)) : ∀ p ∈ own, p = (I, oI) := by
  intro p hp
  have e : p.1 = I := List.mem_singleton.mp (hown p hp)
  have q := (N p (List.mem_append_left _ hp)).1
  rw [e, hI] at q
  obtain ⟨a, o⟩ := p
  cases e; cases q; rfl
theorem for_range {r : Addr} {a₀ b₀ : Int} {t₀ u₀ v₀ : Tok} {n : Nat} {m₀ : Str → Option Value} {news : List (Addr × Obj)} {J : Nat → (Str → Option Value) → List (Addr × Obj) → Prop} (_hJ : JM J)
    (hh : A.handled = none) (hr : IsRange s.heap r a₀ b₀ 1 t₀ u₀ v₀) (hsmall : Builtin.Range.small a₀ b₀ 1 = true) (hn : Builtin.Range.rangeSize a₀ b₀ 1 = (n : Int)) (F : Fr h₀ env.locals s.heap m₀) (N : News h₀ env.locals s.heap news) (hj : Later2 (J 0 m₀ news))
    (turn : Later2 (∀ (i : Nat) t m₁ nw h tk I oI, i < n → J i m₁ nw → Fr h₀ env.locals h (fun y => if y = x then some (.int (a₀ + i) t) else m₁ y) → News h₀ env.locals h ((I, oI) :: nw) → AllNe I nw →
      wpAny (model prog w) A (execs body env) (TurnE h₀ env.locals I oI (J (i + 1)) { s with heap := h, toks := tk } Q) E { s with heap := h, toks := tk }))
    (done : Later2 (∀ m₁ nw h tk, J n m₁ nw → Fr h₀ env.locals h m₁ → News h₀ env.locals h nw → Q .next { s with heap := h, toks := tk })) :
    wpAny (model prog w) A (pyIter (.ref r)) (fun it s₂ => LoopAtV prog w A h₀ env x body Q E it s₂) E s := by
  refine wpAny_pyIter_range hr hsmall ?_
  have W : Walks prog w A s.heap.objs.size [s.heap.objs.size] [s.heap.objs.size] n (fun i v => i < n ∧ ∃ t, v = .int (a₀ + i * 1) t)
      (fun i h => IsRangeIter h s.heap.objs.size (a₀ + (i : Nat) * 1) ((n : Int) - (i : Nat)) 1) := (Walks.range hh _ a₀ 1 n).bound
  refine ⟨_, _, _, n, _, _, m₀, news, J, rfl, W, ?_, ?_, ?_, (by show IsRangeIter _ _ _ _ _; rw [hn]; simpa using Heap.get?_push_size _ rfl), F.push _, (fun p hp => ⟨Heap.get?_push_of_some _ (N p hp).1, (N p hp).2⟩), hj, ?_, ?_⟩
  · intro hm
    exact absurd F.ns.lt ((List.mem_singleton.mp hm) ▸ Nat.lt_irrefl _)
  · intro b hb
    rw [List.mem_singleton.mp hb]
    exact next_is_new F
  · intro p hp hI
    exact absurd (Heap.lt_size (N p hp).1) ((List.mem_singleton.mp hI) ▸ Nat.lt_irrefl _)
  · rintro i v m₁ nw s₁ own ⟨h, tk, rfl⟩ hi ⟨_, t, rfl⟩ hJ hoff hown _ hin hst F' N'
    obtain ⟨oI, hoI⟩ : ∃ oI, h.get? s.heap.objs.size = some oI := ⟨_, hst⟩
    have hI0 : h₀.get? s.heap.objs.size = none := next_is_new F
    have hmem := hin _ (List.mem_singleton.mpr rfl) hI0 oI hoI
    have hall := own_one hown hoI N'
    simp only [Int.mul_one] at F'
    refine wpAny_mono (turn i t m₁ nw h tk s.heap.objs.size oI hi hJ F' (fun p hp => ?_) (allNe_iff.mpr fun p hp e => hoff p hp (List.mem_singleton.mpr e))) (fun f s₂ p => ?_) fun _ _ e => e
    · rcases List.mem_cons.mp hp with rfl | hp
      · exact N' _ (List.mem_append_left _ hmem)
      · exact N' _ (List.mem_append_right _ hp)
    have fin : (∃ h' tk' m' nw', s₂ = { s with heap := h', toks := tk' } ∧ Fr h₀ env.locals h' m' ∧ News h₀ env.locals h' ((s.heap.objs.size, oI) :: nw') ∧ AllNe s.heap.objs.size nw' ∧ J (i + 1) m' nw') →
        LoopStepU h₀ env.locals [s.heap.objs.size] own (J (i + 1)) { s with heap := h, toks := tk } .next s₂ := by
      rintro ⟨h', tk', m', nw', rfl, F₁, N₁, hne, hJ'⟩
      refine ⟨rfl, h', tk', m', nw', rfl, F₁, fun p hp => ?_, fun p hp hI => allNe_iff.mp hne p hp (List.mem_singleton.mp hI), hJ'⟩
      rcases List.mem_append.mp hp with hp | hp
      · rw [hall p hp]; exact N₁ _ List.mem_cons_self
      · exact N₁ _ (List.mem_cons_of_mem _ hp)
    cases f with
    | ret v => exact .ret p
    | brk => exact .brk p
    | next => exact .next (fin p)
    | cont => exact .cont (fin p)
  · intro h' tk m' nw' F' N' _ hJ
    exact done m' nw' h' tk hJ F' N'
end
theorem rows_C6_2 : True := by
  k_with "pyIter ref" => ((with_reducible show wpAny _ _ (pyIter (Value.ref _)) (fun it s₂ => LoopAtV _ _ _ _ _ _ _ _ _ it s₂) _ _); (with_unfolding_all refine' for_range ?kJ (by rfl) ?k1 ?k2 (rangeSize_nat _ _) ?k3 ?k4 ?fr0 ?frT ?frF; (case kJ => assumption); (case k1 => assumption); (case k2 => exact small_one (by omega) (by omega) (by omega) (by omega)); (case k3 => k_asm); (case k4 => k_asm)))
  k_with "exec For Name Call cons nil" => (k_here; (rename Fr _ _ _ _ => lF'ᵣ); (with_unfolding_all refine' For_invVF lF'ᵣ ?k1 ?k2 ?_; (case k1 => exact rfl); (case k2 => exact rfl); k_whole))
  trivial
section
theorem rows_C6L_1 : True := by
  k_with_none
  k_with "call ref" => (k_here; (with_reducible show wpAny _ _ (call (Value.ref 388) [Value.ref _, Value.int _ _]) _ _ _); k_dflt (refine' take_use ?H ?F ?N ?U ?lv ?D ?m ?m2 ?_; (case H => assumption); (case F => k_asm); (case N => k_asm); (case U => (intro oX; k_upd)); (case lv => decide); (case D => assumption); (case m => omega); (case m2 => omega)); intro v'ᵣ t'ᵣ o'ᵣ h'ᵣ tk'ᵣ hv1 hDo'ᵣ F'ᵣ N'ᵣ; (try k_sweep))
  k_with "call ref" => (k_here; (with_reducible show wpAny _ _ (call (Value.ref 395) [Value.ref _]) _ _ _); k_dflt (refine' kind_use ?H ?F ?N ?U ?lv ?D ?_; (case H => assumption); (case F => k_asm); (case N => k_asm); (case U => (intro oX; k_upd)); (case lv => decide); (case D => assumption)); intro v'ᵣ t'ᵣ o'ᵣ h'ᵣ tk'ᵣ hDo'ᵣ F'ᵣ N'ᵣ; (try k_sweep))
  k_with "call ref" => (k_here; (with_reducible show wpAny _ _ (call (Value.ref 407) [Value.ref _]) _ _ _); k_dflt (refine' ends_use ?H ?F ?N ?U ?lv ?D ?_; (case H => assumption); (case F => k_asm); (case N => k_asm); (case U => (intro oX; k_upd)); (case lv => decide); (case D => assumption)); intro a'ᵣ l'ᵣ t'ᵣ mv'ᵣ mo'ᵣ o'ᵣ h'ᵣ tk'ᵣ hDo'ᵣ hl0'ᵣ hmo'ᵣ hne'ᵣ F'ᵣ N'ᵣ; (replace hne'ᵣ := neF hne'ᵣ); (try k_sweep))
  k_with "call ref" => (k_here; (with_reducible show wpAny _ _ (call (Value.ref 414) [Value.ref _]) _ _ _); k_dflt (refine' table_use ?H ?F ?N ?U ?lv ?D ?_; (case H => assumption); (case F => k_asm); (case N => k_asm); (case U => (intro oX; k_upd)); (case lv => decide); (case D => assumption)); intro a'ᵣ k'ᵣ tk1'ᵣ l'ᵣ t'ᵣ mv'ᵣ mo'ᵣ o'ᵣ h'ᵣ tk'ᵣ hDo'ᵣ hl0'ᵣ hmo'ᵣ hne'ᵣ F'ᵣ N'ᵣ; (replace hne'ᵣ := neF hne'ᵣ); (try k_sweep))
  k_with "call ref" => (k_here; (with_reducible show wpAny _ _ (call (Value.ref 421) [Value.ref _]) _ _ _); k_dflt (refine' cell_use ?H ?F ?N ?U ?lv ?D ?_; (case H => assumption); (case F => k_asm); (case N => k_asm); (case U => (intro oX; k_upd)); (case lv => decide); (case D => assumption)); intro a'ᵣ k'ᵣ tk1'ᵣ l'ᵣ t'ᵣ o'ᵣ h'ᵣ tk'ᵣ hDo'ᵣ hne'ᵣ F'ᵣ N'ᵣ; (replace hne'ᵣ := neF hne'ᵣ); (try k_sweep))
  k_with "call ref" => (k_here; (with_reducible show wpAny _ _ (call (Value.ref 400) [Value.ref _, Value.int 3 _]) _ _ _); k_dflt (refine' some_use ?H ?F ?N ?U ?lv ?D ?_; (case H => assumption); (case F => k_asm); (case N => k_asm); (case U => (intro oX; k_upd)); (case lv => decide); (case D => assumption)); intro a'ᵣ vs'ᵣ ks'ᵣ o'ᵣ h'ᵣ tk'ᵣ hDo'ᵣ hi'ᵣ hl'ᵣ hne'ᵣ F'ᵣ N'ᵣ; (replace hne'ᵣ := neF hne'ᵣ); (try k_sweep))
  k_with "CompSrc" => (k_here; k_dflt (refine LCg.CompSrc.range (by rfl) (by k_asm) (by k_asm) (by assumption) (small_one (by omega) (by omega) (by omega) (by omega)) (rangeSize_nat _ _) (by rw [PySem.sizeLine_eq]; omega) ?_; intro g'ᵣ; refine comp_inv (by assumption) ?ci0 ?ciT ?ciF))
  k_with "call ref" => (k_here; (with_reducible show wpAny _ _ (call (Value.ref 428) [Value.ref _, Value.int _ _]) _ _ _); k_dflt (refine' import_use ?H ?F ?N ?U ?T ?lv ?D ?m ?_; (case H => assumption); (case F => k_asm); (case N => k_asm); (case U => (intro oX; k_upd)); (case T => (intro oX tX; walk_at "m_tl")); (case lv => decide); (case D => assumption); (case m => omega)); intro v'ᵣ i'ᵣ tl'ᵣ o'ᵣ h'ᵣ tk'ᵣ hDo'ᵣ hiv'ᵣ hoff'ᵣ F'ᵣ N'ᵣ; (try k_sweep))
  k_with "call ref" => (k_here; (with_reducible show wpAny _ _ (call (Value.ref 372) _) _ _ _); k_dflt (refine' modnew_use ?H ?F ?N ?X ?lv ?mn; (case H => assumption); (case F => k_asm); (case N => k_asm); (case X => assumption); (case lv => decide)))
  k_with "pyIter ref" => ((with_reducible show wpAny _ _ (pyIter (Value.ref _)) (fun it s₂ => LoopAtV _ _ _ _ _ _ _ _ _ it s₂) _ _); (with_unfolding_all refine' for_range ?kJ (by rfl) ?k1 ?k2 (rangeSize_nat _ _) ?k3 ?k4 ?fr0 ?frT ?frF; (case kJ => assumption); (case k1 => assumption); (case k2 => exact small_one (by omega) (by omega) (by omega) (by omega)); (case k3 => k_asm); (case k4 => k_asm)))
  k_with "exec For Name Call cons nil" => (k_here; (rename Fr _ _ _ _ => lF'ᵣ); (with_unfolding_all refine' For_invVF lF'ᵣ ?k1 ?k2 ?_; (case k1 => exact rfl); (case k2 => exact rfl); k_whole))
  trivial
/-- the ledger while the module is built -/
abbrev ledM (x dx : Nat) (od : Obj) (a3 : Nat) (o3 : Obj) (a6 : Nat) (o6 : Obj) (a7 a8 a9 a10 c1 : Nat) (oc1 : Obj) (c2 : Nat) (oc2 : Obj) (D : Nat) (o : Obj) (tl : List (Addr × Obj)) : List (Addr × Obj) :=
  (x, instObj 372 dx) :: (dx, od) :: (a3, o3) :: (a6, o6) :: (a7, listOf #[] 0) :: (a8, listOf #[] 0) :: (a9, listOf #[] 0) :: (a10, listOf #[] 0) :: (c2, oc2) :: (c1, oc1) :: (D, o) :: tl
/-- the tail lies off what is still turned -/
def OffM (dx a3 a6 c2 D : Nat) (tl : List (Addr × Obj)) : Prop := ∀ p ∈ tl, @Ne Nat p.1 dx ∧ @Ne Nat p.1 a3 ∧ @Ne Nat p.1 a6 ∧ @Ne Nat p.1 c2 ∧ @Ne Nat p.1 D
theorem OffM.nil {dx a3 a6 c2 D : Nat} : OffM dx a3 a6 c2 D [] := fun _ hp => nomatch hp
theorem OffM.cons {dx a3 a6 c2 D : Nat} {p : Addr × Obj} {tl : List (Addr × Obj)} (h : @Ne Nat p.1 dx ∧ @Ne Nat p.1 a3 ∧ @Ne Nat p.1 a6 ∧ @Ne Nat p.1 c2 ∧ @Ne Nat p.1 D) (r : OffM dx a3 a6 c2 D tl) : OffM dx a3 a6 c2 D (p :: tl) := fun q hq => by
  rcases List.mem_cons.mp hq with rfl | hq
  · exact h
  · exact r q hq
theorem OffM.append {dx a3 a6 c2 D : Nat} {t1 t2 : List (Addr × Obj)} (h : OffM dx a3 a6 c2 D t1) (r : OffM dx a3 a6 c2 D t2) : OffM dx a3 a6 c2 D (t1 ++ t2) := fun q hq => (List.mem_append.mp hq).elim (h q) (r q)
theorem OffM.out {dx a3 a6 c2 D : Nat} {tl : List (Addr × Obj)} (h : OffM dx a3 a6 c2 D tl) : ∀ p ∈ tl, @Ne Nat p.1 dx ∧ @Ne Nat p.1 a3 ∧ @Ne Nat p.1 a6 ∧ @Ne Nat p.1 c2 ∧ @Ne Nat p.1 D := h
local macro_rules | `(tactic| k_all) => `(tactic| (intro pX hpX; have hqX := OffM.out (by assumption) pX hpX; first | exact hqX.1 | exact hqX.2.1 | exact hqX.2.2.1 | exact hqX.2.2.2.1 | exact hqX.2.2.2.2))
abbrev Off8 (p IA C Da dx a3 a6 c2 D : Nat) : Prop := p ≠ IA ∧ p ≠ C ∧ p ≠ Da ∧ p ≠ dx ∧ p ≠ a3 ∧ p ≠ a6 ∧ p ≠ c2 ∧ p ≠ D
theorem off8_of {p x dx a3 a6 a7 a8 a9 a10 c1 c2 D IA C Da : Nat} {od o3 o6 oc1 oc2 o oI oC oD : Obj} {tl : List (Addr × Obj)} (h : AllNe p ((IA, oI) :: (C, oC) :: (Da, oD) :: ledM x dx od a3 o3 a6 o6 a7 a8 a9 a10 c1 oc1 c2 oc2 D o tl)) : Off8 p IA C Da dx a3 a6 c2 D := by
  obtain ⟨q1, q2, q3, q4, q5, q6, q7, q8, q9, q10, q11, q12, q13, q14, _⟩ := h
  exact ⟨Ne.symm q1, Ne.symm q2, Ne.symm q3, Ne.symm q5, Ne.symm q6, Ne.symm q7, Ne.symm q12, Ne.symm q14⟩
/-- the module's parts lie apart, kept for k_ne -/
structure ModSep (D c dx x a3 a6 a7 a8 a9 a10 : Nat) : Prop where
  s1 : AllLt (c + 1) [(c, default), (D, default)]
  s2 : AllLt c [(D, default)]
  s3 : AllLt dx [(c + 1, default), (c, default), (D, default)]
  s4 : AllLt x [(dx, default), (c + 1, default), (c, default), (D, default)]
  s5 : AllLt a3 [(x, default), (dx, default), (c + 1, default), (c, default), (D, default)]
  s6 : AllLt a6 [(a3, default), (x, default), (dx, default), (c + 1, default), (c, default), (D, default)]
  s7 : AllLt a7 [(a6, default), (a3, default), (x, default), (dx, default), (c + 1, default), (c, default), (D, default)]
  s8 : AllLt a8 [(a7, default), (a6, default), (a3, default), (x, default), (dx, default), (c + 1, default), (c, default), (D, default)]
  s9 : AllLt a9 [(a8, default), (a7, default), (a6, default), (a3, default), (x, default), (dx, default), (c + 1, default), (c, default), (D, default)]
  s10 : AllLt a10 [(a9, default), (a8, default), (a7, default), (a6, default), (a3, default), (x, default), (dx, default), (c + 1, default), (c, default), (D, default)]
theorem mod_sep {D c dx x a3 a6 a7 a8 a9 a10 : Nat} (r1 : c + 1 < dx ∧ c < dx ∧ D < dx) (r0 : D < c) (r2 : dx < x) (r3 : x < a3) (r4 : a3 < a6) (r5 : a6 < a7) (r6 : a7 < a8) (r7 : a8 < a9) (r8 : a9 < a10) : ModSep D c dx x a3 a6 a7 a8 a9 a10 := by
  have hd : AllLt dx [(c + 1, default), (c, default), (D, default)] := ⟨r1.1, r1.2.1, r1.2.2, trivial⟩
  have hx := allLt_up r2 hd
  have h3 := allLt_up r3 hx
  have h6 := allLt_up r4 h3
  have h7 := allLt_up r5 h6
  have h8 := allLt_up r6 h7
  have h9 := allLt_up r7 h8
  exact ⟨⟨Nat.lt_succ_self _, Nat.lt_succ_of_lt r0, trivial⟩, ⟨r0, trivial⟩, hd, hx, h3, h6, h7, h8, h9, allLt_up r8 h9⟩
theorem off8_lt {p x dx a3 a6 a7 a8 a9 a10 c1 c2 D IA C Da : Nat} {od o3 o6 oc1 oc2 o oI oC oD : Obj} {q1 q2 : Addr × Obj} {tl : List (Addr × Obj)} (h : AllLt p (q1 :: q2 :: (IA, oI) :: (C, oC) :: (Da, oD) :: ledM x dx od a3 o3 a6 o6 a7 a8 a9 a10 c1 oc1 c2 oc2 D o tl)) : Off8 p IA C Da dx a3 a6 c2 D := by
  obtain ⟨_, _, q1, q2, q3, q4, q5, q6, q7, q8, q9, q10, q11, q12, q13, q14, _⟩ := h
  exact ⟨Nat.ne_of_gt q1, Nat.ne_of_gt q2, Nat.ne_of_gt q3, Nat.ne_of_gt q5, Nat.ne_of_gt q6, Nat.ne_of_gt q7, Nat.ne_of_gt q12, Nat.ne_of_gt q14⟩
theorem lt_head {x d : Nat} {o : Obj} {l : List (Addr × Obj)} (h : AllLt x ((d, o) :: l)) : d < x := h.1
theorem lt_conj {x d : Nat} {o : Obj} {l : List (Addr × Obj)} (h : AllLt x ((d, o) :: l)) : d < x ∧ AllLt x l := h
theorem lt_led {p a I x dx a3 a6 a7 a8 a9 a10 c1 c2 D : Nat} {oa oI od o3 o6 oc1 oc2 o : Obj} {tl : List (Addr × Obj)} (h : AllLt p ((a, oa) :: (I, oI) :: ledM x dx od a3 o3 a6 o6 a7 a8 a9 a10 c1 oc1 c2 oc2 D o tl)) :
    a < p ∧ I < p ∧ x < p ∧ dx < p ∧ a3 < p ∧ a6 < p ∧ a7 < p ∧ a8 < p ∧ a9 < p ∧ a10 < p ∧ c2 < p ∧ c1 < p ∧ D < p ∧ AllLt p tl := h
theorem ne5 {K x dx a3 a6 a7 a8 a9 a10 c1 c2 D : Nat} {od o3 o6 oc1 oc2 o : Obj} {tl : List (Addr × Obj)} (h : NeF K (ledM x dx od a3 o3 a6 o6 a7 a8 a9 a10 c1 oc1 c2 oc2 D o tl)) : K ≠ dx ∧ K ≠ a3 ∧ K ≠ a6 ∧ K ≠ c2 ∧ K ≠ D := by
  obtain ⟨q1, q2, q3, q4, q5, q6, q7, q8, q9, q10, q11, _⟩ := h
  exact ⟨Ne.symm q2, Ne.symm q3, Ne.symm q4, Ne.symm q9, Ne.symm q11⟩
/-- what holds between the turns of a comprehension that builds -/
def CM {α : Type} (R : PO → Value → α → Prop) (x dx : Nat) (od : Obj) (a3 : Nat) (o3 : Obj) (a6 : Nat) (o6 : Obj) (a7 a8 a9 a10 c1 : Nat) (oc1 : Obj) (c2 : Nat) (oc2 : Obj) (D : Nat) (T0 : List (Addr × Obj)) : Nat → List Value → List (Addr × Obj) → Prop :=
  fun i ys nw => ∃ o tl xs, DigO o ∧ AllV (R (Mem tl)) ys xs ∧ xs.length = i ∧ OffM dx a3 a6 c2 D tl ∧ (∀ p ∈ T0, p ∈ tl) ∧ nw = ledM x dx od a3 o3 a6 o6 a7 a8 a9 a10 c1 oc1 c2 oc2 D o tl
theorem comp_endM {α : Type} (R : PO → Value → α → Prop) (hmono : ∀ P P' v x, (∀ a o, P a o → P' a o) → R P v x → R P' v x) {g h' : Heap} {L : Addr} {m : Str → Option Value} {s₁ : Shared} {x dx a3 a6 a7 a8 a9 a10 c1 c2 D IA C Da : Nat} {od o3 o6 oc1 oc2 o o'' oI oC : Obj} {nt tl T0 : List (Addr × Obj)} {ys : List Value} {xs : List α} {y : Value} {r : α} {i tk' : Nat}
    (F : Fr g L h' m) (N : News g L h' ((IA, oI) :: (C, oC) :: (Da, LCg.lst ys) :: ledM x dx od a3 o3 a6 o6 a7 a8 a9 a10 c1 oc1 c2 oc2 D o'' (nt ++ tl))) (hdo : DigO o'') (hnt : ∀ p ∈ nt, Off8 p.1 IA C Da dx a3 a6 c2 D) (hr : R (Mem nt) y r) (hxs : AllV (R (Mem tl)) ys xs) (hlen : xs.length = i) (hoff : OffM dx a3 a6 c2 D tl) (hT : ∀ p ∈ T0, p ∈ tl)
    (off : LCg.Off3 IA C Da (ledM x dx od a3 o3 a6 o6 a7 a8 a9 a10 c1 oc1 c2 oc2 D o tl)) :
    LCg.CompEnd g L m s₁ IA oI C oC Da (LCg.lst ys) (fun _ => True) (fun y nw' => CM R x dx od a3 o3 a6 o6 a7 a8 a9 a10 c1 oc1 c2 oc2 D T0 (i + 1) (ys ++ [y]) nw') y { s₁ with heap := h', toks := tk' } := by
  refine ⟨h', tk', ledM x dx od a3 o3 a6 o6 a7 a8 a9 a10 c1 oc1 c2 oc2 D o'' (nt ++ tl), rfl, F, N, ?_, trivial, o'', nt ++ tl, xs ++ [r], hdo, ?_, by simp [hlen], ?_, fun p hp => List.mem_append_right _ (hT p hp), rfl⟩
  · have q := off
    simp only [LCg.Off3] at q ⊢
    obtain ⟨q1, q2, q3, q4, q5, q6, q7, q8, q9, q10, q11, q12⟩ := q
    refine ⟨q1, q2, q3, q4, q5, q6, q7, q8, q9, q10, q11, LCg.Off3.of fun p hp => ?_⟩
    rcases List.mem_append.mp hp with hp | hp
    · have z := hnt p hp; exact ⟨z.1, z.2.1, z.2.2.1⟩
    · exact q12.mem p hp
  · exact AllV.snoc (hxs.mono fun v x q => hmono _ _ v x (fun a o z => List.mem_append_right _ z) q) (hmono _ _ y r (fun a o z => List.mem_append_left _ z) hr)
  · exact OffM.append (fun p hp => (hnt p hp).2.2.2) hoff
theorem kindV_at {t a b : Addr} {vs us : List Value} {ks js : List Int} (h1 : IntsAre vs ks) (l1 : ks.length ≤ 2) (h2 : IntsAre us js) (l2 : js.length ≤ 2) :
    KindV (Mem [(t, tupO #[.ref a, .ref b]), (b, tupO (List.toArray us)), (a, tupO (List.toArray vs))]) (.ref t) (ks, js) :=
  ⟨t, a, b, vs, us, rfl, .head _, .tail _ (.tail _ (.head _)), h1, l1, .tail _ (.head _), h2, l2⟩
theorem kinds_end {g h' : Heap} {L : Addr} {m : Str → Option Value} {s₁ : Shared} {t a b : Nat} {x dx a3 a6 a7 a8 a9 a10 c1 c2 D IA C Da : Nat} {od o3 o6 oc1 oc2 o o'' o₁ o₂ oI oC : Obj} {tl T0 : List (Addr × Obj)} {ys vs us : List Value} {ks js : List Int} {xs : List (List Int × List Int)} {i tk' : Nat}
    (F : Fr g L h' m) (NF : News g L h' ((t, tupO #[.ref a, .ref b]) :: (b, tupO (List.toArray us)) :: (a, tupO (List.toArray vs)) :: (IA, oI) :: (C, oC) :: (Da, LCg.lst ys) :: ledM x dx od a3 o3 a6 o6 a7 a8 a9 a10 c1 oc1 c2 oc2 D o'' tl)) (hdo : DigO o'')
    (h1 : IntsAre vs ks) (l1 : ks.length ≤ 2) (h2 : IntsAre us js) (l2 : js.length ≤ 2) (n1 : Off8 t IA C Da dx a3 a6 c2 D) (n2 : NeF b ((a, tupO (List.toArray vs)) :: (IA, oI) :: (C, oC) :: (Da, LCg.lst ys) :: ledM x dx od a3 o3 a6 o6 a7 a8 a9 a10 c1 oc1 c2 oc2 D o₂ tl)) (n3 : NeF a ((IA, oI) :: (C, oC) :: (Da, LCg.lst ys) :: ledM x dx od a3 o3 a6 o6 a7 a8 a9 a10 c1 oc1 c2 oc2 D o₁ tl))
    (hxs : AllV (KindV (Mem tl)) ys xs) (hlen : xs.length = i) (hoff : OffM dx a3 a6 c2 D tl) (hT : ∀ p ∈ T0, p ∈ tl) (off : LCg.Off3 IA C Da (ledM x dx od a3 o3 a6 o6 a7 a8 a9 a10 c1 oc1 c2 oc2 D o tl)) :
    LCg.CompEnd g L m s₁ IA oI C oC Da (LCg.lst ys) (fun _ => True) (fun y nw' => CM KindV x dx od a3 o3 a6 o6 a7 a8 a9 a10 c1 oc1 c2 oc2 D T0 (i + 1) (ys ++ [y]) nw') (.ref t) { s₁ with heap := h', toks := tk' } := by
  refine comp_endM KindV (fun P P' v x hp q => q.mono hp) F (fun p hp => NF p ?_) hdo ?_ (kindV_at (a := a) (b := b) h1 l1 h2 l2) hxs hlen hoff hT off
  · simp only [List.mem_cons, List.cons_append, List.nil_append] at hp ⊢; grind
  · intro p hp
    simp only [List.mem_cons, List.not_mem_nil, or_false] at hp
    rcases hp with rfl | rfl | rfl
    · exact n1
    · exact off8_of n2.out.2
    · exact off8_of n3.out
theorem one_end {α : Type} (R : PO → Value → α → Prop) (hmono : ∀ P P' v x, (∀ a o, P a o → P' a o) → R P v x → R P' v x) {g h' : Heap} {L : Addr} {m : Str → Option Value} {s₁ : Shared} {a : Nat} {x dx a3 a6 a7 a8 a9 a10 c1 c2 D IA C Da : Nat} {oa od o3 o6 oc1 oc2 o o'' o₁ oI oC : Obj} {tl T0 : List (Addr × Obj)} {ys : List Value} {xs : List α} {r : α} {i tk' : Nat}
    (F : Fr g L h' m) (NF : News g L h' ((a, oa) :: (IA, oI) :: (C, oC) :: (Da, LCg.lst ys) :: ledM x dx od a3 o3 a6 o6 a7 a8 a9 a10 c1 oc1 c2 oc2 D o'' tl)) (hdo : DigO o'') (n3 : NeF a ((IA, oI) :: (C, oC) :: (Da, LCg.lst ys) :: ledM x dx od a3 o3 a6 o6 a7 a8 a9 a10 c1 oc1 c2 oc2 D o₁ tl)) (hr : R (Mem [(a, oa)]) (.ref a) r)
    (hxs : AllV (R (Mem tl)) ys xs) (hlen : xs.length = i) (hoff : OffM dx a3 a6 c2 D tl) (hT : ∀ p ∈ T0, p ∈ tl) (off : LCg.Off3 IA C Da (ledM x dx od a3 o3 a6 o6 a7 a8 a9 a10 c1 oc1 c2 oc2 D o tl)) :
    LCg.CompEnd g L m s₁ IA oI C oC Da (LCg.lst ys) (fun _ => True) (fun y nw' => CM R x dx od a3 o3 a6 o6 a7 a8 a9 a10 c1 oc1 c2 oc2 D T0 (i + 1) (ys ++ [y]) nw') (.ref a) { s₁ with heap := h', toks := tk' } := by
  refine comp_endM R hmono F (fun p hp => NF p ?_) hdo ?_ hr hxs hlen hoff hT off
  · simp only [List.mem_cons, List.cons_append, List.nil_append] at hp ⊢; grind
  · intro p hp
    rcases List.mem_singleton.mp hp with rfl
    exact off8_of n3.out
theorem off8_offL {x dx a3 a6 a7 a8 a9 a10 c1 c2 D IA C Da : Nat} {od o3 o6 oc1 oc2 o oI oC oD : Obj} {nt tl : List (Addr × Obj)} (h : OffL ((IA, oI) :: (C, oC) :: (Da, oD) :: ledM x dx od a3 o3 a6 o6 a7 a8 a9 a10 c1 oc1 c2 oc2 D o tl) nt) : ∀ p ∈ nt, Off8 p.1 IA C Da dx a3 a6 c2 D := fun p hp =>
  ⟨h _ (.head _) p hp, h _ (.tail _ (.head _)) p hp, h _ (.tail _ (.tail _ (.head _))) p hp, h (dx, od) (by simp) p hp, h (a3, o3) (by simp) p hp, h (a6, o6) (by simp) p hp, h (c2, oc2) (by simp) p hp, h (D, o) (by simp) p hp⟩
theorem my_len {prog : Program} {w : World} {A : Around} {E : Value → Shared → Prop} {s : Shared} {g : Heap} {L a : Addr} {led : List (Addr × Obj)} {ys : List Value} {n : Nat} {Q : Value → Shared → Prop} (N : News g L s.heap led) (hm : (a, listOf (List.toArray ys) n) ∈ led) (hl : ys.length ≤ 1000)
    (h : Q (.int (ys.length : Nat) (s.toks + 1)) { s with toks := s.toks + 1 + 1 }) : wpAny (model prog w) A (call (.builtin "len") [.ref a]) Q E s := by
  have hL : s.heap.IsList a ys.toArray := ⟨_, (N _ hm).1, rfl, n, rfl⟩
  refine call_len_list hL (by rw [List.size_toArray]; omega) ?_
  rw [List.size_toArray]; exact h
theorem rows_C6L_3 : True := by
  k_with "call builtin:len" => (k_here; (with_reducible show wpAny _ _ (call (Value.builtin _) [Value.ref _]) _ _ _); k_dflt (refine' my_len ?N ?m ?l ?_; (case N => k_asm); (case m => k_mem); (case l => ((have hLX := AllV.length (by assumption)); omega))))
  trivial
def MapOk (x : Nat) (m : Str → Option Value) : Prop := ∀ z, z ≠ Str.ofString "turn" → z ≠ Str.ofString "kind" → z ≠ Str.ofString "mutable" → m z = if z = Str.ofString "module" then some (.ref x) else none
theorem MapOk.canon {x : Nat} {m : Str → Option Value} (h : MapOk x m) : ∃ u1 u2 u3, m = fun z => if z = Str.ofString "turn" then u1 else if z = Str.ofString "kind" then u2 else if z = Str.ofString "mutable" then u3 else if z = Str.ofString "module" then some (.ref x) else none := by
  refine ⟨m (Str.ofString "turn"), m (Str.ofString "kind"), m (Str.ofString "mutable"), funext fun z => ?_⟩
  by_cases h1 : z = Str.ofString "turn"
  · simp [h1]
  · by_cases h2 : z = Str.ofString "kind"
    · rw [if_neg h1, if_pos h2, h2]
    · by_cases h3 : z = Str.ofString "mutable"
      · rw [if_neg h1, if_neg h2, if_pos h3, h3]
      · simp only [if_neg h1, if_neg h2, if_neg h3]; exact h z h1 h2 h3
/-- what holds between the turns of a loop that builds -/
def LJ {α : Type} (R : PO → Value → α → Prop) (x dx a3 a6 c2 D : Nat) (Led : List Value → Nat → Obj → List (Addr × Obj) → List (Addr × Obj)) (T0 : List (Addr × Obj)) : Nat → (Str → Option Value) → List (Addr × Obj) → Prop :=
  fun i m nw => MapOk x m ∧ ∃ o tl vs n xs, DigO o ∧ AllV (R (Mem tl)) vs xs ∧ xs.length = i ∧ OffM dx a3 a6 c2 D tl ∧ (∀ p ∈ T0, p ∈ tl) ∧ nw = Led vs n o tl
theorem turn_end {J : (Str → Option Value) → List (Addr × Obj) → Prop} {g h' : Heap} {L I : Addr} {oI : Obj} {m : Str → Option Value} {s₁ : Shared} {Q : Flow → Shared → Prop} {x dx a3 a6 a7 a8 a9 a10 c1 c2 D tk' : Nat} {od o3 o6 o3' o6' oc1 oc2 o o' : Obj} {nt tl : List (Addr × Obj)}
    (F : Fr g L h' m) (NF : News g L h' (nt ++ (I, oI) :: ledM x dx od a3 o3' a6 o6' a7 a8 a9 a10 c1 oc1 c2 oc2 D o' tl)) (hI : NeF I (ledM x dx od a3 o3 a6 o6 a7 a8 a9 a10 c1 oc1 c2 oc2 D o tl)) (hnt : ∀ p ∈ nt, @Ne Nat p.1 I)
    (hJ : J m (ledM x dx od a3 o3' a6 o6' a7 a8 a9 a10 c1 oc1 c2 oc2 D o' (nt ++ tl))) : TurnE g L I oI J s₁ Q .next { s₁ with heap := h', toks := tk' } := by
  refine ⟨h', tk', m, _, rfl, F, fun p hp => NF p ?_, ?_, hJ⟩
  · simp only [List.mem_cons, List.mem_append] at hp ⊢; grind
  · obtain ⟨q1, q2, q3, q4, q5, q6, q7, q8, q9, q10, q11, q12⟩ := hI.out
    refine ⟨q1, q2, q3, q4, q5, q6, q7, q8, q9, q10, q11, allNe_iff.mpr fun p hp => ?_⟩
    rcases List.mem_append.mp hp with hp | hp
    · exact hnt p hp
    · exact allNe_iff.mp q12 p hp
theorem func_end {g h' : Heap} {L : Addr} {oI : Obj} {m : Str → Option Value} {s₁ : Shared} {Q : Flow → Shared → Prop} {x dx a3 a6 a7 a8 a9 a10 c1 c2 D tk' x' d' l' a' i n k I : Nat} {h1 h2 h3 : Int} {b1 b2 b3 c : Tok} {vs vs' : List Value} {ks : List Int} {fs : List (Int × List Int)} {od o6 oc1 oc2 o o' oq : Obj} {tl T0 : List (Addr × Obj)} {R1 R2 : Prop}
    (NF : News g L h' ((x', instObj 227 d') :: (d', dictOf [En h1 "kind" b1 (.int k c), En h2 "locals" b2 (.ref a'), En h3 "body" b3 (.ref l')] 3) :: (l', listOf #[] 0) :: (a', tupO (List.toArray vs')) :: (I, oI) :: ledM x dx od a3 (listOf (vs.toArray.push (.ref x')) (n + 1)) a6 o6 a7 a8 a9 a10 c1 oc1 c2 oc2 D o' tl))
    (F : Fr g L h' m) (hm : MapOk x m) (hdo : DigO o') (hi' : IntsAre vs' ks) (hl' : ks.length ≤ 2) (hI : NeF I (ledM x dx od a3 (listOf vs.toArray n) a6 o6 a7 a8 a9 a10 c1 oc1 c2 oc2 D o tl))
    (l2 : d' < x') (l1 : l' < d' ∧ R1) (l0 : a' < l' ∧ I < l' ∧ x < l' ∧ dx < l' ∧ a3 < l' ∧ a6 < l' ∧ a7 < l' ∧ a8 < l' ∧ a9 < l' ∧ a10 < l' ∧ c2 < l' ∧ c1 < l' ∧ D < l' ∧ R2)
    (ha : NeF a' ((I, oI) :: ledM x dx od a3 (listOf vs.toArray n) a6 o6 a7 a8 a9 a10 c1 oc1 c2 oc2 D oq tl))
    (hfs : AllV (FuncV (Mem tl)) vs fs) (hlen : fs.length = i) (hoff : OffM dx a3 a6 c2 D tl) (hT : ∀ p ∈ T0, p ∈ tl) :
    TurnE g L I oI (LJ FuncV x dx a3 a6 c2 D (fun vs n o tl => ledM x dx od a3 (listOf (List.toArray vs) n) a6 o6 a7 a8 a9 a10 c1 oc1 c2 oc2 D o tl) T0 (i + 1)) s₁ Q .next { s₁ with heap := h', toks := tk' } := by
  obtain ⟨q1, q2, q3, q4, q5, q6, q7, q8, q9, q10, q11, q12, _⟩ := ha.out
  obtain ⟨z1, z2, z3, z4, z5, z6, z7, z8, z9, z10, z11, z12, z13, _⟩ := l0
  obtain ⟨l1, _⟩ := l1
  have nI : ∀ p ∈ [(x', instObj 227 d'), (d', dictOf [En h1 "kind" b1 (.int k c), En h2 "locals" b2 (.ref a'), En h3 "body" b3 (.ref l')] 3), (l', listOf #[] 0), (a', tupO (List.toArray vs'))], @Ne Nat p.1 I ∧ (@Ne Nat p.1 dx ∧ @Ne Nat p.1 a3 ∧ @Ne Nat p.1 a6 ∧ @Ne Nat p.1 c2 ∧ @Ne Nat p.1 D) := by
    intro p hp
    simp only [List.mem_cons, List.not_mem_nil, or_false] at hp
    rcases hp with rfl | rfl | rfl | rfl
    · exact ⟨by dsimp only; omega, by dsimp only; omega⟩
    · exact ⟨by dsimp only; omega, by dsimp only; omega⟩
    · exact ⟨by dsimp only; omega, by dsimp only; omega⟩
    · exact ⟨Ne.symm q1, Ne.symm q3, Ne.symm q4, Ne.symm q5, Ne.symm q10, Ne.symm q12⟩
  rw [List.push_toArray] at NF
  refine turn_end (nt := [(x', instObj 227 d'), (d', dictOf [En h1 "kind" b1 (.int k c), En h2 "locals" b2 (.ref a'), En h3 "body" b3 (.ref l')] 3), (l', listOf #[] 0), (a', tupO (List.toArray vs'))]) F NF hI (fun p hp => (nI p hp).1) ?_
  refine ⟨hm, o', _, vs ++ [.ref x'], n + 1, fs ++ [((k : Int), ks)], hdo, ?_, by simp [hlen], OffM.append (fun p hp => (nI p hp).2) hoff, fun p hp => List.mem_append_right _ (hT p hp), rfl⟩
  refine AllV.snoc (hfs.mono fun v x q => q.mono fun a o z => List.mem_append_right _ z) (FuncV.mono (P := Mem [(x', instObj 227 d'), (d', dictOf [En h1 "kind" b1 (.int k c), En h2 "locals" b2 (.ref a'), En h3 "body" b3 (.ref l')] 3), (l', listOf #[] 0), (a', tupO (List.toArray vs'))]) (fun a o z => List.mem_append_left _ z) ?_)
  exact ⟨x', d', 3, a', l', vs', 0, h1, h2, h3, b1, b2, b3, c, rfl, .head _, .tail _ (.head _), .tail _ (.tail _ (.tail _ (.head _))), hi', hl', .tail _ (.tail _ (.head _)), Int.natCast_nonneg k⟩
theorem glob_end {g h' : Heap} {L : Addr} {oI : Obj} {m : Str → Option Value} {s₁ : Shared} {Q : Flow → Shared → Prop} {x dx a3 a6 a7 a8 a9 a10 c1 c2 D tk' x' d' l' t' a' i n I : Nat} {k l : Int} {h1 h2 h3 : Int} {b1 b2 b3 c cl ct : Tok} {vs : List Value} {fs : List (Int × Int)} {od o3 oa oc1 oc2 o o' oq : Obj} {tl T0 : List (Addr × Obj)} {R1 R2 R3 : Prop}
    (NF : News g L h' ((x', instObj 255 d') :: (d', dictOf [En h1 "kind" b1 (.int k c), En h2 "mutable" b2 (.int l cl), En h3 "body" b3 (.ref l')] 3) :: (l', listOf #[.ref t'] 0) :: (t', tupO #[.int 11 ct]) :: (a', oa) :: (I, oI) :: ledM x dx od a3 o3 a6 (listOf (vs.toArray.push (.ref x')) (n + 1)) a7 a8 a9 a10 c1 oc1 c2 oc2 D o' tl))
    (F : Fr g L h' m) (hm : MapOk x m) (hdo : DigO o') (hI : NeF I (ledM x dx od a3 o3 a6 (listOf vs.toArray n) a7 a8 a9 a10 c1 oc1 c2 oc2 D o tl))
    (l2 : d' < x') (l1 : l' < d' ∧ R1) (l5 : t' < l' ∧ R3) (l0 : a' < t' ∧ I < t' ∧ x < t' ∧ dx < t' ∧ a3 < t' ∧ a6 < t' ∧ a7 < t' ∧ a8 < t' ∧ a9 < t' ∧ a10 < t' ∧ c2 < t' ∧ c1 < t' ∧ D < t' ∧ R2)
    (ha : NeF a' ((I, oI) :: ledM x dx od a3 o3 a6 (listOf vs.toArray n) a7 a8 a9 a10 c1 oc1 c2 oc2 D oq tl))
    (hfs : AllV (GlobV (Mem tl)) vs fs) (hlen : fs.length = i) (hoff : OffM dx a3 a6 c2 D tl) (hT : ∀ p ∈ T0, p ∈ tl) :
    TurnE g L I oI (LJ GlobV x dx a3 a6 c2 D (fun vs n o tl => ledM x dx od a3 o3 a6 (listOf (List.toArray vs) n) a7 a8 a9 a10 c1 oc1 c2 oc2 D o tl) T0 (i + 1)) s₁ Q .next { s₁ with heap := h', toks := tk' } := by
  obtain ⟨q1, q2, q3, q4, q5, q6, q7, q8, q9, q10, q11, q12, _⟩ := ha.out
  obtain ⟨z1, z2, z3, z4, z5, z6, z7, z8, z9, z10, z11, z12, z13, _⟩ := l0
  obtain ⟨l1, _⟩ := l1
  obtain ⟨l5, _⟩ := l5
  have nI : ∀ p ∈ [(x', instObj 255 d'), (d', dictOf [En h1 "kind" b1 (.int k c), En h2 "mutable" b2 (.int l cl), En h3 "body" b3 (.ref l')] 3), (l', listOf #[.ref t'] 0), (t', tupO #[.int 11 ct]), (a', oa)], @Ne Nat p.1 I ∧ (@Ne Nat p.1 dx ∧ @Ne Nat p.1 a3 ∧ @Ne Nat p.1 a6 ∧ @Ne Nat p.1 c2 ∧ @Ne Nat p.1 D) := by
    intro p hp
    simp only [List.mem_cons, List.not_mem_nil, or_false] at hp
    rcases hp with rfl | rfl | rfl | rfl | rfl
    · exact ⟨by dsimp only; omega, by dsimp only; omega⟩
    · exact ⟨by dsimp only; omega, by dsimp only; omega⟩
    · exact ⟨by dsimp only; omega, by dsimp only; omega⟩
    · exact ⟨by dsimp only; omega, by dsimp only; omega⟩
    · exact ⟨Ne.symm q1, Ne.symm q3, Ne.symm q4, Ne.symm q5, Ne.symm q10, Ne.symm q12⟩
  rw [List.push_toArray] at NF
  refine turn_end (nt := [(x', instObj 255 d'), (d', dictOf [En h1 "kind" b1 (.int k c), En h2 "mutable" b2 (.int l cl), En h3 "body" b3 (.ref l')] 3), (l', listOf #[.ref t'] 0), (t', tupO #[.int 11 ct]), (a', oa)]) F NF hI (fun p hp => (nI p hp).1) ?_
  refine ⟨hm, o', _, vs ++ [.ref x'], n + 1, fs ++ [(k, l)], hdo, ?_, by simp [hlen], OffM.append (fun p hp => (nI p hp).2) hoff, fun p hp => List.mem_append_right _ (hT p hp), rfl⟩
  refine AllV.snoc (hfs.mono fun v x q => q.mono fun a o z => List.mem_append_right _ z) (GlobV.mono (P := Mem [(x', instObj 255 d'), (d', dictOf [En h1 "kind" b1 (.int k c), En h2 "mutable" b2 (.int l cl), En h3 "body" b3 (.ref l')] 3), (l', listOf #[.ref t'] 0), (t', tupO #[.int 11 ct]), (a', oa)]) (fun a o z => List.mem_append_left _ z) ?_)
  exact ⟨x', d', 3, l', t', 0, ct, h1, h2, h3, b1, b2, b3, c, cl, rfl, .head _, .tail _ (.head _), .tail _ (.tail _ (.head _)), .tail _ (.tail _ (.tail _ (.head _)))⟩
theorem tabV_at {a : Addr} {k l : Int} {tk t : Tok} {mv : Value} {mo : Option Int} (h1 : MostIs mv mo) (h0 : 0 ≤ l) : TabV (Mem [(a, tupO #[.int k tk, .int l t, mv])]) (.ref a) (k, l, mo) := ⟨a, tk, t, mv, rfl, .head _, h1, h0⟩
theorem memV_at {a : Addr} {l : Int} {t : Tok} {mv : Value} {mo : Option Int} (h1 : MostIs mv mo) (h0 : 0 ≤ l) : MemV (Mem [(a, tupO #[.int l t, mv])]) (.ref a) (l, mo) := ⟨a, t, mv, rfl, .head _, h1, h0⟩
structure Mod where
  kinds : List (List Int × List Int)
  imps : List Imp
  funcs : List (Int × List Int)
  tabs : List (Int × Int × Option Int)
  mems : List (Int × Option Int)
  globs : List (Int × Int)
structure Mod.Ok (M : Mod) : Prop where
  k : M.kinds.length ≤ 3
  i : M.imps.length ≤ 4
  f : M.funcs.length ≤ 3
  t : M.tabs.length ≤ 2
  m : M.mems.length ≤ 2
  g : M.globs.length ≤ 3
structure ModAt (P : PO) (x : Addr) (M : Mod) (dx : Nat) (h1 h2 h3 h4 h5 h6 h7 h8 h9 h10 h11 : Int) (b1 b2 b3 b4 b5 b6 b7 b8 b9 b10 b11 : Tok) (K1 K2 a3 K4 K5 a6 a7 a8 a9 a10 : Nat) (ys zs vs ts ms gs : List Value) (n1 n2 n3 n4 n5 n6 : Nat) : Prop where
  ob : P x (instObj 372 dx)
  di : P dx (dictOf [En h1 "kinds" b1 (.ref K1), En h2 "imports" b2 (.ref K2), En h3 "funcs" b3 (.ref a3), En h4 "tables" b4 (.ref K4), En h5 "memories" b5 (.ref K5), En h6 "globals" b6 (.ref a6), En h7 "exports" b7 (.ref a7), En h8 "start" b8 .none, En h9 "elems" b9 (.ref a8), En h10 "datas" b10 (.ref a9), En h11 "customs" b11 (.ref a10)] 11)
  k1 : P K1 (listOf (List.toArray ys) n1)
  k2 : P K2 (listOf (List.toArray zs) n2)
  k3 : P a3 (listOf (List.toArray vs) n3)
  k4 : P K4 (listOf (List.toArray ts) n4)
  k5 : P K5 (listOf (List.toArray ms) n5)
  k6 : P a6 (listOf (List.toArray gs) n6)
  e7 : P a7 (listOf #[] 0)
  e8 : P a8 (listOf #[] 0)
  e9 : P a9 (listOf #[] 0)
  e10 : P a10 (listOf #[] 0)
  v1 : AllV (KindV P) ys M.kinds
  v2 : AllV (ImpV P) zs M.imps
  v3 : AllV (FuncV P) vs M.funcs
  v4 : AllV (TabV P) ts M.tabs
  v5 : AllV (MemV P) ms M.mems
  v6 : AllV (GlobV P) gs M.globs
inductive ModV (P : PO) (x : Addr) (M : Mod) : Prop
  | mk : ∀ dx h1 h2 h3 h4 h5 h6 h7 h8 h9 h10 h11 b1 b2 b3 b4 b5 b6 b7 b8 b9 b10 b11 K1 K2 a3 K4 K5 a6 a7 a8 a9 a10 ys zs vs ts ms gs n1 n2 n3 n4 n5 n6, (ModAt P x M dx h1 h2 h3 h4 h5 h6 h7 h8 h9 h10 h11 b1 b2 b3 b4 b5 b6 b7 b8 b9 b10 b11 K1 K2 a3 K4 K5 a6 a7 a8 a9 a10 ys zs vs ts ms gs n1 n2 n3 n4 n5 n6) → ModV P x M
theorem ModV.mono {P P' : PO} (h : ∀ a o, P a o → P' a o) {x : Addr} {M : Mod} (q : ModV P x M) : ModV P' x M := by
  obtain ⟨dx, h1, h2, h3, h4, h5, h6, h7, h8, h9, h10, h11, b1, b2, b3, b4, b5, b6, b7, b8, b9, b10, b11, K1, K2, a3, K4, K5, a6, a7, a8, a9, a10, ys, zs, vs, ts, ms, gs, n1, n2, n3, n4, n5, n6, q⟩ := q
  exact ⟨dx, h1, h2, h3, h4, h5, h6, h7, h8, h9, h10, h11, b1, b2, b3, b4, b5, b6, b7, b8, b9, b10, b11, K1, K2, a3, K4, K5, a6, a7, a8, a9, a10, ys, zs, vs, ts, ms, gs, n1, n2, n3, n4, n5, n6,
    h _ _ q.ob, h _ _ q.di, h _ _ q.k1, h _ _ q.k2, h _ _ q.k3, h _ _ q.k4, h _ _ q.k5, h _ _ q.k6, h _ _ q.e7, h _ _ q.e8, h _ _ q.e9, h _ _ q.e10,
    q.v1.mono fun _ _ z => z.mono h, q.v2.mono fun _ _ z => z.mono h, q.v3.mono fun _ _ z => z.mono h, q.v4.mono fun _ _ z => z.mono h, q.v5.mono fun _ _ z => z.mono h, q.v6.mono fun _ _ z => z.mono h⟩
theorem mod_end {h g h' : Heap} {L : Addr} {x dx K1 K2 a3 K4 K5 a6 a7 a8 a9 a10 c1 c2 D n n' : Nat} {h1 h2 h3 h4 h5 h6 h7 h8 h9 h10 h11 : Int} {b1 b2 b3 b4 b5 b6 b7 b8 b9 b10 b11 : Tok} {oc1 oc2 o o₀ : Obj} {tl : List (Addr × Obj)} {ys zs vs ts ms gs : List Value} {M : Mod}
    (hg : g = hideAll h ([(D, o₀)].map (·.1)))
    (NF : News g L h' (ledM x dx (dictOf [En h1 "kinds" b1 (.ref K1), En h2 "imports" b2 (.ref K2), En h3 "funcs" b3 (.ref a3), En h4 "tables" b4 (.ref K4), En h5 "memories" b5 (.ref K5), En h6 "globals" b6 (.ref a6), En h7 "exports" b7 (.ref a7), En h8 "start" b8 .none, En h9 "elems" b9 (.ref a8), En h10 "datas" b10 (.ref a9), En h11 "customs" b11 (.ref a10)] 11) a3 (listOf (List.toArray vs) n) a6 (listOf (List.toArray gs) n') a7 a8 a9 a10 c1 oc1 c2 oc2 D o tl))
    (l1 : D < dx) (l2 : dx < x) (l3 : x < a3) (l4 : a3 < a6) (l5 : a6 < a7) (l6 : a7 < a8) (l7 : a8 < a9) (l8 : a9 < a10) (hoff : OffM dx a3 a6 c2 D tl)
    (k1 : (K1, LCg.lst ys) ∈ tl) (k2 : (K2, LCg.lst zs) ∈ tl) (k4 : (K4, LCg.lst ts) ∈ tl) (k5 : (K5, LCg.lst ms) ∈ tl)
    (v1 : AllV (KindV (Mem tl)) ys M.kinds) (v2 : AllV (ImpV (Mem tl)) zs M.imps) (v3 : AllV (FuncV (Mem tl)) vs M.funcs) (v4 : AllV (TabV (Mem tl)) ts M.tabs) (v5 : AllV (MemV (Mem tl)) ms M.mems) (v6 : AllV (GlobV (Mem tl)) gs M.globs) :
    ∃ T, New h h' T ∧ ModV (Mem T) x M := by
  let T0 : List (Addr × Obj) := [(x, instObj 372 dx), (dx, dictOf [En h1 "kinds" b1 (.ref K1), En h2 "imports" b2 (.ref K2), En h3 "funcs" b3 (.ref a3), En h4 "tables" b4 (.ref K4), En h5 "memories" b5 (.ref K5), En h6 "globals" b6 (.ref a6), En h7 "exports" b7 (.ref a7), En h8 "start" b8 .none, En h9 "elems" b9 (.ref a8), En h10 "datas" b10 (.ref a9), En h11 "customs" b11 (.ref a10)] 11), (a3, listOf (List.toArray vs) n), (a6, listOf (List.toArray gs) n'), (a7, listOf #[] 0), (a8, listOf #[] 0), (a9, listOf #[] 0), (a10, listOf #[] 0)]
  have up : ∀ a o, Mem tl a o → Mem (T0 ++ tl) a o := fun a o z => List.mem_append_right _ z
  have lo : ∀ a o, Mem T0 a o → Mem (T0 ++ tl) a o := fun a o z => List.mem_append_left _ z
  refine ⟨T0 ++ tl, new_of hg NF (fun p hp => ?_) (allNe_iff.mpr fun p hp => ?_), ?_⟩
  · rcases List.mem_append.mp hp with hp | hp
    · simp only [T0, List.mem_cons, List.not_mem_nil, or_false] at hp ⊢; grind
    · simp only [List.mem_cons]; grind
  · rcases List.mem_append.mp hp with hp | hp
    · simp only [T0, List.mem_cons, List.not_mem_nil, or_false] at hp
      rcases hp with rfl | rfl | rfl | rfl | rfl | rfl | rfl | rfl <;> (dsimp only; omega)
    · exact (hoff p hp).2.2.2.2
  · exact ⟨dx, h1, h2, h3, h4, h5, h6, h7, h8, h9, h10, h11, b1, b2, b3, b4, b5, b6, b7, b8, b9, b10, b11, K1, K2, a3, K4, K5, a6, a7, a8, a9, a10, ys, zs, vs, ts, ms, gs, _, _, _, _, _, _,
      lo _ _ (.head _), lo _ _ (.tail _ (.head _)), up _ _ k1, up _ _ k2, lo _ _ (.tail _ (.tail _ (.head _))), up _ _ k4, up _ _ k5, lo _ _ (.tail _ (.tail _ (.tail _ (.head _)))), lo _ _ (.tail _ (.tail _ (.tail _ (.tail _ (.head _))))), lo _ _ (.tail _ (.tail _ (.tail _ (.tail _ (.tail _ (.head _)))))), lo _ _ (.tail _ (.tail _ (.tail _ (.tail _ (.tail _ (.tail _ (.head _))))))), lo _ _ (.tail _ (.tail _ (.tail _ (.tail _ (.tail _ (.tail _ (.tail _ (.head _)))))))),
      v1.mono fun _ _ z => z.mono up, v2.mono fun _ _ z => z.mono up, v3.mono fun _ _ z => z.mono up, v4.mono fun _ _ z => z.mono up, v5.mono fun _ _ z => z.mono up, v6.mono fun _ _ z => z.mono up⟩
end
section
theorem rows_C7_1 : True := by
  k_with_none
  k_with "call ref" => (k_here; (with_reducible show wpAny _ _ (call (Value.ref 388) [Value.ref _, Value.int _ _]) _ _ _); k_dflt (refine' take_use ?H ?F ?N ?U ?lv ?D ?m ?m2 ?_; (case H => assumption); (case F => k_asm); (case N => k_asm); (case U => (intro oX; k_upd)); (case lv => decide); (case D => assumption); (case m => omega); (case m2 => omega)); intro v'ᵣ t'ᵣ o'ᵣ h'ᵣ tk'ᵣ hv1 hDo'ᵣ F'ᵣ N'ᵣ; (try k_sweep))
  k_with "call ref" => (k_here; (with_reducible show wpAny _ _ (call (Value.ref 395) [Value.ref _]) _ _ _); k_dflt (refine' kind_use ?H ?F ?N ?U ?lv ?D ?_; (case H => assumption); (case F => k_asm); (case N => k_asm); (case U => (intro oX; k_upd)); (case lv => decide); (case D => assumption)); intro v'ᵣ t'ᵣ o'ᵣ h'ᵣ tk'ᵣ hDo'ᵣ F'ᵣ N'ᵣ; (try k_sweep))
  k_with "call ref" => (k_here; (with_reducible show wpAny _ _ (call (Value.ref 407) [Value.ref _]) _ _ _); k_dflt (refine' ends_use ?H ?F ?N ?U ?lv ?D ?_; (case H => assumption); (case F => k_asm); (case N => k_asm); (case U => (intro oX; k_upd)); (case lv => decide); (case D => assumption)); intro a'ᵣ l'ᵣ t'ᵣ mv'ᵣ mo'ᵣ o'ᵣ h'ᵣ tk'ᵣ hDo'ᵣ hl0'ᵣ hmo'ᵣ hne'ᵣ F'ᵣ N'ᵣ; (replace hne'ᵣ := neF hne'ᵣ); (try k_sweep))
  k_with "call ref" => (k_here; (with_reducible show wpAny _ _ (call (Value.ref 414) [Value.ref _]) _ _ _); k_dflt (refine' table_use ?H ?F ?N ?U ?lv ?D ?_; (case H => assumption); (case F => k_asm); (case N => k_asm); (case U => (intro oX; k_upd)); (case lv => decide); (case D => assumption)); intro a'ᵣ k'ᵣ tk1'ᵣ l'ᵣ t'ᵣ mv'ᵣ mo'ᵣ o'ᵣ h'ᵣ tk'ᵣ hDo'ᵣ hl0'ᵣ hmo'ᵣ hne'ᵣ F'ᵣ N'ᵣ; (replace hne'ᵣ := neF hne'ᵣ); (try k_sweep))
  k_with "call ref" => (k_here; (with_reducible show wpAny _ _ (call (Value.ref 421) [Value.ref _]) _ _ _); k_dflt (refine' cell_use ?H ?F ?N ?U ?lv ?D ?_; (case H => assumption); (case F => k_asm); (case N => k_asm); (case U => (intro oX; k_upd)); (case lv => decide); (case D => assumption)); intro a'ᵣ k'ᵣ tk1'ᵣ l'ᵣ t'ᵣ o'ᵣ h'ᵣ tk'ᵣ hDo'ᵣ hne'ᵣ F'ᵣ N'ᵣ; (replace hne'ᵣ := neF hne'ᵣ); (try k_sweep))
  k_with "call ref" => (k_here; (with_reducible show wpAny _ _ (call (Value.ref 400) [Value.ref _, Value.int 3 _]) _ _ _); k_dflt (refine' some_use ?H ?F ?N ?U ?lv ?D ?_; (case H => assumption); (case F => k_asm); (case N => k_asm); (case U => (intro oX; k_upd)); (case lv => decide); (case D => assumption)); intro a'ᵣ vs'ᵣ ks'ᵣ o'ᵣ h'ᵣ tk'ᵣ hDo'ᵣ hi'ᵣ hl'ᵣ hne'ᵣ F'ᵣ N'ᵣ; (replace hne'ᵣ := neF hne'ᵣ); (try k_sweep))
  k_with "CompSrc" => (k_here; k_dflt (refine LCg.CompSrc.range (by rfl) (by k_asm) (by k_asm) (by assumption) (small_one (by omega) (by omega) (by omega) (by omega)) (rangeSize_nat _ _) (by rw [PySem.sizeLine_eq]; omega) ?_; intro g'ᵣ; refine comp_inv (by assumption) ?ci0 ?ciT ?ciF))
  k_with "call ref" => (k_here; (with_reducible show wpAny _ _ (call (Value.ref 428) [Value.ref _, Value.int _ _]) _ _ _); k_dflt (refine' import_use ?H ?F ?N ?U ?T ?lv ?D ?m ?_; (case H => assumption); (case F => k_asm); (case N => k_asm); (case U => (intro oX; k_upd)); (case T => (intro oX tX; walk_at "m_tl")); (case lv => decide); (case D => assumption); (case m => omega)); intro v'ᵣ i'ᵣ tl'ᵣ o'ᵣ h'ᵣ tk'ᵣ hDo'ᵣ hiv'ᵣ hoff'ᵣ F'ᵣ N'ᵣ; (try k_sweep))
  k_with "call ref" => (k_here; (with_reducible show wpAny _ _ (call (Value.ref 372) _) _ _ _); k_dflt (refine' modnew_use ?H ?F ?N ?X ?lv ?mn; (case H => assumption); (case F => k_asm); (case N => k_asm); (case X => assumption); (case lv => decide)))
  k_with "pyIter ref" => ((with_reducible show wpAny _ _ (pyIter (Value.ref _)) (fun it s₂ => LoopAtV _ _ _ _ _ _ _ _ _ it s₂) _ _); (with_unfolding_all refine' for_range ?kJ (by rfl) ?k1 ?k2 (rangeSize_nat _ _) ?k3 ?k4 ?fr0 ?frT ?frF; (case kJ => assumption); (case k1 => assumption); (case k2 => exact small_one (by omega) (by omega) (by omega) (by omega)); (case k3 => k_asm); (case k4 => k_asm)))
  k_with "exec For Name Call cons nil" => (k_here; (rename Fr _ _ _ _ => lF'ᵣ); (with_unfolding_all refine' For_invVF lF'ᵣ ?k1 ?k2 ?_; (case k1 => exact rfl); (case k2 => exact rfl); k_whole))
  k_with "call builtin:len" => (k_here; (with_reducible show wpAny _ _ (call (Value.builtin _) [Value.ref _]) _ _ _); k_dflt (refine' my_len ?N ?m ?l ?_; (case N => k_asm); (case m => k_mem); (case l => ((have hLX := AllV.length (by assumption)); omega))))
  trivial
local macro_rules | `(tactic| k_all) => `(tactic| (intro pX hpX; have hqX := OffM.out (by assumption) pX hpX; first | exact hqX.1 | exact hqX.2.1 | exact hqX.2.2.1 | exact hqX.2.2.2.1 | exact hqX.2.2.2.2))
theorem stop {P : Prop} (h : Later2 P) : P := h
theorem rows_C7_2 : True := by
  k_with "eval ListComp" => (k_here; refine stop ?_)
  k_with "exec For Name Call cons nil" => (k_here; refine stop ?_)
  k_with "storeName" => (k_here; (with_reducible show wpAny _ _ (storeName _ (Str.ofString "many") _) _ _ _); refine stop ?_)
  k_with "call type:range" => (k_here; (rename Fr _ _ _ _ => rF'ᵣ); (rename News _ _ _ _ => rN'ᵣ); (with_unfolding_all refine range1_rows rF'ᵣ rN'ᵣ ?_); intro _ _ _ _ _ _ _ _ _)
  trivial
section
variable {w : World} {mean : ExcName → Option Value} {mg mb : Str → Option Value} {A A₀ : Around} {base G g : Heap} {outer : List Env} {env : Env} {s : Shared} {Q E : Value → Shared → Prop} {D L : Addr} {m : Str → Option Value} {led : List (Addr × Obj)} {o : Obj}
set_option maxHeartbeats 8000000 in
theorem module_ok (C : At 70 w mean mg mb A base outer G s.heap) (hD : Digs s.heap D) (hG : G.get? D = none)
    (h : ∀ x T M h' tk', ExtBut D s.heap h' → Digs h' D → New s.heap h' T → ModV (Mem T) x M → M.Ok → Q (.ref x) { s with heap := h', toks := tk' }) :
    wpAny (model PySem.Challenge.pw_nm0133_01 w) A (call (.ref 433) [.ref D]) Q E s := by
  obtain ⟨o, hD, hO⟩ := hD
  obtain ⟨hd0, dp, fr, gd, un⟩ := A
  obtain rfl : hd0 = none := C.hand
  obtain rfl : fr = some outer := C.B.stack
  refine wpAny_call ?_
  refine' enterC [(D, o)] [(Str.ofString "digits", .ref D)] C (by decide) (one_led hD hG) ?k6 ?k7 ?k9 ?kB ?c2 ?c3 ?c4 ?c5 ?_
  case k6 => k_is
  case k7 => k_is
  case k9 => exact BindsTo.of_eq rfl
  case kB => exact rfl
  case c2 => exact rfl
  case c3 => exact rfl
  case c4 => exact rfl
  case c5 => decide +kernel
  intro g L' h₁ tkc cells hg hlt F' N' Y X' T' H hd hu hA
  have B' := H.B
  clear C hD hG
  have hcell := CellsAre.two Y
  obtain ⟨oc2, oc1, he, hoc2, hoc1⟩ := hcell
  subst he
  clear Y
  replace hoc1 : oc1.data = .cell (some (.ref D)) := hoc1
  replace hoc2 : oc2.data = .cell none := hoc2
  simp only [AllLt, and_true] at hlt
  simp only [List.cons_append, List.nil_append] at N'
  walk_at "m_go"
  unfold Later2
  intro x dx a3 a6 a7 a8 a9 a10 v1 v2 v4 v5 h1 h2 h3 h4 h5 h6 h7 h8 h9 h10 h11 b1 b2 b3 b4 b5 b6 b7 b8 b9 b10 b11 h₂ tk₂ r1 r2 r3 r4 r5 r6 r7 r8 F' N'
  simp only [AllLt, and_true] at r1
  obtain ⟨sp1, sp2, sp3, sp4, sp5, sp6, sp7, sp8, sp9, sp10⟩ := mod_sep r1 (Nat.lt_succ_of_lt hlt) r2 r3 r4 r5 r6 r7 r8
  replace N' : News g L' h₂ (ledM x dx (dictOf [En h1 "kinds" b1 v1, En h2 "imports" b2 v2, En h3 "funcs" b3 (.ref a3), En h4 "tables" b4 v4, En h5 "memories" b5 v5, En h6 "globals" b6 (.ref a6), En h7 "exports" b7 (.ref a7), En h8 "start" b8 .none, En h9 "elems" b9 (.ref a8), En h10 "datas" b10 (.ref a9), En h11 "customs" b11 (.ref a10)] 11) a3 (listOf #[] 0) a6 (listOf #[] 0) a7 a8 a9 a10 (L' + 1) oc1 (L' + 1 + 1) oc2 D o []) := N'
  k_steps
  unfold Later2
  (with_reducible rename Fr _ _ _ _ => FK)
  replace FK : Fr g L' _ (fun y => if y = Str.ofString "module" then some (.ref x) else none) := FK
  have hCI : CI (CM KindV x dx (dictOf [En h1 "kinds" b1 v1, En h2 "imports" b2 v2, En h3 "funcs" b3 (.ref a3), En h4 "tables" b4 v4, En h5 "memories" b5 v5, En h6 "globals" b6 (.ref a6), En h7 "exports" b7 (.ref a7), En h8 "start" b8 .none, En h9 "elems" b9 (.ref a8), En h10 "datas" b10 (.ref a9), En h11 "customs" b11 (.ref a10)] 11) a3 (listOf #[] 0) a6 (listOf #[] 0) a7 a8 a9 a10 (L' + 1) oc1 (L' + 1 + 1) oc2 D []) := trivial
  refine LCg.ListComp_U (F₀ := by k_asm) (by with_unfolding_all rfl) (by decide) (by rfl) (by decide) (by rfl) ?_
  k_steps
  case ci0 => exact ⟨_, [], [], by assumption, .nil, rfl, .nil, (fun _ hp => (nomatch hp)), rfl⟩
  case ciT =>
    clear hCI
    intro i ys nw v IA oI C oC Da m₂ h₃ tk E' hin hI hv hC hx F' N' off ne
    obtain ⟨o', tl, xs, hdo, hxs, hlen, hoff, hT, rfl⟩ := hI
    have off0 := off
    obtain ⟨offI, offC, offA⟩ := off3_ne off
    clear off
    dsimp only [ledM] at N'
    (try k_unmd)
    k_fold
    k_steps
    (with_reducible rename News _ _ _ _ => NF)
    exact kinds_end (by assumption) NF (by assumption) (by assumption) (by assumption) (by assumption) (by assumption) (off8_lt (by assumption)) (by assumption) (by assumption) hxs hlen hoff hT off0
  case ciF =>
    clear hCI
    intro ys nw hI
    obtain ⟨o', tl1, xs, hdo, hxs, hlen, hoff, _, rfl⟩ := hI
    unfold LCg.FinE
    intro K1 h₃ tk₃ F' N' q1
    replace N' : News g L' h₃ (ledM x dx (dictOf [En h1 "kinds" b1 v1, En h2 "imports" b2 v2, En h3 "funcs" b3 (.ref a3), En h4 "tables" b4 v4, En h5 "memories" b5 v5, En h6 "globals" b6 (.ref a6), En h7 "exports" b7 (.ref a7), En h8 "start" b8 .none, En h9 "elems" b9 (.ref a8), En h10 "datas" b10 (.ref a9), En h11 "customs" b11 (.ref a10)] 11) a3 (listOf #[] 0) a6 (listOf #[] 0) a7 a8 a9 a10 (L' + 1) oc1 (L' + 1 + 1) oc2 D o' ((K1, LCg.lst ys) :: tl1)) := fun p hp => N' p (by simp only [List.mem_cons] at hp ⊢; grind)
    dsimp only [ledM] at N'
    replace q1 := off1_ne q1
    have hxl : xs.length ≤ 3 := by omega
    have hyl : ys.length = xs.length := hxs.length
    k_steps
    unfold Later2
    refine' storeX_C ?F ?N ?c ?U hoc2 ?_ ?a ?b
    case a => rfl
    case b => rfl
    case F => k_asm
    case N => k_asm
    case c => rfl
    case U => k_updF
    intro h₄ oc3 F' N' hoc3
    dsimp only at N'
    clear hoc2
    have hks : AllV (KindV (Mem ((K1, LCg.lst ys) :: tl1))) ys xs := hxs.mono fun v x q => q.mono fun a o z => List.mem_cons_of_mem _ z
    have hK : (K1, LCg.lst ys) ∈ (K1, LCg.lst ys) :: tl1 := List.mem_cons_self
    have hoff2 : OffM dx a3 a6 (L' + 1 + 1) D ((K1, LCg.lst ys) :: tl1) := OffM.cons (ne5 q1) hoff
    clear hxs hoff
    generalize (K1, LCg.lst ys) :: tl1 = tl2 at N' hks hK hoff2
    k_steps
    unfold Later2
    have hCI : CI (CM ImpV x dx (dictOf [En h1 "kinds" b1 (.ref K1), En h2 "imports" b2 v2, En h3 "funcs" b3 (.ref a3), En h4 "tables" b4 v4, En h5 "memories" b5 v5, En h6 "globals" b6 (.ref a6), En h7 "exports" b7 (.ref a7), En h8 "start" b8 .none, En h9 "elems" b9 (.ref a8), En h10 "datas" b10 (.ref a9), En h11 "customs" b11 (.ref a10)] 11) a3 (listOf #[] 0) a6 (listOf #[] 0) a7 a8 a9 a10 (L' + 1) oc1 (L' + 1 + 1) oc3 D tl2) := trivial
    refine LCg.ListComp_U (F₀ := by k_asm) (by with_unfolding_all rfl) (by decide) (by rfl) (by decide) (by rfl) ?_
    k_steps
    case ci0 => exact ⟨_, tl2, [], by assumption, .nil, rfl, hoff2, fun _ hp => hp, rfl⟩
    case ciT =>
      clear hCI
      intro i zs nw v IA oI C oC Da m₂ h₃ tk E' hin hI hv hC hx F' N' off ne
      obtain ⟨o', tl, is, hdo, his, hlen, hoff, hT, rfl⟩ := hI
      have off0 := off
      obtain ⟨offI, offC, offA⟩ := off3_ne off
      clear off
      dsimp only [ledM] at N'
      (try k_unmd)
      k_fold
      k_steps
      (with_reducible rename News _ _ _ _ => NF)
      (with_reducible rename OffL _ _ => OF)
      exact comp_endM ImpV (fun P P' v x hp q => q.mono hp) (by assumption) NF (by assumption) (off8_offL OF) (by assumption) his hlen hoff hT off0
    case ciF =>
      clear hCI
      intro zs nw hI
      obtain ⟨o2, tl3, is, hdo, his, hlen2, hoff3, hT, rfl⟩ := hI
      unfold LCg.FinE
      intro K2 h₅ tk₅ F' N' q2
      replace N' : News g L' h₅ (ledM x dx (dictOf [En h1 "kinds" b1 (.ref K1), En h2 "imports" b2 v2, En h3 "funcs" b3 (.ref a3), En h4 "tables" b4 v4, En h5 "memories" b5 v5, En h6 "globals" b6 (.ref a6), En h7 "exports" b7 (.ref a7), En h8 "start" b8 .none, En h9 "elems" b9 (.ref a8), En h10 "datas" b10 (.ref a9), En h11 "customs" b11 (.ref a10)] 11) a3 (listOf #[] 0) a6 (listOf #[] 0) a7 a8 a9 a10 (L' + 1) oc1 (L' + 1 + 1) oc3 D o2 ((K2, LCg.lst zs) :: tl3)) := fun p hp => N' p (by simp only [List.mem_cons] at hp ⊢; grind)
      dsimp only [ledM] at N'
      replace q2 := off1_ne q2
      have hil : is.length ≤ 4 := by omega
      k_steps
      unfold Later2
      replace hks : AllV (KindV (Mem ((K2, LCg.lst zs) :: tl3))) ys xs := hks.mono fun v x q => q.mono fun a o z => List.mem_cons_of_mem _ (hT _ z)
      replace hK : (K1, LCg.lst ys) ∈ (K2, LCg.lst zs) :: tl3 := List.mem_cons_of_mem _ (hT _ hK)
      replace his : AllV (ImpV (Mem ((K2, LCg.lst zs) :: tl3))) zs is := his.mono fun v x q => q.mono fun a o z => List.mem_cons_of_mem _ z
      have hK2 : (K2, LCg.lst zs) ∈ (K2, LCg.lst zs) :: tl3 := List.mem_cons_self
      replace hoff2 : OffM dx a3 a6 (L' + 1 + 1) D ((K2, LCg.lst zs) :: tl3) := OffM.cons (ne5 q2) hoff3
      clear hoff3 hT
      (with_reducible rename News _ _ _ _ => NF)
      (with_reducible rename Fr _ _ _ _ => FK)
      generalize (K2, LCg.lst zs) :: tl3 = tl4 at NF hks hK his hK2 hoff2
      have hJM : JM (LJ FuncV x dx a3 a6 (L' + 1 + 1) D (fun vs n o tl => ledM x dx (dictOf [En h1 "kinds" b1 (.ref K1), En h2 "imports" b2 (.ref K2), En h3 "funcs" b3 (.ref a3), En h4 "tables" b4 v4, En h5 "memories" b5 v5, En h6 "globals" b6 (.ref a6), En h7 "exports" b7 (.ref a7), En h8 "start" b8 .none, En h9 "elems" b9 (.ref a8), En h10 "datas" b10 (.ref a9), En h11 "customs" b11 (.ref a10)] 11) a3 (listOf (List.toArray vs) n) a6 (listOf #[] 0) a7 a8 a9 a10 (L' + 1) oc1 (L' + 1 + 1) oc3 D o tl) tl4) := trivial
      refine' For_invVF FK ?k1 ?k2 ?_
      case k1 => exact rfl
      case k2 => exact rfl
      k_steps
      case fr0 =>
        refine ⟨fun z h1 h2 h3 => ?_, _, tl4, [], _, [], by assumption, .nil, rfl, hoff2, fun _ hp => hp, rfl⟩
        simp
      case frT =>
        clear hJM
        intro i t m₁ nw h₆ tk I oI hin hJ F' N' hne
        obtain ⟨hm, o3, tl, vs, n, fs, hdo, hfs, hlen, hoff, hT, rfl⟩ := hJ
        obtain ⟨u1, u2, u3, rfl⟩ := hm.canon
        have hneK := neF hne
        clear hne
        dsimp only [ledM] at N'
        replace F' : Fr g L' h₆ _ := F'
        replace N' : News g L' h₆ _ := N'
        have hvl : vs.length = fs.length := hfs.length
        (try k_unmd)
        k_fold
        k_steps
        (with_reducible rename News _ _ _ _ => NF)
        (with_reducible rename Fr _ _ _ _ => FF)
        exact func_end NF FF (fun z k1 k2 k3 => by simp [k1, k2, k3]) (by assumption) (by assumption) (by assumption) hneK (lt_head (by assumption)) (lt_conj (by assumption)) (lt_led (by assumption)) (by assumption) hfs hlen hoff hT
      case frF =>
        clear hJM
        intro m₁ nw h₆ tk₆ hJ F' N'
        obtain ⟨hm, o3, tl5, vs, n, fs, hdo, hfs, hlen3, hoff5, hT, rfl⟩ := hJ
        obtain ⟨u1, u2, u3, rfl⟩ := hm.canon
        replace F' : Fr g L' h₆ _ := F'
        replace N' : News g L' h₆ _ := N'
        dsimp only [ledM] at N'
        replace hks : AllV (KindV (Mem tl5)) ys xs := hks.mono fun v x q => q.mono fun a o z => hT _ z
        replace hK : (K1, LCg.lst ys) ∈ tl5 := hT _ hK
        replace his : AllV (ImpV (Mem tl5)) zs is := his.mono fun v x q => q.mono fun a o z => hT _ z
        replace hK2 : (K2, LCg.lst zs) ∈ tl5 := hT _ hK2
        clear hT hoff2
        have hfl : fs.length ≤ 3 := by omega
        dsimp only
        k_steps
        unfold Later2
        have hCI : CI (CM TabV x dx (dictOf [En h1 "kinds" b1 (.ref K1), En h2 "imports" b2 (.ref K2), En h3 "funcs" b3 (.ref a3), En h4 "tables" b4 v4, En h5 "memories" b5 v5, En h6 "globals" b6 (.ref a6), En h7 "exports" b7 (.ref a7), En h8 "start" b8 .none, En h9 "elems" b9 (.ref a8), En h10 "datas" b10 (.ref a9), En h11 "customs" b11 (.ref a10)] 11) a3 (listOf (List.toArray vs) n) a6 (listOf #[] 0) a7 a8 a9 a10 (L' + 1) oc1 (L' + 1 + 1) oc3 D tl5) := trivial
        refine LCg.ListComp_U (F₀ := by k_asm) (by with_unfolding_all rfl) (by decide) (by rfl) (by decide) (by rfl) ?_
        k_steps
        case ci0 => exact ⟨_, tl5, [], by assumption, .nil, rfl, (by assumption), fun _ hp => hp, rfl⟩
        case ciT =>
          clear hCI
          intro i ts nw v IA oI C oC Da m₂ h₃ tk E' hin hI hv hC hx F' N' off ne
          obtain ⟨o', tl, tbs, hdo, hos, hlen, hoff, hT, rfl⟩ := hI
          have off0 := off
          obtain ⟨offI, offC, offA⟩ := off3_ne off
          clear off
          dsimp only [ledM] at N'
          (try k_unmd)
          k_fold
          k_steps
          (with_reducible rename News _ _ _ _ => NF)
          (with_reducible rename Fr _ _ _ _ => FF)
          exact one_end TabV (fun P P' v x hp q => q.mono hp) FF NF (by assumption) (by assumption) (tabV_at (by assumption) (by assumption)) hos hlen hoff hT off0
        case ciF =>
          clear hCI
          intro ts nw hI
          obtain ⟨o', tl', tbs, hdo, htbs, hlenK4, hoff', hT, rfl⟩ := hI
          unfold LCg.FinE
          intro K4 h₅ tk₅ F' N' q2
          replace N' : News g L' h₅ (ledM x dx (dictOf [En h1 "kinds" b1 (.ref K1), En h2 "imports" b2 (.ref K2), En h3 "funcs" b3 (.ref a3), En h4 "tables" b4 v4, En h5 "memories" b5 v5, En h6 "globals" b6 (.ref a6), En h7 "exports" b7 (.ref a7), En h8 "start" b8 .none, En h9 "elems" b9 (.ref a8), En h10 "datas" b10 (.ref a9), En h11 "customs" b11 (.ref a10)] 11) a3 (listOf (List.toArray vs) n) a6 (listOf #[] 0) a7 a8 a9 a10 (L' + 1) oc1 (L' + 1 + 1) oc3 D o' ((K4, LCg.lst ts) :: tl')) := fun p hp => N' p (by simp only [List.mem_cons] at hp ⊢; grind)
          dsimp only [ledM] at N'
          replace q2 := off1_ne q2
          have htl : tbs.length ≤ 2 := by omega
          k_steps
          unfold Later2
          replace hks : AllV (KindV (Mem ((K4, LCg.lst ts) :: tl'))) ys xs := hks.mono fun v x q => q.mono fun a o z => List.mem_cons_of_mem _ (hT _ z)
          replace hK : (K1, LCg.lst ys) ∈ (K4, LCg.lst ts) :: tl' := List.mem_cons_of_mem _ (hT _ hK)
          replace his : AllV (ImpV (Mem ((K4, LCg.lst ts) :: tl'))) zs is := his.mono fun v x q => q.mono fun a o z => List.mem_cons_of_mem _ (hT _ z)
          replace hK2 : (K2, LCg.lst zs) ∈ (K4, LCg.lst ts) :: tl' := List.mem_cons_of_mem _ (hT _ hK2)
          replace hfs : AllV (FuncV (Mem ((K4, LCg.lst ts) :: tl'))) vs fs := hfs.mono fun v x q => q.mono fun a o z => List.mem_cons_of_mem _ (hT _ z)
          replace htbs : AllV (TabV (Mem ((K4, LCg.lst ts) :: tl'))) ts tbs := htbs.mono fun v x q => q.mono fun a o z => List.mem_cons_of_mem _ z
          have hK4 : (K4, LCg.lst ts) ∈ (K4, LCg.lst ts) :: tl' := List.mem_cons_self
          replace hoff' : OffM dx a3 a6 (L' + 1 + 1) D ((K4, LCg.lst ts) :: tl') := OffM.cons (ne5 q2) hoff'
          clear hoff5 hT
          (with_reducible rename News _ _ _ _ => NF)
          generalize (K4, LCg.lst ts) :: tl' = tl6 at NF hks hK his hK2 hfs htbs hK4 hoff'
          have hCI : CI (CM MemV x dx (dictOf [En h1 "kinds" b1 (.ref K1), En h2 "imports" b2 (.ref K2), En h3 "funcs" b3 (.ref a3), En h4 "tables" b4 (.ref K4), En h5 "memories" b5 v5, En h6 "globals" b6 (.ref a6), En h7 "exports" b7 (.ref a7), En h8 "start" b8 .none, En h9 "elems" b9 (.ref a8), En h10 "datas" b10 (.ref a9), En h11 "customs" b11 (.ref a10)] 11) a3 (listOf (List.toArray vs) n) a6 (listOf #[] 0) a7 a8 a9 a10 (L' + 1) oc1 (L' + 1 + 1) oc3 D tl6) := trivial
          refine LCg.ListComp_U (F₀ := by k_asm) (by with_unfolding_all rfl) (by decide) (by rfl) (by decide) (by rfl) ?_
          k_steps
          case ci0 => exact ⟨_, tl6, [], by assumption, .nil, rfl, (by assumption), fun _ hp => hp, rfl⟩
          case ciT =>
            clear hCI
            intro i ms nw v IA oI C oC Da m₂ h₃ tk E' hin hI hv hC hx F' N' off ne
            obtain ⟨o', tl, mms, hdo, hos, hlen, hoff, hT, rfl⟩ := hI
            have off0 := off
            obtain ⟨offI, offC, offA⟩ := off3_ne off
            clear off
            dsimp only [ledM] at N'
            (try k_unmd)
            k_fold
            k_steps
            (with_reducible rename News _ _ _ _ => NF)
            (with_reducible rename Fr _ _ _ _ => FF)
            exact one_end MemV (fun P P' v x hp q => q.mono hp) FF NF (by assumption) (by assumption) (memV_at (by assumption) (by assumption)) hos hlen hoff hT off0
          case ciF =>
            clear hCI
            intro ms nw hI
            obtain ⟨o', tl', mms, hdo, hmms, hlenK5, hoff', hT, rfl⟩ := hI
            unfold LCg.FinE
            intro K5 h₅ tk₅ F' N' q2
            replace N' : News g L' h₅ (ledM x dx (dictOf [En h1 "kinds" b1 (.ref K1), En h2 "imports" b2 (.ref K2), En h3 "funcs" b3 (.ref a3), En h4 "tables" b4 (.ref K4), En h5 "memories" b5 v5, En h6 "globals" b6 (.ref a6), En h7 "exports" b7 (.ref a7), En h8 "start" b8 .none, En h9 "elems" b9 (.ref a8), En h10 "datas" b10 (.ref a9), En h11 "customs" b11 (.ref a10)] 11) a3 (listOf (List.toArray vs) n) a6 (listOf #[] 0) a7 a8 a9 a10 (L' + 1) oc1 (L' + 1 + 1) oc3 D o' ((K5, LCg.lst ms) :: tl')) := fun p hp => N' p (by simp only [List.mem_cons] at hp ⊢; grind)
            dsimp only [ledM] at N'
            replace q2 := off1_ne q2
            have hml : mms.length ≤ 2 := by omega
            k_steps
            unfold Later2
            replace hks : AllV (KindV (Mem ((K5, LCg.lst ms) :: tl'))) ys xs := hks.mono fun v x q => q.mono fun a o z => List.mem_cons_of_mem _ (hT _ z)
            replace hK : (K1, LCg.lst ys) ∈ (K5, LCg.lst ms) :: tl' := List.mem_cons_of_mem _ (hT _ hK)
            replace his : AllV (ImpV (Mem ((K5, LCg.lst ms) :: tl'))) zs is := his.mono fun v x q => q.mono fun a o z => List.mem_cons_of_mem _ (hT _ z)
            replace hK2 : (K2, LCg.lst zs) ∈ (K5, LCg.lst ms) :: tl' := List.mem_cons_of_mem _ (hT _ hK2)
            replace hfs : AllV (FuncV (Mem ((K5, LCg.lst ms) :: tl'))) vs fs := hfs.mono fun v x q => q.mono fun a o z => List.mem_cons_of_mem _ (hT _ z)
            replace htbs : AllV (TabV (Mem ((K5, LCg.lst ms) :: tl'))) ts tbs := htbs.mono fun v x q => q.mono fun a o z => List.mem_cons_of_mem _ (hT _ z)
            replace hK4 : (K4, LCg.lst ts) ∈ (K5, LCg.lst ms) :: tl' := List.mem_cons_of_mem _ (hT _ hK4)
            replace hmms : AllV (MemV (Mem ((K5, LCg.lst ms) :: tl'))) ms mms := hmms.mono fun v x q => q.mono fun a o z => List.mem_cons_of_mem _ z
            have hK5 : (K5, LCg.lst ms) ∈ (K5, LCg.lst ms) :: tl' := List.mem_cons_self
            replace hoff' : OffM dx a3 a6 (L' + 1 + 1) D ((K5, LCg.lst ms) :: tl') := OffM.cons (ne5 q2) hoff'
            clear hT
            (with_reducible rename News _ _ _ _ => NF)
            (with_reducible rename Fr _ _ _ _ => FK)
            generalize (K5, LCg.lst ms) :: tl' = tl7 at NF hks hK his hK2 hfs htbs hK4 hmms hK5 hoff'
            have hJM : JM (LJ GlobV x dx a3 a6 (L' + 1 + 1) D (fun gs n' o tl => ledM x dx (dictOf [En h1 "kinds" b1 (.ref K1), En h2 "imports" b2 (.ref K2), En h3 "funcs" b3 (.ref a3), En h4 "tables" b4 (.ref K4), En h5 "memories" b5 (.ref K5), En h6 "globals" b6 (.ref a6), En h7 "exports" b7 (.ref a7), En h8 "start" b8 .none, En h9 "elems" b9 (.ref a8), En h10 "datas" b10 (.ref a9), En h11 "customs" b11 (.ref a10)] 11) a3 (listOf (List.toArray vs) n) a6 (listOf (List.toArray gs) n') a7 a8 a9 a10 (L' + 1) oc1 (L' + 1 + 1) oc3 D o tl) tl7) := trivial
            refine' For_invVF FK ?k1 ?k2 ?_
            case k1 => exact rfl
            case k2 => exact rfl
            k_steps
            case fr0 =>
              refine ⟨fun z k1 k2 k3 => ?_, _, tl7, [], _, [], by assumption, .nil, rfl, hoff', fun _ hp => hp, rfl⟩
              simp [k1, k2, k3]
            case frT =>
              clear hJM
              intro i t m₁ nw h₆ tk I oI hin hJ F' N' hne
              obtain ⟨hm, o3, tl, gs, n', gbs, hdo, hgs, hlen, hoff, hT, rfl⟩ := hJ
              obtain ⟨u1, u2, u3, rfl⟩ := hm.canon
              have hneK := neF hne
              clear hne
              dsimp only [ledM] at N'
              replace F' : Fr g L' h₆ _ := F'
              replace N' : News g L' h₆ _ := N'
              have hgl : gs.length = gbs.length := hgs.length
              (try k_unmd)
              k_fold
              k_steps
              (with_reducible rename News _ _ _ _ => NF)
              (with_reducible rename Fr _ _ _ _ => FF)
              exact glob_end NF FF (fun z k1 k2 k3 => by simp [k1, k2, k3]) (by assumption) hneK (lt_head (by assumption)) (lt_conj (by assumption)) (lt_conj (by assumption)) (lt_led (by assumption)) (by assumption) hgs hlen hoff hT
            case frF =>
              clear hJM
              intro m₁ nw h₆ tk₆ hJ F' N'
              obtain ⟨hm, o3, tl8, gs, n', gbs, hdo, hgs, hlen6, hoff8, hT, rfl⟩ := hJ
              obtain ⟨u1, u2, u3, rfl⟩ := hm.canon
              replace F' : Fr g L' h₆ _ := F'
              replace N' : News g L' h₆ _ := N'
              dsimp only [ledM] at N'
              dsimp only
              k_steps
              dsimp only
              k_steps
              have hgl : gbs.length ≤ 3 := by omega
              obtain ⟨T, q1, q2⟩ := mod_end (M := ⟨xs, is, fs, tbs, mms, gbs⟩) hg N' r1.2.2 r2 r3 r4 r5 r6 r7 r8 hoff8 (hT _ hK) (hT _ hK2) (hT _ hK4) (hT _ hK5) (hks.mono fun v x q => q.mono fun a o z => hT _ z) (his.mono fun v x q => q.mono fun a o z => hT _ z) (hfs.mono fun v x q => q.mono fun a o z => hT _ z) (htbs.mono fun v x q => q.mono fun a o z => hT _ z) (hmms.mono fun v x q => q.mono fun a o z => hT _ z) hgs
              exact h _ T _ _ _ (but_of hg (by assumption)) ⟨_, News.get (by assumption) (by k_mem), by assumption⟩ q1 q2 ⟨hxl, hil, hfl, htl, hml, hgl⟩
end
end
theorem rows_C8_1 : True := by
  k_with_none
  k_with "call ref" => (k_here; (with_reducible show wpAny _ _ (call (Value.ref 388) [Value.ref _, Value.int _ _]) _ _ _); k_dflt (refine' take_use ?H ?F ?N ?U ?lv ?D ?m ?m2 ?_; (case H => assumption); (case F => k_asm); (case N => k_asm); (case U => (intro oX; k_upd)); (case lv => decide); (case D => assumption); (case m => omega); (case m2 => omega)); intro v'ᵣ t'ᵣ o'ᵣ h'ᵣ tk'ᵣ hv1 hDo'ᵣ F'ᵣ N'ᵣ; (try k_sweep))
  k_with "call ref" => (k_here; (with_reducible show wpAny _ _ (call (Value.ref 395) [Value.ref _]) _ _ _); k_dflt (refine' kind_use ?H ?F ?N ?U ?lv ?D ?_; (case H => assumption); (case F => k_asm); (case N => k_asm); (case U => (intro oX; k_upd)); (case lv => decide); (case D => assumption)); intro v'ᵣ t'ᵣ o'ᵣ h'ᵣ tk'ᵣ hDo'ᵣ F'ᵣ N'ᵣ; (try k_sweep))
  k_with "call ref" => (k_here; (with_reducible show wpAny _ _ (call (Value.ref 407) [Value.ref _]) _ _ _); k_dflt (refine' ends_use ?H ?F ?N ?U ?lv ?D ?_; (case H => assumption); (case F => k_asm); (case N => k_asm); (case U => (intro oX; k_upd)); (case lv => decide); (case D => assumption)); intro a'ᵣ l'ᵣ t'ᵣ mv'ᵣ mo'ᵣ o'ᵣ h'ᵣ tk'ᵣ hDo'ᵣ hl0'ᵣ hmo'ᵣ hne'ᵣ F'ᵣ N'ᵣ; (replace hne'ᵣ := neF hne'ᵣ); (try k_sweep))
  k_with "call ref" => (k_here; (with_reducible show wpAny _ _ (call (Value.ref 414) [Value.ref _]) _ _ _); k_dflt (refine' table_use ?H ?F ?N ?U ?lv ?D ?_; (case H => assumption); (case F => k_asm); (case N => k_asm); (case U => (intro oX; k_upd)); (case lv => decide); (case D => assumption)); intro a'ᵣ k'ᵣ tk1'ᵣ l'ᵣ t'ᵣ mv'ᵣ mo'ᵣ o'ᵣ h'ᵣ tk'ᵣ hDo'ᵣ hl0'ᵣ hmo'ᵣ hne'ᵣ F'ᵣ N'ᵣ; (replace hne'ᵣ := neF hne'ᵣ); (try k_sweep))
  k_with "call ref" => (k_here; (with_reducible show wpAny _ _ (call (Value.ref 421) [Value.ref _]) _ _ _); k_dflt (refine' cell_use ?H ?F ?N ?U ?lv ?D ?_; (case H => assumption); (case F => k_asm); (case N => k_asm); (case U => (intro oX; k_upd)); (case lv => decide); (case D => assumption)); intro a'ᵣ k'ᵣ tk1'ᵣ l'ᵣ t'ᵣ o'ᵣ h'ᵣ tk'ᵣ hDo'ᵣ hne'ᵣ F'ᵣ N'ᵣ; (replace hne'ᵣ := neF hne'ᵣ); (try k_sweep))
  k_with "call ref" => (k_here; (with_reducible show wpAny _ _ (call (Value.ref 400) [Value.ref _, Value.int 3 _]) _ _ _); k_dflt (refine' some_use ?H ?F ?N ?U ?lv ?D ?_; (case H => assumption); (case F => k_asm); (case N => k_asm); (case U => (intro oX; k_upd)); (case lv => decide); (case D => assumption)); intro a'ᵣ vs'ᵣ ks'ᵣ o'ᵣ h'ᵣ tk'ᵣ hDo'ᵣ hi'ᵣ hl'ᵣ hne'ᵣ F'ᵣ N'ᵣ; (replace hne'ᵣ := neF hne'ᵣ); (try k_sweep))
  k_with "CompSrc" => (k_here; k_dflt (refine LCg.CompSrc.range (by rfl) (by k_asm) (by k_asm) (by assumption) (small_one (by omega) (by omega) (by omega) (by omega)) (rangeSize_nat _ _) (by rw [PySem.sizeLine_eq]; omega) ?_; intro g'ᵣ; refine comp_inv (by assumption) ?ci0 ?ciT ?ciF))
  k_with "call ref" => (k_here; (with_reducible show wpAny _ _ (call (Value.ref 428) [Value.ref _, Value.int _ _]) _ _ _); k_dflt (refine' import_use ?H ?F ?N ?U ?T ?lv ?D ?m ?_; (case H => assumption); (case F => k_asm); (case N => k_asm); (case U => (intro oX; k_upd)); (case T => (intro oX tX; walk_at "m_tl")); (case lv => decide); (case D => assumption); (case m => omega)); intro v'ᵣ i'ᵣ tl'ᵣ o'ᵣ h'ᵣ tk'ᵣ hDo'ᵣ hiv'ᵣ hoff'ᵣ F'ᵣ N'ᵣ; (try k_sweep))
  k_with "call ref" => (k_here; (with_reducible show wpAny _ _ (call (Value.ref 372) _) _ _ _); k_dflt (refine' modnew_use ?H ?F ?N ?X ?lv ?mn; (case H => assumption); (case F => k_asm); (case N => k_asm); (case X => assumption); (case lv => decide)))
  trivial
section
variable {w : World} {mean : ExcName → Option Value} {mg mb : Str → Option Value} {A A₀ : Around} {base G g : Heap} {outer : List Env} {env : Env} {s : Shared} {Q E : Value → Shared → Prop} {D L : Addr} {m : Str → Option Value} {led : List (Addr × Obj)} {o : Obj}
theorem news_mod {h₁ h' g : Heap} {L : Addr} {led T : List (Addr × Obj)} (F : Fr g L h₁ m) (N : News g L h₁ led) (hE : ExtBut D h₁ h') {o' : Obj} {led' : List (Addr × Obj)} (hD' : h'.get? D = some o') (U : Upd D o o' led led') (hT : New h₁ h' T) : News g L h' (T ++ led') := fun p hp => by
  rcases List.mem_append.mp hp with hp | hp
  · exact news_new F N hE hD' U (hT p hp).1 (hT p hp).2 p (by simp)
  · exact news_but N hE hD' U p hp
theorem module_use {led' : Obj → List (Addr × Obj)} {lv : Nat} (H : Hr lv w mean mg mb A₀ A base outer env g L) (F : Fr g L s.heap m) (N : News g L s.heap led) (U : ∀ o', Upd D o o' led (led' o')) (hlv : 70 ≤ lv) (hD : DigO o)
    (h : ∀ x T M o' h' tk', DigO o' → ModV (Mem T) x M → M.Ok → Fr g L h' m → News g L h' (T ++ led' o') → Q (.ref x) { s with heap := h', toks := tk' }) :
    wpAny (model PySem.Challenge.pw_nm0133_01 w) A (call (.ref 433) [.ref D]) Q E s := by
  have hmem := Upd.mem (U o)
  refine module_ok (H.at F N hlv) ⟨o, (N _ hmem).1, hD⟩ (none_in hmem) fun x T M h' tk' hE ⟨o', hD', hd'⟩ hT hM hOk => ?_
  exact h x T M o' h' tk' hd' hM hOk (fr_but F N hmem hE) (news_mod F N hE hD' (U o') hT)
theorem rows_C8_2 : True := by
  k_with "call ref" => (k_here; (with_reducible show wpAny _ _ (call (Value.ref 433) [Value.ref _]) _ _ _); k_dflt (refine' module_use ?H ?F ?N ?U ?lv ?D ?_; (case H => assumption); (case F => k_asm); (case N => k_asm); (case U => (intro oX; k_upd)); (case lv => decide); (case D => assumption)); intro x'ᵣ T'ᵣ M'ᵣ o'ᵣ h'ᵣ tk'ᵣ hDo'ᵣ hMod'ᵣ hOk'ᵣ F'ᵣ N'ᵣ; (try k_sweep))
  trivial
end
theorem rows_C9_1 : True := by
  k_with_none
  trivial
open PySem.Calls in
section
variable {prog : Program} {w : World} {A : Around} {E : Value → Shared → Prop} {h : Heap} {g : Array GenState} {d : Drawn} {t : Nat} {os : OsState}
variable {nm q : Str} {C N : Addr} {bs bm : List Value} {hdct : Bool} {sn : List Str} {sub : List Value} {ab : Bool} {col : Option Bool} {dd : Option Addr} {k0 k1 k2 k3 k5 : Option Value}
/-- the class line behind an own class of exceptions: it ends in Exception's, whatever the classes between hold -/
structure LineOk (bm : List Value) : Prop where
  x : bm.contains (.type "Exception") = true
  b : bm.contains (.type "BaseException") = true
  a : bm.contains (.type "AttributeError") = false
  n : bm.contains (.type "NameError") = false
theorem inv_check (O : LineOk bm) {M : Model} {rest : List Value} {Q : Unit → Shared → Prop} (hC : h.get? C = some (excClassObj nm q C N bs bm hdct sn sub ab col dd k0 k1 k2 k3 k5 "Exception.__new__"))
    (hq : Q () ⟨h, g, d, t, os⟩) : wpAny M A (checkBuiltinCall "Exception.__new__" ⟨.ref C :: rest, []⟩) Q E ⟨h, g, d, t, os⟩ := by
  have F := PySem.F.excBase_Exception
  have hx : (Value.ref C :: bm).contains (.type "Exception") = true := by rw [List.contains_cons, O.x, Bool.or_true]
  have hs := F.noStar
  simp only [checkBuiltinCall, F.newKind, F.newSplit, F.newRow]
  repeat (first | refine wpAny_loadPart_at hC ?_ | (refine wpAny_isSubtype_exc hC ?_; rw [hx]) | refine wpAny_staticBase_exc hC ?_ | refine wpAny_madeBy_exc hC ?_ | simp only [bne_self_eq_false, Bool.false_eq_true, if_false] | wp_step)
  exact hq
theorem inv_new (O : LineOk bm) {R : Result → Shared → Prop} {rest : List Value} (hC : h.get? C = some (excClassObj nm q C N bs bm hdct sn sub ab col dd k0 k1 k2 k3 k5 "Exception.__new__"))
    (hq : R (.ok (.ret (.ref (h.objs.size + 1)))) ⟨(h.push { cls := .type "tuple", data := .seq rest.toArray }).push
      { cls := .ref C, data := .fields #[.ref h.objs.size, .none, .none, .none, .bool false, .none] }, g, d, t, os⟩) (hrest : rest.length ≤ sizeLine) :
    codeAny (model prog w) A (.builtin "Exception.__new__" ⟨.ref C :: rest, []⟩) R ⟨h, g, d, t, os⟩ := by
  have F := PySem.F.excBase_Exception
  have he := F.ends
  have hx : (Value.ref C :: bm).contains (.type "Exception") = true := by rw [List.contains_cons, O.x, Bool.or_true]
  have ha : (Value.ref C :: bm).contains (.type "AttributeError") = false := by rw [List.contains_cons, O.a]; rfl
  have hn : (Value.ref C :: bm).contains (.type "NameError") = false := by rw [List.contains_cons, O.n]; rfl
  refine codeAny_builtinAt F.entry ?_
  unfold Builtin.«BaseException.__new__»
  refine PySem.wpAt_bind ?_
  show PySem.wpAt _ _ _ (stack >>= _) _ _ _
  refine PySem.wpAt_bind (PySem.wpAt_stack fun p below => wpAt_of_wpAny ?_)
  wp_walk
  refine wpAt_of_wpAny ?_
  rw [F.owner]
  repeat (first | with_reducible refine wpAny_madeHere_exc F.canon hC ?_ | with_reducible refine wpAny_loadPart_at hC ?_ | (with_reducible refine wpAny_isSubtype_exc hC ?_; first | rw [hx] | rw [ha] | rw [hn]) | wp_step)
  show R _ _
  rw [Heap.size_push]
  exact hq
theorem inv_call (O : LineOk bm) {rest : List Value} {fI : Addr} {oI : Obj} {Q : Value → Shared → Prop}
    (hC : h.get? C = some (excClassObj nm q C N bs bm hdct sn sub ab col dd k0 k1 k2 k3 k5 "Exception.__new__")) (hi : ∀ h₂ : Heap, (∀ b o, h.get? b = some o → h₂.get? b = some o) → Looks (model prog w) h₂ (typeLookup (.ref C) "__init__") (some (.ref fI)))
    (hfI : h.get? fI = some oI) (hfc : oI.cls = .type "function") (hrest : rest.length ≤ sizeLine)
    (hq : ∀ h' e, Heap.MadeExcOf h h' e (.ref C) rest →
      wpAny (model prog w) (A.under (.builtin "type.__call__" ⟨.ref C :: rest, []⟩)) (call (.ref fI) (.ref e :: rest)) (fun r s' => r = .none ∧ Q (.ref e) s') E ⟨h', g, d, t, os⟩) :
    wpAny (model prog w) A (call (.ref C) rest) Q E ⟨h, g, d, t, os⟩ := by
  have F := PySem.F.excBase_Exception
  have f1 := tc_lookup
  have f2 := tc_bind (.ref C)
  have hT : (⟨h, g, d, t, os⟩ : Shared).TypeIs (.ref C) "type" := ⟨_, hC, rfl⟩
  refine wpAny_call (codeAny_of_tree ?_)
  show wpAny _ _ (callAny (.ref C) _) _ _ _
  repeat (any_goals (first | assumption | with_reducible refine wpAny_loadPart_at hC ?_ | wp_step))
  refine ⟨rfl, codeAny_call_builtin_at (Code.quiet_builtin _ (by decide +kernel)) entry_typeCall (wpAny_check_type_call_sub hC ?_)⟩
  repeat (first | with_reducible refine wpAny_loadPart_at hC ?_ | with_reducible refine wpAny_madeBy_exc hC ?_ | wp_step)
  refine codeAny_call_builtin_code (Code.quiet_builtin _ F.quiet) (inv_check O hC (inv_new O hC ?_ hrest))
  show wpAny _ _ _ _ _ ⟨(h.push { cls := .type "tuple", data := .seq rest.toArray }).push { cls := .ref C, data := .fields #[.ref h.objs.size, .none, .none, .none, .bool false, .none] }, g, d, t, os⟩
  generalize hh : (h.push { cls := .type "tuple", data := .seq rest.toArray }).push { cls := .ref C, data := .fields #[.ref h.objs.size, .none, .none, .none, .bool false, .none] } = h₂
  have up : ∀ b o, h.get? b = some o → h₂.get? b = some o := fun b o e => hh ▸ Heap.get?_push_of_some _ (Heap.get?_push_of_some _ e)
  have hC₂ := up _ _ hC
  have he₂ : h₂.get? (h.objs.size + 1) = some { cls := .ref C, data := .fields #[.ref h.objs.size, .none, .none, .none, .bool false, .none] } := by subst hh; heap_get
  have hm : Heap.MadeExcOf h h₂ (h.objs.size + 1) (.ref C) rest :=
    ⟨up, Heap.get?_none_of_le (Nat.le_succ _), h.objs.size, he₂, Heap.get?_none_of_le (Nat.le_refl _), hh ▸ Heap.get?_push_of_some _ (Heap.get?_push_at rfl rfl)⟩
  have hcC : (Value.ref C :: bm).contains (.ref C) = true := by simp
  unfold isInstance
  repeat (first | with_reducible refine wpAny_loadPart_at he₂ ?_ | (with_reducible refine wpAny_isSubtype_exc hC₂ ?_; rw [hcC]) | wp_step)
  show wpAny _ _ (typeLookup (.ref C) _) _ _ _
  refine (hi h₂ up) _ _ _ _ (fun _ _ z => z) (wpAny_holding (wpAny_bind ?_))
  unfold bindSpecial
  refine wpAny_bind (wpAny_typeOf (T := "function") ⟨_, up _ _ hfI, hfc⟩ ?_)
  rw [if_pos (by decide)]
  refine wpAny_pure (wpAny_bind (wpAny_mono (hq _ _ hm) (fun r s' hr => ?_) fun _ _ x => x))
  obtain ⟨rfl, hQ⟩ := hr
  wp_walk
  exact hQ
end
theorem rows_C10_1 : True := by
  k_with_none
  trivial
section
variable {prog : Program} {w : World} {A : Around} {E : Value → Shared → Prop} {h : Heap} {g : Array GenState} {d : Drawn} {t : Nat} {os : OsState}
variable {nm q : Str} {C N : Addr} {bs bm : List Value} {hdct : Bool} {sn : List Str} {sub : List Value} {ab : Bool} {col : Option Bool} {dd : Option Addr} {k0 k1 k2 k3 k5 : Option Value} {newId : String}
theorem inv_initcheck (O : LineOk bm) {M : Model} {e : Addr} {oe : Obj} {rest : List Value} {Q : Unit → Shared → Prop} (hC : h.get? C = some (excClassObj nm q C N bs bm hdct sn sub ab col dd k0 k1 k2 k3 k5 newId))
    (he : h.get? e = some oe) (hcls : oe.cls = .ref C) (hq : Q () ⟨h, g, d, t, os⟩) : wpAny M A (checkBuiltinCall "Exception.__init__" ⟨.ref e :: rest, []⟩) Q E ⟨h, g, d, t, os⟩ := by
  have F := PySem.F.excBase_Exception
  have hx : (Value.ref C :: bm).contains (.type "Exception") = true := by rw [List.contains_cons, O.x, Bool.or_true]
  have hs := F.noStar
  simp only [checkBuiltinCall, F.initKind, F.initSplit, F.initRow]
  repeat (first | (with_reducible refine wpAny_loadPart_at he ?_; rw [hcls]) | with_reducible refine wpAny_loadPart_at hC ?_ | (with_reducible refine wpAny_isSubtype_exc hC ?_; rw [hx]) | wp_step)
  refine wpAny_onRaise ?_
  rw [show Bind.check _ _ _ _ (List.map (fun x => x.fst) ({ pos := Value.ref e :: rest } : Args).kw) = pure () from check_star_args _ _ _ _ _ _]
  exact wpAny_pure hq
theorem exc_init (O : LineOk bm) {e a : Addr} {rest : List Value} {Q : Value → Shared → Prop} (hC : h.get? C = some (excClassObj nm q C N bs bm hdct sn sub ab col dd k0 k1 k2 k3 k5 newId))
    (he : h.get? e = some { cls := .ref C, data := .fields #[.ref a, .none, .none, .none, .bool false, .none] }) (hrest : rest.length ≤ sizeLine)
    (hq : ∀ h', ExtBut e h h' → h'.get? e = some { cls := .ref C, data := .fields #[.ref h.objs.size, .none, .none, .none, .bool false, .none] } → Q .none ⟨h', g, d, t, os⟩) :
    wpAny (model prog w) A (call (.builtin "Exception.__init__") (.ref e :: rest)) Q E ⟨h, g, d, t, os⟩ := by
  have F := PySem.F.excBase_Exception
  refine wpAny_call (codeAny_call_builtin F.init.plain F.initEntry (inv_initcheck O hC he rfl ?_))
  wp_walk
  refine hq _ (fun b o hb hg => ?_) ?_
  · rw [Heap.get?_update_other _ _ (Ne.symm hb)]
    exact Heap.get?_push_of_some _ hg
  · rw [Heap.get?_update_self _ (Heap.get?_push_of_some _ he) rfl]
    rfl
end
abbrev excO (t : Addr) (d : Option Addr) : Obj := { cls := .ref 58, dict := d, data := .fields #[.ref t, .none, .none, .none, .bool false, .none] }
theorem inv_cls (w : World) : ∃ nm q bs hdct sn sub ab col dd k0 k1 k2 k3 k5, (Mine.heapK w.params).lookup 58 = some (excClassObj nm q 58 57 bs [.ref 38, .type "Exception", .type "BaseException", .type "object"] hdct sn sub ab col dd k0 k1 k2 k3 k5 "Exception.__new__") :=
  ⟨_, _, _, _, _, _, _, _, _, _, _, _, _, _, rfl⟩
theorem inv_line : LineOk [.ref 38, .type "Exception", .type "BaseException", .type "object"] := ⟨by decide +kernel, by decide +kernel, by decide +kernel, by decide +kernel⟩
open Builtin Builtin.ObjectAttr in
theorem put_dict {prog : Program} {w : World} {A : Around} {E : Value → Shared → Prop} {Q : Fin → Shared → Prop} {s : Shared} {dx : Addr} {es es' : List DictEntry} {n n' : Nat} {name : Str} {tk : Tok} {v : Value} (hd : s.heap.get? dx = some (dictOf es n))
    (hl : (getL name es).isSome = true) (e : (putL name (PyData.keyHash w.params name) (.str name s.toks) v es, putN name es n) = (es', n')) (hz : es'.length ≤ 1000)
    (h : ∀ h', ExtBut dx s.heap h' → h'.get? dx = some (dictOf es' n') → Q (.done (.ret .none)) { s with heap := h', toks := s.toks + 1 }) :
    wpAny (model prog w) A (storeInDict dx (.str name tk) name v) Q E s := by
  obtain ⟨e1, e2⟩ := Prod.mk.inj e
  have hp : Obj.putName name (PyData.keyHash w.params name) (.str name s.toks) v (dictOf es n) = dictOf es' n' := by rw [putName_dict, e1, e2]
  have D' : (s.heap.update dx (Obj.putName name (PyData.keyHash w.params name) (.str name s.toks) v)).get? dx = some (dictOf es' n') := by
    rw [Heap.get?_update_self _ hd (by rw [hp]; rfl), hp]
  unfold storeInDict newKeyGuard
  refine wpAny_bind (wpAny_pure (wpAny_bind ?_))
  unfold nsSet
  refine wpAny_bind (wpAny_bind (wpAny_askSetting (wpAny_pure (wpAny_bind (wpAny_mkText (wpAny_bind (wpAny_loadPart hd ?_)))))))
  dsimp only
  have c : (!es.toArray.any (·.key.isStr name) && es.toArray.any (·.refKey)) = false := by
    rw [List.any_toArray, List.any_toArray]
    unfold getL at hl
    split at hl
    · rename_i en he
      rw [List.any_eq_true.mpr ⟨en, List.mem_of_find?_eq_some he, List.find?_some he⟩]; rfl
    · split at hl
      · cases hl
      · rename_i z; rw [Bool.not_eq_true] at z; rw [z, Bool.and_false]
  rw [aRefKeyMayBeTheName_at, c]
  refine wpAny_updatePart hd ?_
  refine wpAny_bind (wpAny_lookBehind D' (pastItsLine_dict (by rw [List.size_toArray, sizeLine_eq]; omega)) ?_)
  exact wpAny_pure (h _ (fun b o hb hg => (Heap.get?_update_other _ _ (Ne.symm hb)).trans hg) D')
open Builtin Builtin.ObjectAttr in
theorem exc_open {w : World} {A : Around} {R : Result → Shared → Prop} {s : Shared} {x t : Addr} {od : Option Addr} {name : Str} {tk : Tok} {v : Value} (X : (Mine.heapK w.params).In s.heap) (hx : s.heap.get? x = some (excO t od)) (ht : takerIn (Mine.heapK w.params) 58 name = some none)
    (h : ∀ b, wpAny (model PySem.Challenge.pw_nm0133_01 w) A.in1 (storeInOwnDict (.ref x) (.ref 58) (.str name tk) name v b)
      (fun fin s' => match fin with | .done f => R (.ok f) s' | .again c' => c'.quiet = true ∧ codeAny (model PySem.Challenge.pw_nm0133_01 w) A c' R s') (fun e s' => R (.error e) s') s) :
    codeAny (model PySem.Challenge.pw_nm0133_01 w) A (.call (.builtin "object.__setattr__") ⟨[.ref x, .str name tk, v], []⟩) R s := by
  have SF := PySem.F.store_object
  obtain ⟨nm, q, bs, hdct, sn, sub, ab, col, dd, k0, k1, k2, k3, k5, hk⟩ := inv_cls w
  have ty : Looks (model PySem.Challenge.pw_nm0133_01 w) s.heap (typeOf (.ref x)) (.ref 58) := (Looks.ld hx).andThen .now
  have hc : clsIn (Mine.heapK w.params) 58 = some { name := nm, bases := bs, mro := [.ref 58, .ref 38, .type "Exception", .type "BaseException", .type "object"], ns := 57, qualname := q, hasDict := hdct, slotNames := sn, subclasses := sub, abstract := ab, collection := col, hasDel := false } := by
    unfold clsIn; rw [hk]
  have ob : Looks (model PySem.Challenge.pw_nm0133_01 w) s.heap (isInstance (.ref x) (.type "object")) true := ty.andThen (looks_mroIn X (by unfold mroIn; rw [hc, Option.bind_some, if_neg (by simp)]; rfl))
  refine codeAny_call_builtin SF.slot.plain SF.entry (@check_slot (model PySem.Challenge.pw_nm0133_01 w) _ _ s "object.__setattr__" "object" "__setattr__" (.ref x) [.str name tk, v] [] _ SF.kind SF.split ob (SF.args (.ref x) (.str name tk) v) ?_)
  obtain ⟨attr, ha, hr⟩ := Option.bind_eq_some_iff.mp ht
  have hm : Looks (model PySem.Challenge.pw_nm0133_01 w) s.heap (mroOf (.ref 58)) [.ref 58, .ref 38, .type "Exception", .type "BaseException", .type "object"] := (looks_clsIn X hc).andThen .now
  have tak : Looks (model PySem.Challenge.pw_nm0133_01 w) s.heap (storeTaker? attr) none := by
    cases attr with
    | none => exact .now
    | some a =>
      obtain ⟨b, hb, e⟩ := Option.map_eq_some_iff.mp hr
      refine (looks_takesIn X hb).andThen ?_
      cases b
      · exact .now
      · cases e
  rw [osa_eq, refuse_eq]
  refine wpAny_bind (wpAny_bind (ty.here (wpAny_bind (hm.here ?_))))
  rw [refuseLoop_ref, refuseLoop_ref, PySem.F.store_Exception.passes]
  exact wpAny_pure (wpAny_bind (ty.here (wpAny_bind ((looks_findIn X ha).here (wpAny_bind (tak.here (h _)))))))
theorem inv_hasDict (w : World) : ∃ cd, clsIn (Mine.heapK w.params) 58 = some cd ∧ cd.hasDict = true := ⟨_, by unfold clsIn; rfl, rfl⟩
theorem inv_set (w : World) : findIn (Mine.heapK w.params) (.ref 58) "__setattr__" = some (some (.builtin "object.__setattr__")) := by k_is
open Builtin Builtin.ObjectAttr in
theorem exc_setattr {w : World} {A : Around} {E : Value → Shared → Prop} {Q : Unit → Shared → Prop} {s : Shared} {x t : Addr} {od : Option Addr} {name : Str} {v : Value} (X : (Mine.heapK w.params).In s.heap) (hx : s.heap.get? x = some (excO t od)) (ht : takerIn (Mine.heapK w.params) 58 name = some none)
    (hQ : ∀ (b : Bool) (tk : Tok), wpAny (model PySem.Challenge.pw_nm0133_01 w) A.in1 (storeInOwnDict (.ref x) (.ref 58) (.str name tk) name v b)
      (fun fin s' => fin = .done (.ret .none) ∧ Q () s') (fun e s' => E e s') { s with toks := s.toks + 1 }) :
    wpAny (model PySem.Challenge.pw_nm0133_01 w) A (setAttr (.ref x) name v) Q E s := by
  have ty : Looks (model PySem.Challenge.pw_nm0133_01 w) s.heap (typeOf (.ref x)) (.ref 58) := (Looks.ld hx).andThen .now
  refine wpAny_bind (wpAny_mkText (wpAny_bind (wpAny_bind (wpAny_bind (ty _ _ _ _ (fun _ _ e => e) (looks_findIn X (inv_set w) _ _ _ _ (fun _ _ e => e) (wpAny_holding ?_)))))))
  rw [PySem.F.store_object.slot.bind]
  refine wpAny_bind (wpAny_pure (wpAny_bind (wpAny_call (exc_open (s := { s with toks := s.toks + 1 }) X hx ht fun b => wpAny_mono (hQ b _) (fun fin s' z => ?_) fun _ _ z => z))))
  obtain ⟨rfl, z⟩ := z
  exact wpAny_pure (wpAny_pure z)
open Builtin Builtin.ObjectAttr in
theorem exc_set2 {w : World} {A : Around} {E : Value → Shared → Prop} {Q : Unit → Shared → Prop} {s : Shared} {x dx t : Addr} {name : Str} {v : Value} {es es' : List DictEntry} {n n' : Nat} (X : (Mine.heapK w.params).In s.heap) (hx : s.heap.get? x = some (excO t (some dx))) (hd : s.heap.get? dx = some (dictOf es n)) (ht : takerIn (Mine.heapK w.params) 58 name = some none)
    (hl : (getL name es).isSome = true) (e : (putL name (PyData.keyHash w.params name) (.str name (s.toks + 1)) v es, putN name es n) = (es', n')) (hz : es'.length ≤ 1000)
    (h : ∀ h', ExtBut dx s.heap h' → h'.get? dx = some (dictOf es' n') → Q () { s with heap := h', toks := s.toks + 1 + 1 }) :
    wpAny (model PySem.Challenge.pw_nm0133_01 w) A (setAttr (.ref x) name v) Q E s := by
  refine exc_setattr X hx ht fun b tk => ?_
  obtain ⟨cd, hc, hh⟩ := inv_hasDict w
  have X' : (Mine.heapK w.params).In ({ s with toks := s.toks + 1 } : Shared).heap := X
  refine wpAny_bind (wpAny_pure (wpAny_bind (wpAny_bind (wpAny_loadPart hx (wpAny_bind ((looks_clsIn X' hc).here ?_))))))
  rw [hh]
  exact wpAny_pure (a := some dx) (put_dict (s := { s with toks := s.toks + 1 }) hd hl e hz fun h' hE hd' => ⟨rfl, h h' hE hd'⟩)
open Builtin Builtin.ObjectAttr in
theorem exc_set1 {w : World} {A : Around} {E : Value → Shared → Prop} {Q : Unit → Shared → Prop} {s : Shared} {x t : Addr} {name : Str} {v : Value} (X : (Mine.heapK w.params).In s.heap) (hx : s.heap.get? x = some (excO t none)) (ht : takerIn (Mine.heapK w.params) 58 name = some none)
    (h : ∀ h' dx, ExtBut x s.heap h' → h'.get? x = some (excO t (some dx)) → h'.get? dx = some (dictOf [⟨PyData.keyHash w.params name, .str name (s.toks + 1), v⟩] 1) → s.heap.get? dx = none → (∀ b o, s.heap.get? b = some o → @LT.lt Nat _ b dx) → Q () { s with heap := h', toks := s.toks + 1 + 1 }) :
    wpAny (model PySem.Challenge.pw_nm0133_01 w) A (setAttr (.ref x) name v) Q E s := by
  refine exc_setattr X hx ht fun b tk => ?_
  obtain ⟨cd, hc, hh⟩ := inv_hasDict w
  have X' : (Mine.heapK w.params).In ({ s with toks := s.toks + 1 } : Shared).heap := X
  refine wpAny_bind (wpAny_pure (wpAny_bind (wpAny_bind (wpAny_loadPart hx (wpAny_bind ((looks_clsIn X' hc).here ?_))))))
  rw [hh]
  dsimp only
  obtain ⟨hp, gn, d, tk0, os⟩ := s
  rw [if_neg (by simp), if_neg (by simp [typeHasDict])]
  refine wpAny_bind (wpAny_alloc' ?_)
  have hx₁ : (hp.push { cls := .type "dict", data := .dict #[] }).get? x = some (excO t none) := Heap.get?_push_of_some _ hx
  have hne : hp.objs.size ≠ x := Nat.ne_of_gt (Heap.lt_size hx)
  refine wpAny_bind (wpAny_update' hx₁ ?_)
  refine wpAny_pure ?_
  have hg : ((hp.push { cls := .type "dict", data := .dict #[] }).update x fun o => { o with dict := some hp.objs.size }).get? hp.objs.size = some (dictOf [] 0) :=
    (Heap.get?_update_other _ _ (Ne.symm hne)).trans (Heap.get?_push_at rfl rfl)
  refine put_dict (s := ⟨_, gn, d, tk0 + 1, os⟩) (es := []) (n := 0) hg rfl rfl (by simp [putL]) fun h' hE hd' => ⟨rfl, h h' hp.objs.size (fun b o hb hgb => ?_) ?_ hd' (Heap.get?_none_of_le (Nat.le_refl _)) fun b o hb => Heap.lt_size hb⟩
  · exact hE b o (Nat.ne_of_lt (Heap.lt_size hgb)) ((Heap.get?_update_other _ _ (Ne.symm hb)).trans (Heap.get?_push_of_some _ hgb))
  · exact hE x _ (Ne.symm hne) (Heap.get?_update_self _ hx₁ rfl)
section
variable {w : World} {A : Around} {E : Value → Shared → Prop} {h₀ : Heap} {L x dx t : Addr} {s : Shared} {m : Str → Option Value} {name : Str} {v : Value} {es es' : List DictEntry} {n n' : Nat} {led led₂ : List (Addr × Obj)} {led' : Addr → List (Addr × Obj)} {Q : Unit → Shared → Prop}
theorem exc_set1_use (F : Fr h₀ L s.heap m) (N : News h₀ L s.heap led) (X : (Mine.heapK w.params).In h₀) (U : ∀ d, Upd x (excO t none) (excO t (some d)) led (led' d)) (ht : takerIn (Mine.heapK w.params) 58 name = some none)
    (h : ∀ d h', Fr h₀ L h' m → News h₀ L h' ((d, dictOf [⟨PyData.keyHash w.params name, .str name (s.toks + 1), v⟩] 1) :: led' d) → AllLt d led → Q () { s with heap := h', toks := s.toks + 1 + 1 }) :
    wpAny (model PySem.Challenge.pw_nm0133_01 w) A (setAttr (.ref x) name v) Q E s := by
  have hmem := Upd.mem (U x)
  refine exc_set1 (X.keeps F.keep) (N _ hmem).1 ht fun h' d hE hx hd hn hlt => ?_
  exact h d h' (fr_but F N hmem hE) (news_new F N hE hx (U d) hd hn) (allLt_of fun p hp => hlt _ _ (N p hp).1)
theorem exc_set2_use (F : Fr h₀ L s.heap m) (N : News h₀ L s.heap led) (X : (Mine.heapK w.params).In h₀) (hx : (x, excO t (some dx)) ∈ led) (_hdx : (dx, dictOf es n) ∈ led) (U : Upd dx (dictOf es n) (dictOf es' n') led led₂) (ht : takerIn (Mine.heapK w.params) 58 name = some none)
    (hl : (getL name es).isSome = true) (e : (putL name (PyData.keyHash w.params name) (.str name (s.toks + 1)) v es, putN name es n) = (es', n')) (hz : es'.length ≤ 1000)
    (h : ∀ h', Fr h₀ L h' m → News h₀ L h' led₂ → Q () { s with heap := h', toks := s.toks + 1 + 1 }) :
    wpAny (model PySem.Challenge.pw_nm0133_01 w) A (setAttr (.ref x) name v) Q E s := by
  have hmem := Upd.mem U
  refine exc_set2 (X.keeps F.keep) (N _ hx).1 (N _ hmem).1 ht hl e hz fun h' hE hd => ?_
  exact h h' (fr_but F N hmem hE) (news_but N hE hd U)
end
theorem rows_C10_2 : True := by
  k_with "getMethod type:Exception" => (k_here; refine' method_type ?F ?X ?m (by decide +kernel) ?e ?h ?_; (case F => k_asm); (case X => k_asm); (case m => (first | rfl | kernel_rfl)); (case e => k_dflt k_is); (case h => k_handed))
  trivial
theorem exc_init_use {w : World} {A : Around} {E Q : Value → Shared → Prop} {h₀ : Heap} {L e t : Addr} {s : Shared} {m : Str → Option Value} {v : Value} {led : List (Addr × Obj)} {led' : Addr → List (Addr × Obj)} (F : Fr h₀ L s.heap m) (N : News h₀ L s.heap led) (X : (Mine.heapK w.params).In h₀)
    (U : ∀ t', Upd e (excO t none) (excO t' none) led (led' t')) (h : ∀ t' h', Fr h₀ L h' m → News h₀ L h' (led' t') → Q .none { s with heap := h' }) :
    wpAny (model PySem.Challenge.pw_nm0133_01 w) A (call (.builtin "Exception.__init__") [.ref e, v]) Q E s := by
  obtain ⟨nm, q, bs, hdct, sn, sub, ab, col, dd, k0, k1, k2, k3, k5, hc⟩ := inv_cls w
  have hmem := Upd.mem (U t)
  obtain ⟨hp, g, d, tk, os⟩ := s
  refine exc_init inv_line ((X.keeps F.keep) _ _ hc) (N _ hmem).1 (by rw [PySem.sizeLine_eq]; exact Nat.le_of_ble_eq_true rfl) fun h' hE he => ?_
  exact h _ h' (fr_but F N hmem hE) (news_but N hE he (U _))
theorem rows_C10_3 : True := by
  k_with "call builtin:Exception.__init__" => (k_here; (with_reducible show wpAny _ _ (call (Value.builtin _) [Value.ref _, _]) _ _ _); k_dflt (refine' exc_init_use ?F ?N ?X ?U ?_; (case F => k_asm); (case N => k_asm); (case X => assumption); (case U => (intro oX; k_upd))); intro t'ᵣ h'ᵣ F'ᵣ N'ᵣ; (try k_sweep))
  trivial
theorem rows_C10_4 : True := by
  k_with "setAttr ref" => (k_here; k_dflt (first
  | (refine' exc_set1_use ?F ?N ?X ?U ?ht ?_; (case F => k_asm); (case N => k_asm); (case X => assumption); (case U => (intro oX; k_upd)); (case ht => k_is); k_whole; intro d'ᵣ h'ᵣ F'ᵣ N'ᵣ l1; (try k_lt l1); (try k_sweep))
  | (refine' exc_set2_use ?F ?N ?X ?hx ?hdx ?U ?ht ?hl ?e ?hz ?_; (case F => k_asm); (case N => k_asm); (case X => assumption); (case hx => k_mem); (case hdx => k_mem); (case ht => k_is); (case hl => k_get); (case e => k_put); (case U => k_upd); (case hz => exact Nat.le_of_ble_eq_true rfl); k_whole; intro h'ᵣ F'ᵣ N'ᵣ; (try k_sweep))))
  trivial
section
variable {w : World} {mean : ExcName → Option Value} {mg mb : Str → Option Value} {A A₀ : Around} {base G g : Heap} {outer : List Env} {env : Env} {s : Shared} {Q E : Value → Shared → Prop} {e L : Addr} {m : Str → Option Value} {led : List (Addr × Obj)} {o : Obj}
set_option maxHeartbeats 4000000 in
theorem fault_init {why : Str} {c1 : Tok} {t : Addr} (C : At 20 w mean mg mb A base outer G s.heap) (he : s.heap.get? e = some (excO t none)) (hG : G.get? e = none)
    (h : ∀ h' tk' t' dx b1, ExtBut e s.heap h' → h'.get? e = some (excO t' (some dx)) → h'.get? dx = some (dictOf [En (PyData.keyHash w.params (Str.ofString "why")) "why" b1 (.str why c1)] 1) → s.heap.get? dx = none → Q .none { s with heap := h', toks := tk' }) :
    wpAny (model PySem.Challenge.pw_nm0133_01 w) A (call (.ref 35) [.ref e, .str why c1]) Q E s := by
  obtain ⟨hd0, dp, fr, gd, un⟩ := A
  obtain rfl : hd0 = none := C.hand
  obtain rfl : fr = some outer := C.B.stack
  refine wpAny_call ?_
  refine' enter [(e, excO t none)] [(Str.ofString "self", .ref e), (Str.ofString "why", .str why c1)] C (by decide) (one_led he hG) ?k6 ?k7 ?k9 ?kB ?c2 ?c3 ?c4 ?c5 ?_
  walk_at "m_in"
  intro g L' h₁ hg hlt F' N' X' T' H hd hu hA
  have B' := H.B
  clear C he hG
  walk_at "m_go"
  (with_reducible rename AllLt _ _ => l1)
  exact h _ _ _ _ _ (but_of hg (by assumption)) (News.get (by assumption) (by k_mem)) (News.get (by assumption) (by k_mem)) (fresh_of hg (by assumption) (by k_mem) (Nat.ne_of_gt l1.1))
theorem fault_use {why : Str} {c1 : Tok} {t : Addr} {led' : Addr → Addr → List (Addr × Obj)} {lv : Nat} (H : Hr lv w mean mg mb A₀ A base outer env g L) (F : Fr g L s.heap m) (N : News g L s.heap led) (U : ∀ t' d, Upd e (excO t none) (excO t' (some d)) led (led' t' d)) (hlv : 20 ≤ lv)
    (h : ∀ t' dx b1 h' tk', AllNe dx led → Fr g L h' m → News g L h' ((dx, dictOf [En (PyData.keyHash w.params (Str.ofString "why")) "why" b1 (.str why c1)] 1) :: led' t' dx) → Q .none { s with heap := h', toks := tk' }) :
    wpAny (model PySem.Challenge.pw_nm0133_01 w) A (call (.ref 35) [.ref e, .str why c1]) Q E s := by
  have hmem := Upd.mem (U 0 0)
  refine fault_init (H.at F N hlv) (N _ hmem).1 (none_in hmem) fun h' tk' t' dx b1 hE he hd hn => ?_
  exact h t' dx b1 h' tk' (new_ne N hn) (fr_but F N hmem hE) (news_new F N hE he (U t' dx) hd hn)
theorem rows_C10_5 : True := by
  k_with "call ref" => (k_here; (with_reducible show wpAny _ _ (call (Value.ref 35) [Value.ref _, Value.str _ _]) _ _ _); k_dflt (refine' fault_use ?H ?F ?N ?U ?lv ?_; (case H => assumption); (case F => k_asm); (case N => k_asm); (case U => (intro tX oX; k_upd)); (case lv => decide)); intro t'ᵣ d'ᵣ b'ᵣ h'ᵣ tk'ᵣ hne'ᵣ F'ᵣ N'ᵣ; (replace hne'ᵣ := neF hne'ᵣ); (try k_sweep))
  trivial
abbrev faultD (w : World) (why : Str) (b1 b2 b3 c1 c2 c3 : Tok) : Obj := dictOf [En (PyData.keyHash w.params (Str.ofString "why")) "why" b1 (.str why c1), En (PyData.keyHash w.params (Str.ofString "function")) "function" b2 (.int (-1) c2), En (PyData.keyHash w.params (Str.ofString "at")) "at" b3 (.int (-1) c3)] 3
set_option maxHeartbeats 4000000 in
theorem inv_init {why : Str} {c1 c2 c3 : Tok} {t : Addr} (C : At 30 w mean mg mb A base outer G s.heap) (he : s.heap.get? e = some (excO t none)) (hG : G.get? e = none)
    (h : ∀ h' tk' t' dx b1 b2 b3, ExtBut e s.heap h' → h'.get? e = some (excO t' (some dx)) → h'.get? dx = some (faultD w why b1 b2 b3 c1 c2 c3) → s.heap.get? dx = none → Q .none { s with heap := h', toks := tk' }) :
    wpAny (model PySem.Challenge.pw_nm0133_01 w) A (call (.ref 55) [.ref e, .str why c1, .int (-1) c2, .int (-1) c3]) Q E s := by
  obtain ⟨hd0, dp, fr, gd, un⟩ := A
  obtain rfl : hd0 = none := C.hand
  obtain rfl : fr = some outer := C.B.stack
  refine wpAny_call ?_
  refine' enter [(e, excO t none)] [(Str.ofString "self", .ref e), (Str.ofString "why", .str why c1), (Str.ofString "function", .int (-1) c2), (Str.ofString "at", .int (-1) c3)] C (by decide) (one_led he hG) ?k6 ?k7 ?k9 ?kB ?c2 ?c3 ?c4 ?c5 ?_
  walk_at "m_in"
  intro g L' h₁ hg hlt F' N' X' T' H hd hu hA
  have B' := H.B
  clear C he hG
  walk_at "m_go"
  exact h _ _ _ _ _ _ _ (but_of hg (by assumption)) (News.get (by assumption) (by k_mem)) (News.get (by assumption) (by k_mem)) (fresh_of hg (by assumption) (by k_mem) (by k_ne))
theorem inv_find (w : World) : findIn (Mine.heapK w.params) (.ref 58) "__init__" = some (some (.ref 55)) := by k_is
theorem inv_fn (w : World) : ∃ oI, (Mine.heapK w.params).lookup 55 = some oI ∧ oI.cls = .type "function" := ⟨_, rfl, rfl⟩
theorem inv_use {why : Str} {c1 c2 c3 : Tok} {lv : Nat} (H : Hr lv w mean mg mb A₀ A base outer env g L) (F : Fr g L s.heap m) (N : News g L s.heap led) (X : (Mine.heapK w.params).In g) (hlv : 40 ≤ lv)
    (h : ∀ e dx t b1 b2 b3 h' tk', AllNe e led → AllNe dx led → e ≠ dx → Ext s.heap h' → s.heap.get? e = none → s.heap.get? dx = none → Fr g L h' m → News g L h' ((dx, faultD w why b1 b2 b3 c1 c2 c3) :: (e, excO t (some dx)) :: led) → Q (.ref e) { s with heap := h', toks := tk' }) :
    wpAny (model PySem.Challenge.pw_nm0133_01 w) A (call (.ref 58) [.str why c1, .int (-1) c2, .int (-1) c3]) Q E s := by
  obtain ⟨lv, rfl⟩ : ∃ k, lv = k + 33 := ⟨lv - 33, by omega⟩
  obtain ⟨nm, q, bs, hdct, sn, sub, ab, col, dd, k0, k1, k2, k3, k5, hc⟩ := inv_cls w
  obtain ⟨oI, hoI, hcI⟩ := inv_fn w
  obtain ⟨hp, gn, d, tk, os⟩ := s
  have XX : (Mine.heapK w.params).In hp := X.keeps F.keep
  refine inv_call inv_line (XX _ _ hc) (fun h₂ up => looks_findIn (XX.keeps up) (inv_find w)) (XX _ _ hoI) hcI (by rw [PySem.sizeLine_eq]; exact Nat.le_of_ble_eq_true rfl) fun h₂ e hm => ?_
  obtain ⟨t, he, ht, _⟩ := hm.there
  have F₂ : Fr g L h₂ m := F.keeps hm.keeps
  have N₂ : News g L h₂ ((e, excO t none) :: led) := fun p hp' => by
    rcases List.mem_cons.mp hp' with rfl | hp'
    · refine ⟨he, fun z => ?_, ?_⟩
      · obtain ⟨o, _, _, hL, _⟩ := F.ns
        have z' : e = L := z
        rw [← z', hm.new] at hL; cases hL
      · cases q : g.get? e with
        | none => rfl
        | some o => have := F.keep _ _ q; rw [hm.new] at this; cases this
    · exact ⟨hm.keeps _ _ (N p hp').1, (N p hp').2⟩
  have H2 := Hr.make (lv := lv + 30) (C := 58) (pos := [.str why c1, .int (-1) c2, .int (-1) c3]) (kw := []) H
  refine inv_init (s := ⟨h₂, gn, d, tk, os⟩) (H2.at F₂ N₂ (k := 30) (by omega)) he (none_in (.head _)) fun h' tk' t' dx b1 b2 b3 hE he' hd hn => ⟨rfl, ?_⟩
  have ne : e ≠ dx := fun z => by rw [z, hn] at he; cases he
  refine h e dx t' b1 b2 b3 h' tk' (new_ne N hm.new) ?_ ne (fun b o hb => hE b o (fun z => by rw [z, hm.new] at hb; cases hb) (hm.keeps b o hb)) hm.new ?_ (fr_but F₂ N₂ (.head _) hE) (news_new F₂ N₂ hE he' (.head (allNe_iff.mp (new_ne N hm.new))) hd hn)
  · exact allNe_iff.mpr fun p hp' z => allNe_iff.mp (new_ne N₂ hn) p (.tail _ hp') z
  · cases q : hp.get? dx with
    | none => rfl
    | some o => have := hm.keeps _ _ q; rw [hn] at this; cases this
end
theorem rows_C11_1 : True := by
  k_with_none
  trivial
/-- the traceback's cell of an exception: none yet, or an entry whose flight mark is fl -/
def HeadIs (h h' : Heap) (e dx : Addr) (hv : Value) : Option Value → Prop
  | none => hv = .none
  | some fl => ∃ T oT ts, hv = .ref T ∧ h.get? T = none ∧ T ≠ e ∧ T ≠ dx ∧ h'.get? T = some oT ∧ oT.data = .fields ts ∧ ts[3]? = some fl
abbrev excV (dx : Addr) (vs : Array Value) : Obj := { cls := .ref 58, dict := some dx, data := .fields vs }
/-- an Invalid on its way: the heap of now against a heap of before; l: the frames it is yet to leave -/
structure Thr (w : World) (base : Heap) (l : List Env) (h : Heap) (e : Addr) (why : Str) (st : Option Value) (h' : Heap) : Prop where
  fr : h'.FunFrames base l
  keep : ∀ b o, h.get? b = some o → b ∉ l.filterMap (·.frame) → h'.get? b = some o
  slots : ∀ b o, h.get? b = some o → b ∈ l.filterMap (·.frame) → ∃ sl, h'.get? b = some { o with slots := sl }
  inh : ∀ b ∈ l.filterMap (·.frame), ∃ o, h.get? b = some o
  new : h.get? e = none
  ob : ∃ dx vs hv b1 b2 b3 c1 c2 c3, h.get? dx = none ∧ dx ≠ e ∧ h'.get? e = some (excV dx vs) ∧ vs[1]? = some hv ∧ HeadIs h h' e dx hv st ∧ h'.get? dx = some (faultD w why b1 b2 b3 c1 c2 c3) ∧ vs[2]? = some .none
section
variable {M : Model} {w : World} {A : Around} {E : Value → Shared → Prop} {s : Shared} {base h h₀ : Heap} {env : Env} {outer l : List Env} {L e : Addr} {why : Str} {st : Option Value} {Q : Unit → Shared → Prop}
theorem Thr.stays (R : Thr w base l h e why st s.heap) (hb : base.StaysIn h) : base.StaysIn s.heap := fun b o q => R.keep b o (hb b o q) fun hm => by
  rw [(R.fr.mem hm).1] at q; cases q
/-- the new entry of the traceback -/
theorem entry_thr {head : Value} {hadNext : Bool} (hfr : A.frames = some (env :: outer)) (hf : env.frame = some L) (R : Thr w base (env :: outer) h e why st s.heap)
    (hQ : ∀ h', Thr w base (env :: outer) h e why (some (rawInt L)) h' → Q () { s with heap := h' }) :
    wpAny M A (do let a ← frameOf env; let pl ← entryPlaceOf L hadNext; let b ← EntryCells.newEntry head a .none (rawInt L) .none pl; setField (.ref e) 1 b) Q E s := by
  obtain ⟨fr, keep, slots, inh, new, dx, vs, hv, b1, b2, b3, c1, c2, c3, ndx, hne, he, h1, -, hdx, hx2⟩ := R
  have off : ∀ {b : Addr}, h.get? b = none → b ∉ (env :: outer).filterMap (·.frame) := fun hb hm => by
    obtain ⟨o, ho⟩ := inh _ hm
    rw [hb] at ho; cases ho
  refine wpAny_bind (wpAny_frameOf_fun hfr fr hf fun h₁ hs => ?_)
  refine wpAny_bind (wpAny_entryPlaceOf fun pl hpl => ?_)
  unfold EntryCells.newEntry newFields
  refine wpAny_bind (wpAny_newObj_type ?_ (hpl.sizeOk5 _ _ _ _ _))
  have hsz : 1 < vs.size := (Array.getElem?_eq_some_iff.mp h1).1
  have he₁ : h₁.get? e = some (excV dx vs) := (hs.2.1 e (off new)).trans he
  generalize hoT : ({ cls := .type "traceback", dict := none, data := .fields ([head, .ref L, .none, rawInt L, .none] ++ (if pl.isEmpty then List.replicate 6 Value.none else pl)).toArray } : Obj) = oT
  have he₂ := Heap.get?_push_of_some (h := h₁) oT he₁
  refine wpAny_setField he₂ rfl hsz (hQ _ ?_)
  have hTe : h₁.objs.size ≠ e := Nat.ne_of_gt (Heap.lt_size he₁)
  have other : ∀ b o, b ≠ e → h₁.get? b = some o → ((h₁.push oT).update e (Obj.mapFields (·.setIfInBounds 1 (Value.ref h₁.objs.size)))).get? b = some o := fun b o hb hg => by
    rw [Heap.get?_update_other _ _ (Ne.symm hb)]
    exact Heap.get?_push_of_some _ hg
  have hdx₁ : h₁.get? dx = some (faultD w why b1 b2 b3 c1 c2 c3) := (hs.2.1 dx (off ndx)).trans hdx
  have hT : h.get? h₁.objs.size = none := by
    cases q : h.get? h₁.objs.size with
    | none => rfl
    | some o =>
      by_cases hm : h₁.objs.size ∈ (env :: outer).filterMap (·.frame)
      · obtain ⟨sl, z⟩ := slots _ _ q hm
        exact absurd (hs.1 ▸ Heap.lt_size z) (Nat.lt_irrefl _)
      · exact absurd (hs.1 ▸ Heap.lt_size (keep _ _ q hm)) (Nat.lt_irrefl _)
  have nfe : ∀ b o, s.heap.get? b = some o → (∀ ws, o.data ≠ .fields ws) → b ≠ e := fun b o hb hnf q => by
    rw [q, he] at hb; cases hb; exact hnf _ rfl
  refine ⟨fr.of_keeps fun b o hb hnf => ?_, fun b o hb hm => ?_, fun b o hb hm => ?_, inh, new, dx, vs.setIfInBounds 1 (.ref h₁.objs.size), .ref h₁.objs.size, b1, b2, b3, c1, c2, c3, ndx, hne, ?_, ?_, ?_, other _ _ hne hdx₁, by simp [hx2]⟩
  · obtain ⟨sl, z⟩ := hs.2.2 b o hb
    exact ⟨_, other b _ (nfe b o hb hnf) z, rfl⟩
  · exact other b o (fun z => by rw [z, new] at hb; cases hb) ((hs.2.1 b hm).trans (keep b o hb hm))
  · obtain ⟨sl, z⟩ := slots b o hb hm
    obtain ⟨sl', z'⟩ := hs.2.2 b _ z
    exact ⟨sl', other b _ (fun z => by rw [z, new] at hb; cases hb) z'⟩
  · exact (Heap.get?_update_self _ he₂ rfl)
  · simp [hsz]
  · refine ⟨h₁.objs.size, oT, _, rfl, hT, hTe, (fun z => ?_), ?_, by subst hoT; rfl, ?_⟩
    · exact absurd (Heap.lt_size hdx₁) (z ▸ Nat.lt_irrefl _)
    · rw [Heap.get?_update_other _ _ (Ne.symm hTe)]
      exact Heap.get?_push_size h₁ (by subst hoT; rfl)
    · first | (simp; done) | (rcases hpl with rfl | ⟨_, _, _, _, _, _, _, rfl⟩ <;> simp)
/-- the flight mark of the entry on top is turned -/
theorem mark_thr {T : Addr} {oT : Obj} {ts vs : Array Value} {dx : Addr} {fl fl' : Value} {b1 b2 b3 c1 c2 c3 : Tok} (fr : s.heap.FunFrames base l) (keep : ∀ b o, h.get? b = some o → b ∉ l.filterMap (·.frame) → s.heap.get? b = some o)
    (slots : ∀ b o, h.get? b = some o → b ∈ l.filterMap (·.frame) → ∃ sl, s.heap.get? b = some { o with slots := sl }) (inh : ∀ b ∈ l.filterMap (·.frame), ∃ o, h.get? b = some o) (new : h.get? e = none) (ndx : h.get? dx = none) (hne : dx ≠ e)
    (he : s.heap.get? e = some (excV dx vs)) (h1 : vs[1]? = some (.ref T)) (nT : h.get? T = none) (hTe : T ≠ e) (hTd : T ≠ dx) (hT : s.heap.get? T = some oT) (hdT : oT.data = .fields ts) (h3 : ts[3]? = some fl) (hdx : s.heap.get? dx = some (faultD w why b1 b2 b3 c1 c2 c3)) (hx2 : vs[2]? = some .none) :
    Thr w base l h e why (some fl') (s.heap.update T (Obj.mapFields (·.setIfInBounds 3 fl'))) := by
  have other : ∀ b, b ≠ T → (s.heap.update T (Obj.mapFields (·.setIfInBounds 3 fl'))).get? b = s.heap.get? b := fun b hb => Heap.get?_update_other _ _ (Ne.symm hb)
  have nT' : ∀ b o, h.get? b = some o → b ≠ T := fun b o hb z => by rw [z, nT] at hb; cases hb
  refine ⟨fr.of_keeps fun b o hb hnf => ⟨o, (other b fun z => ?_).trans hb, rfl⟩, fun b o hb hm => (other b (nT' b o hb)).trans (keep b o hb hm), fun b o hb hm => ?_, inh, new, dx, vs, .ref T, b1, b2, b3, c1, c2, c3, ndx, hne, (other e (Ne.symm hTe)).trans he, h1, ?_, (other dx (Ne.symm hTd)).trans hdx, hx2⟩
  · rw [z, hT] at hb; cases hb; exact hnf _ hdT
  · obtain ⟨sl, z⟩ := slots b o hb hm
    exact ⟨sl, (other b (nT' b o hb)).trans z⟩
  · exact ⟨T, _, _, rfl, nT, hTe, hTd, Heap.get?_update_self _ hT (Obj.isFreed_of_fields (Obj.data_mapFields hdT _)), Obj.data_mapFields hdT _, by simp [(Array.getElem?_eq_some_iff.mp h3).1]⟩
theorem note_thr (hfr : A.frames = some (env :: outer)) (hf : env.frame = some L) (hst : st = none ∨ st = some .none) (R : Thr w base (env :: outer) h e why st s.heap)
    (hQ : ∀ h', Thr w base (env :: outer) h e why (some (rawInt L)) h' → Q () { s with heap := h' }) : wpAny M A (noteFrame (.ref e) env) Q E s := by
  have R₀ := R
  obtain ⟨fr, keep, slots, inh, new, dx, vs, hv, b1, b2, b3, c1, c2, c3, ndx, hne, he, h1, hh, hdx, hx2⟩ := R
  unfold noteFrame
  simp only [hf]
  refine wpAny_bind (wpAny_field he rfl h1 ?_)
  rcases hst with rfl | rfl
  · obtain rfl : hv = .none := hh
    rw [if_neg (by decide)]
    exact entry_thr hfr hf R₀ hQ
  · obtain ⟨T, oT, ts, rfl, nT, hTe, hTd, hT, hdT, h3⟩ := hh
    rw [if_pos (show (Value.ref T != Value.none) = true from by simp)]
    refine wpAny_bind (wpAny_field hT hdT h3 ?_)
    rw [if_neg (show ¬ ((Value.none == rawInt L) = true) from by simp [rawInt])]
    refine wpAny_bind (wpAny_setField hT hdT (Array.getElem?_eq_some_iff.mp h3).1 ?_)
    exact entry_thr (s := { s with heap := _ }) hfr hf (mark_thr fr keep slots inh new ndx hne he h1 nT hTe hTd hT hdT h3 hdx hx2) hQ
theorem flight_thr {fl : Value} (R : Thr w base l h e why (some fl) s.heap) (hQ : ∀ h', Thr w base l h e why (some .none) h' → Q () { s with heap := h' }) : wpAny M A (setFlight (.ref e) none) Q E s := by
  obtain ⟨fr, keep, slots, inh, new, dx, vs, hv, b1, b2, b3, c1, c2, c3, ndx, hne, he, h1, ⟨T, oT, ts, rfl, nT, hTe, hTd, hT, hdT, h3⟩, hdx, hx2⟩ := R
  unfold setFlight
  refine wpAny_bind (wpAny_field he rfl h1 ?_)
  rw [if_pos (show (Value.ref T != Value.none) = true from by simp)]
  exact wpAny_setField hT hdT (Array.getElem?_eq_some_iff.mp h3).1 (hQ _ (mark_thr fr keep slots inh new ndx hne he h1 nT hTe hTd hT hdT h3 hdx hx2))
theorem again_thr (hf : env.frame = some L) (R : Thr w base l h e why (some (rawInt L)) s.heap) (hQ : Q () s) : wpAny M A (noteFrame (.ref e) env) Q E s := by
  obtain ⟨fr, keep, slots, inh, new, dx, vs, hv, b1, b2, b3, c1, c2, c3, ndx, hne, he, h1, ⟨T, oT, ts, rfl, nT, hTe, hTd, hT, hdT, h3⟩, hdx, hx2⟩ := R
  unfold noteFrame
  simp only [hf]
  refine wpAny_bind (wpAny_field he rfl h1 ?_)
  rw [if_pos (show (Value.ref T != Value.none) = true from by simp)]
  refine wpAny_bind (wpAny_field hT hdT h3 ?_)
  rw [if_pos (show (rawInt L == rawInt L) = true from by simp)]
  exact wpAny_pure hQ
/-- one frame is left: what was before it -/
theorem Thr.drop {h' : Heap} (R : Thr w base (env :: outer) h e why st h') (hf : env.frame = some L) (hE : Ext h₀ h) (hL : h₀.get? L = none) (hin : ∀ b ∈ outer.filterMap (·.frame), ∃ o, h₀.get? b = some o) : Thr w base outer h₀ e why st h' := by
  obtain ⟨fr, keep, slots, inh, new, dx, vs, hv, b1, b2, b3, c1, c2, c3, ndx, hne, he, h1, hh, hdx, hx2⟩ := R
  have none₀ : ∀ {b : Addr}, h.get? b = none → h₀.get? b = none := fun {b} hb => by
    cases q : h₀.get? b with
    | none => rfl
    | some o => have := hE _ _ q; rw [hb] at this; cases this
  have cons : ∀ {b : Addr}, b ∈ (env :: outer).filterMap (·.frame) ↔ b = L ∨ b ∈ outer.filterMap (·.frame) := fun {b} => by
    rw [List.filterMap_cons, hf]; exact List.mem_cons
  have neL : ∀ b o, h₀.get? b = some o → b ≠ L := fun b o hb z => by rw [z, hL] at hb; cases hb
  refine ⟨fr.2.2, fun b o hb hm => keep b o (hE b o hb) fun z => (cons.mp z).elim (neL b o hb) hm, fun b o hb hm => slots b o (hE b o hb) (cons.mpr (.inr hm)), hin, none₀ new, dx, vs, hv, b1, b2, b3, c1, c2, c3, none₀ ndx, hne, he, h1, ?_, hdx, hx2⟩
  cases st with
  | none => exact hh
  | some fl =>
    obtain ⟨T, oT, ts, e1, nT, r⟩ := hh
    exact ⟨T, oT, ts, e1, none₀ nT, r⟩
theorem leave_thr (hfr : A.frames = some (env :: outer)) (hf : env.frame = some L) (hst : st = none ∨ st = some .none) (R : Thr w base (env :: outer) h e why st s.heap) (hE : Ext h₀ h) (hL : h₀.get? L = none)
    (hin : ∀ b ∈ outer.filterMap (·.frame), ∃ o, h₀.get? b = some o) (hQ : ∀ h', Thr w base outer h₀ e why (some .none) h' → Q () { s with heap := h' }) : wpAny M A (leaving env (.ref e)) Q E s := by
  unfold leaving
  refine wpAny_bind (note_thr hfr hf hst R fun h₁ R₁ => flight_thr (s := { s with heap := h₁ }) R₁ fun h₂ R₂ => hQ h₂ (R₂.drop hf hE hL hin))
end
theorem rows_C12_1 : True := by
  k_with_none
  k_with "call ref" => (k_here; (with_reducible show wpAny _ _ (call (Value.ref 35) [Value.ref _, Value.str _ _]) _ _ _); k_dflt (refine' fault_use ?H ?F ?N ?U ?lv ?_; (case H => assumption); (case F => k_asm); (case N => k_asm); (case U => (intro tX oX; k_upd)); (case lv => decide)); intro t'ᵣ d'ᵣ b'ᵣ h'ᵣ tk'ᵣ hne'ᵣ F'ᵣ N'ᵣ; (replace hne'ᵣ := neF hne'ᵣ); (try k_sweep))
  trivial
section
variable {M : Model} {A : Around} {E : Value → Shared → Prop} {env : Env}
variable {nm q : Str} {C N : Addr} {bs bm : List Value} {hdct : Bool} {sn : List Str} {sub : List Value} {ab : Bool} {col : Option Bool} {dd : Option Addr} {k0 k1 k2 k3 k5 : Option Value} {newId : String}
theorem raise_stmt {s : Shared} {x : Sem Value} {Q : Flow → Shared → Prop} (O : LineOk bm) (hh : A.handled = none)
    (h : wpAny M A x (fun v s₁ => ∃ e t od, v = .ref e ∧ s₁.heap.get? C = some (excClassObj nm q C N bs bm hdct sn sub ab col dd k0 k1 k2 k3 k5 newId) ∧
      s₁.heap.get? e = some { cls := .ref C, dict := od, data := .fields #[.ref t, .none, .none, .none, .bool false, .none] } ∧ E (.ref e) s₁) E s) :
    wpAny M A (raiseStmt env (some x) none) Q E s := by
  have hb : (Value.ref C :: bm).contains (.type "BaseException") = true := by rw [List.contains_cons, O.b, Bool.or_true]
  unfold raiseStmt
  refine wpAny_bind (wpAny_mono h (fun v s₁ h₁ => ?_) fun _ _ x => x)
  obtain ⟨e, t, od, rfl, hC, he, hE⟩ := h₁
  obtain ⟨hp, g, d, tk, os⟩ := s₁
  repeat (first | with_reducible refine wpAny_loadPart_at he ?_ | with_reducible refine wpAny_loadPart_at hC ?_ | (with_reducible refine wpAny_isSubtype_exc hC ?_; rw [hb]) | wp_step)
  exact wpAny_raiseNew_none hh hE
end
section
variable {w : World} {A : Around} {E : Value → Shared → Prop} {env : Env} {s : Shared} {Q : Flow → Shared → Prop} {h₀ : Heap} {L : Addr} {m : Str → Option Value}
def RaiseAt (w : World) (E : Value → Shared → Prop) (v : Value) (s₁ : Shared) : Prop := ∃ e t od, v = .ref e ∧ (Mine.heapK w.params).In s₁.heap ∧ s₁.heap.get? e = some (excO t od) ∧ E (.ref e) s₁
theorem raise_exec {x : Expr} {pos : Pos} (hh : A.handled = none)
    (h : wpAny (model PySem.Challenge.pw_nm0133_01 w) A (eval x env) (fun v s₁ => RaiseAt w E v s₁) E s) :
    wpAny (model PySem.Challenge.pw_nm0133_01 w) A (exec (.Raise (some x) none pos) env) Q E s := by
  obtain ⟨nm, q, bs, hdct, sn, sub, ab, col, dd, k0, k1, k2, k3, k5, hc⟩ := inv_cls w
  rw [arm_exec_Raise]
  refine wpAny_bind (wpAny_standAt (raise_stmt (C := 58) (nm := nm) (q := q) (N := 57) (bs := bs) (hdct := hdct) (sn := sn) (sub := sub) (ab := ab) (col := col) (dd := dd) (k0 := k0) (k1 := k1) (k2 := k2) (k3 := k3) (k5 := k5) (newId := "Exception.__new__") inv_line hh ?_))
  refine wpAny_bind (wpAny_mono h (fun v s₁ z => ?_) fun _ _ z => z)
  obtain ⟨e, t, od, rfl, X, he, hE⟩ := z
  exact wpAny_bind (wpAny_standAt (wpAny_pure ⟨e, t, od, rfl, X _ _ hc, he, hE⟩))
end
section
variable {w : World} {mean : ExcName → Option Value} {mg mb : Str → Option Value} {A A₀ : Around} {base G g : Heap} {outer l : List Env} {env : Env} {s : Shared} {Q E : Value → Shared → Prop} {e L : Addr} {m : Str → Option Value} {led : List (Addr × Obj)} {o : Obj}
theorem At.inh {k : Nat} {h : Heap} (C : At k w mean mg mb A base l G h) : ∀ b ∈ l.filterMap (·.frame), ∃ o, h.get? b = some o := fun b hb => by
  obtain ⟨_, o, ho, _⟩ := C.B.frames.mem hb
  exact ⟨o, C.stays b o ho⟩
theorem thr_new {k : Nat} {h h' : Heap} {e dx t : Addr} {why : Str} {b1 b2 b3 c1 c2 c3 : Tok} (C : At k w mean mg mb A base l G h) (hE : Ext h h') (ne : h.get? e = none) (nd : h.get? dx = none) (hn : e ≠ dx) (he : h'.get? e = some (excO t (some dx))) (hd : h'.get? dx = some (faultD w why b1 b2 b3 c1 c2 c3)) :
    Thr w base l h e why none h' :=
  ⟨C.B.frames.of_keeps fun b o hb _ => ⟨o, hE b o (C.stays b o hb), rfl⟩, fun b o hb _ => hE b o hb, fun b o hb _ => ⟨o.slots, hE b o hb⟩, C.inh, ne, dx, _, .none, b1, b2, b3, c1, c2, c3, nd, Ne.symm hn, he, rfl, rfl, hd, rfl⟩
theorem frame_none {g h h' : Heap} {L : Addr} {m : Str → Option Value} {led : List (Addr × Obj)} (hg : g = hideAll h (led.map (·.1))) (F : Fr g L h' m) : h.get? L = none := by
  have q := F.above
  rw [hg, hideAll_size] at q
  exact Heap.get?_none_of_le q
theorem rows_C12_2 : True := by
  k_with "exec Raise some none" => (k_here; k_dflt (refine raise_exec (by exact rfl) ?_))
  k_with "call ref" => (k_here; (with_reducible show wpAny _ _ (call (Value.ref 58) _) _ _ _); k_dflt (refine' inv_use ?H ?F ?N ?X ?lv ?_; (case H => assumption); (case F => k_asm); (case N => k_asm); (case X => assumption); (case lv => decide)))
  trivial
set_option maxHeartbeats 4000000 in
theorem want_ok {b : Bool} {why : Str} {c : Tok} (C : At 60 w mean mg mb A base outer G s.heap)
    (hQ : b = true → ∀ h' tk', Ext s.heap h' → Q .none { s with heap := h', toks := tk' })
    (hE : b = false → ∀ e h' tk', Thr w base outer s.heap e why (some .none) h' → E (.ref e) { s with heap := h', toks := tk' }) :
    wpAny (model PySem.Challenge.pw_nm0133_01 w) A (call (.ref 105) [.bool b, .str why c]) Q E s := by
  have hin := C.inh
  obtain ⟨hd0, dp, fr, gd, un⟩ := A
  obtain rfl : hd0 = none := C.hand
  obtain rfl : fr = some outer := C.B.stack
  refine wpAny_call ?_
  refine' enter [] [(Str.ofString "is_so", .bool b), (Str.ofString "why", .str why c)] C (by decide) no_led ?k6 ?k7 ?k9 ?kB ?c2 ?c3 ?c4 ?c5 ?_
  walk_at "m_in"
  intro g L' h₁ hg hlt F' N' X' T' H hd hu hA
  have B' := H.B
  clear C
  cases b with
  | true =>
    walk_at "m_go"
    exact hQ rfl _ _ (ext_of hg (by assumption))
  | false =>
    walk_at "m_go"
    rename_i e dx t b1 b2 b3 h₂ tk₂ n1 n2 ne hE' ne' nd' F₂ N₂
    refine ⟨e, t, _, rfl, X'.keeps F₂.keep, (N₂ _ (.tail _ (.head _))).1, ?_⟩
    dsimp only
    have R := thr_new (H.at F' N' (Nat.le_refl _)) hE' ne' nd' ne (N₂ _ (.tail _ (.head _))).1 (N₂ _ (.head _)).1
    refine leave_thr (by exact H.frames) rfl (.inl rfl) R (ext_of hg F') ?_ hin fun h₃ R₃ => ?_
    · exact frame_none hg F'
    · exact hE rfl _ _ _ R₃
/-- what a checker does: f tells the fault, if any -/
def Chk (w : World) (base : Heap) (l : List Env) (s : Shared) (f : Option Str) (Q E : Value → Shared → Prop) : Prop :=
  (f = none → ∀ h' tk', Ext s.heap h' → Q .none { s with heap := h', toks := tk' }) ∧ ∀ why, f = some why → ∀ e h' tk', Thr w base l s.heap e why (some .none) h' → E (.ref e) { s with heap := h', toks := tk' }
theorem fr_ext {h₀ h h' : Heap} {L : Addr} {m : Str → Option Value} (F : Fr h₀ L h m) (x : Ext h h') : Fr h₀ L h' m := F.keeps x
theorem news_ext {h₀ h h' : Heap} {L : Addr} {led : List (Addr × Obj)} (N : News h₀ L h led) (x : Ext h h') : News h₀ L h' led := fun p hp => ⟨x _ _ (N p hp).1, (N p hp).2⟩
/-- a checker's word within a def -/
theorem chk_in {f : Option Str} {led : List (Addr × Obj)} {l : List Env} (F : Fr g L s.heap m) (N : News g L s.heap led)
    (hQ : f = none → ∀ h' tk', Fr g L h' m → News g L h' led → Q .none { s with heap := h', toks := tk' })
    (hE : ∀ why, f = some why → ∀ e h' tk', Thr w base l s.heap e why (some .none) h' → E (.ref e) { s with heap := h', toks := tk' }) : Chk w base l s f Q E :=
  ⟨fun h h' tk' x => hQ h h' tk' (fr_ext F x) (news_ext N x), hE⟩
theorem want_use {b : Bool} {why : Str} {c : Tok} {lv : Nat} (H : Hr lv w mean mg mb A₀ A base outer env g L) (F : Fr g L s.heap m) (N : News g L s.heap led) (hlv : 60 ≤ lv)
    (hQ : b = true → ∀ h' tk', Fr g L h' m → News g L h' led → Q .none { s with heap := h', toks := tk' })
    (hE : b = false → ∀ e h' tk', Thr w base (env :: outer) s.heap e why (some .none) h' → E (.ref e) { s with heap := h', toks := tk' }) :
    wpAny (model PySem.Challenge.pw_nm0133_01 w) A (call (.ref 105) [.bool b, .str why c]) Q E s :=
  want_ok (H.at F N hlv) (fun h h' tk' x => hQ h h' tk' (fr_ext F x) (news_ext N x)) hE
theorem ext_led {g h h' : Heap} {L : Addr} {m : Str → Option Value} {T led : List (Addr × Obj)} {G : Heap} (hg : g = hideAll h (T.map (·.1))) (hT : ∀ p ∈ T, h.get? p.1 = some p.2 ∧ G.get? p.1 = none) (F : Fr g L h' m) (N : News g L h' led) (hs : ∀ p ∈ T, p ∈ led) : Ext h h' := fun b o hb => by
  by_cases hm : b ∈ T.map (·.1)
  · obtain ⟨p, hp, rfl⟩ := List.mem_map.mp hm
    rw [(hT p hp).1] at hb; cases hb
    exact (N p (hs p hp)).1
  · subst hg
    exact F.keep b o (hideAll_get _ hb hm)
theorem chk_ok {f : Option Str} {l : List Env} {s' : Shared} (h : Chk w base l s f Q E) (hs : s' = { s with heap := s'.heap, toks := s'.toks }) (x : Ext s.heap s'.heap) (hf : f = none) : Q .none s' := hs ▸ h.1 hf _ _ x
theorem chk_no {f : Option Str} {why : Str} {l : List Env} {e : Addr} {s' : Shared} (h : Chk w base l s f Q E) (hs : s' = { s with heap := s'.heap, toks := s'.toks }) (R : Thr w base l s.heap e why (some .none) s'.heap) (hf : f = some why) : E (.ref e) s' := hs ▸ h.2 _ hf _ _ _ R
theorem rows_C12_3 : True := by
  k_with "call ref" => (k_here; (with_reducible show wpAny _ _ (call (Value.ref 105) [Value.bool _, Value.str _ _]) _ _ _); k_dflt (refine' want_use ?H ?F ?N ?lv ?_ ?_; (case H => assumption); (case F => k_asm); (case N => k_asm); (case lv => decide)))
  k_with "leaving ref" => (k_here; k_dflt (refine' leave_thr (by exact Hr.frames (by assumption)) rfl (.inr rfl) ?R ?hE ?hL ?hin ?_; (case R => assumption); (case hE => walk_at "m_ext"); (case hL => exact frame_none (by assumption) (by assumption)); (case hin => assumption)); intro h'ᵣ R'ᵣ)
  trivial
local macro_rules | `(tactic| walk_at "m_sub") => `(tactic| (intro pX hX; repeat (first | exact hX | refine List.mem_cons_of_mem _ ?_ | refine List.mem_append_left _ ?_)))
local macro_rules | `(tactic| walk_at "m_ext") => `(tactic| (first | exact ext_led (by assumption) (by assumption) (by assumption) (by assumption) (by walk_at "m_sub") | exact ext_of (by assumption) (by assumption)))
local macro_rules | `(tactic| walk_at "m_chk") => `(tactic| (first | (refine' chk_ok ?h ?e ?x ?_; (case h => assumption); (case e => exact rfl); (case x => walk_at "m_ext")) | (refine' chk_no ?h ?e ?R ?_; (case h => assumption); (case e => exact rfl); (case R => assumption))))
abbrev isKind (k : Int) : Bool := decide (k = -1) || (decide (k = -2) || (decide (k = -16) || (decide (k = -17) || false)))
abbrev isRef (k : Int) : Bool := decide (k = -16) || (decide (k = -17) || false)
set_option maxHeartbeats 4000000 in
theorem is_kind_ok {k : Int} {t : Tok} (C : At 60 w mean mg mb A base outer G s.heap)
    (hQ : ∀ h' tk', Ext s.heap h' → Q (.bool (isKind k)) { s with heap := h', toks := tk' }) :
    wpAny (model PySem.Challenge.pw_nm0133_01 w) A (call (.ref 91) [.int k t]) Q E s := by
  obtain ⟨hd0, dp, fr, gd, un⟩ := A
  obtain rfl : hd0 = none := C.hand
  obtain rfl : fr = some outer := C.B.stack
  refine wpAny_call ?_
  refine' enter [] [(Str.ofString "kind", .int k t)] C (by decide) no_led ?k6 ?k7 ?k9 ?kB ?c2 ?c3 ?c4 ?c5 ?_
  walk_at "m_in"
  intro g L' h₁ hg hlt F' N' X' T' H hd hu hA
  have B' := H.B
  clear C
  walk_at "m_go"
  exact hQ _ _ (ext_of hg F')
theorem is_kind_use {k : Int} {t : Tok} {lv : Nat} (H : Hr lv w mean mg mb A₀ A base outer env g L) (F : Fr g L s.heap m) (N : News g L s.heap led) (hlv : 60 ≤ lv)
    (hQ : ∀ h' tk', Fr g L h' m → News g L h' led → Q (.bool (isKind k)) { s with heap := h', toks := tk' }) :
    wpAny (model PySem.Challenge.pw_nm0133_01 w) A (call (.ref 91) [.int k t]) Q E s :=
  is_kind_ok (H.at F N hlv) fun h' tk' x => hQ h' tk' (fr_ext F x) (news_ext N x)
theorem rows_C12_4 : True := by
  k_with "call ref" => (k_here; (with_reducible show wpAny _ _ (call (Value.ref 91) [Value.int _ _]) _ _ _); k_dflt (refine' is_kind_use ?H ?F ?N ?lv ?_; (case H => assumption); (case F => k_asm); (case N => k_asm); (case lv => decide)); intro h'ᵣ tk'ᵣ F'ᵣ N'ᵣ; (try k_sweep))
  trivial
set_option maxHeartbeats 4000000 in
theorem is_ref_ok {k : Int} {t : Tok} (C : At 60 w mean mg mb A base outer G s.heap)
    (hQ : ∀ h' tk', Ext s.heap h' → Q (.bool (isRef k)) { s with heap := h', toks := tk' }) :
    wpAny (model PySem.Challenge.pw_nm0133_01 w) A (call (.ref 98) [.int k t]) Q E s := by
  obtain ⟨hd0, dp, fr, gd, un⟩ := A
  obtain rfl : hd0 = none := C.hand
  obtain rfl : fr = some outer := C.B.stack
  refine wpAny_call ?_
  refine' enter [] [(Str.ofString "kind", .int k t)] C (by decide) no_led ?k6 ?k7 ?k9 ?kB ?c2 ?c3 ?c4 ?c5 ?_
  walk_at "m_in"
  intro g L' h₁ hg hlt F' N' X' T' H hd hu hA
  have B' := H.B
  clear C
  walk_at "m_go"
  exact hQ _ _ (ext_of hg F')
theorem is_ref_use {k : Int} {t : Tok} {lv : Nat} (H : Hr lv w mean mg mb A₀ A base outer env g L) (F : Fr g L s.heap m) (N : News g L s.heap led) (hlv : 60 ≤ lv)
    (hQ : ∀ h' tk', Fr g L h' m → News g L h' led → Q (.bool (isRef k)) { s with heap := h', toks := tk' }) :
    wpAny (model PySem.Challenge.pw_nm0133_01 w) A (call (.ref 98) [.int k t]) Q E s :=
  is_ref_ok (H.at F N hlv) fun h' tk' x => hQ h' tk' (fr_ext F x) (news_ext N x)
theorem rows_C12_5 : True := by
  k_with "call ref" => (k_here; (with_reducible show wpAny _ _ (call (Value.ref 98) [Value.int _ _]) _ _ _); k_dflt (refine' is_ref_use ?H ?F ?N ?lv ?_; (case H => assumption); (case F => k_asm); (case N => k_asm); (case lv => decide)); intro h'ᵣ tk'ᵣ F'ᵣ N'ᵣ; (try k_sweep))
  trivial
end
theorem rows_C13_1 : True := by
  k_with_none
  k_with "call ref" => (k_here; (with_reducible show wpAny _ _ (call (Value.ref 105) [Value.bool _, Value.str _ _]) _ _ _); k_dflt (refine' want_use ?H ?F ?N ?lv ?_ ?_; (case H => assumption); (case F => k_asm); (case N => k_asm); (case lv => decide)))
  k_with "leaving ref" => (k_here; k_dflt (refine' leave_thr (by exact Hr.frames (by assumption)) rfl (.inr rfl) ?R ?hE ?hL ?hin ?_; (case R => assumption); (case hE => walk_at "m_ext"); (case hL => exact frame_none (by assumption) (by assumption)); (case hin => assumption)); intro h'ᵣ R'ᵣ)
  k_with "call ref" => (k_here; (with_reducible show wpAny _ _ (call (Value.ref 91) [Value.int _ _]) _ _ _); k_dflt (refine' is_kind_use ?H ?F ?N ?lv ?_; (case H => assumption); (case F => k_asm); (case N => k_asm); (case lv => decide)); intro h'ᵣ tk'ᵣ F'ᵣ N'ᵣ; (try k_sweep))
  k_with "call ref" => (k_here; (with_reducible show wpAny _ _ (call (Value.ref 98) [Value.int _ _]) _ _ _); k_dflt (refine' is_ref_use ?H ?F ?N ?lv ?_; (case H => assumption); (case F => k_asm); (case N => k_asm); (case lv => decide)); intro h'ᵣ tk'ᵣ F'ᵣ N'ᵣ; (try k_sweep))
  trivial
local macro_rules | `(tactic| walk_at "m_sub") => `(tactic| (intro pX hX; repeat (first | exact hX | refine List.mem_cons_of_mem _ ?_ | refine List.mem_append_left _ ?_)))
local macro_rules | `(tactic| walk_at "m_ext") => `(tactic| (first | exact ext_led (by assumption) (by assumption) (by assumption) (by assumption) (by walk_at "m_sub") | exact ext_of (by assumption) (by assumption)))
local macro_rules | `(tactic| walk_at "m_chk") => `(tactic| (first | (refine' chk_ok ?h ?e ?x ?_; (case h => assumption); (case e => exact rfl); (case x => walk_at "m_ext")) | (refine' chk_no ?h ?e ?R ?_; (case h => assumption); (case e => exact rfl); (case R => assumption))))
section
variable {w : World} {mean : ExcName → Option Value} {mg mb : Str → Option Value} {A A₀ : Around} {base G g : Heap} {outer l : List Env} {env : Env} {s : Shared} {Q E : Value → Shared → Prop} {L : Addr} {m : Str → Option Value} {led : List (Addr × Obj)} {o : Obj}
def limitsF (l : Int) (mo : Option Int) (g : Int) (why : Str) : Option Str :=
  if ¬ (0 ≤ l ∧ l ≤ g) then some why else match mo with
    | none => none
    | some k => if ¬ (0 ≤ k ∧ k ≤ g) then some why else if ¬ l ≤ k then some (Str.ofString "size minimum must not be greater than maximum") else none
set_option maxHeartbeats 4000000 in
theorem limits_ok {a n : Int} {mv : Value} {mo : Option Int} {why : Str} {c1 c2 c3 : Tok} (C : At 80 w mean mg mb A base outer G s.heap) (hm : MostIs mv mo) (h : Chk w base outer s (limitsF a mo n why) Q E) :
    wpAny (model PySem.Challenge.pw_nm0133_01 w) A (call (.ref 119) [.int a c1, mv, .int n c2, .str why c3]) Q E s := by
  have hin := C.inh
  obtain ⟨hd0, dp, fr, gd, un⟩ := A
  obtain rfl : hd0 = none := C.hand
  obtain rfl : fr = some outer := C.B.stack
  refine wpAny_call ?_
  refine' enter [] [(Str.ofString "least", .int a c1), (Str.ofString "most", mv), (Str.ofString "greatest", .int n c2), (Str.ofString "why", .str why c3)] C (by decide) no_led ?k6 ?k7 ?k9 ?kB ?c2 ?c3 ?c4 ?c5 ?_
  walk_at "m_in"
  intro g L' h₁ hg hlt F' N' X' T' H hd hu hA
  have B' := H.B
  clear C
  rcases hm with ⟨rfl, rfl⟩ | ⟨k, tk, rfl, rfl, hk⟩
  · walk_at "m_go"
    all_goals walk_at "m_chk"
    all_goals (simp only [decide_eq_true_eq, decide_eq_false_iff_not] at *)
    all_goals (simp only [limitsF]; (repeat' split) <;> first | rfl | omega)
  · walk_at "m_go"
    all_goals walk_at "m_chk"
    all_goals (simp only [decide_eq_true_eq, decide_eq_false_iff_not] at *)
    all_goals (simp only [limitsF]; (repeat' split) <;> first | rfl | omega)
theorem limits_use {a n : Int} {mv : Value} {mo : Option Int} {why₀ : Str} {c1 c2 c3 : Tok} {lv : Nat} (H : Hr lv w mean mg mb A₀ A base outer env g L) (F : Fr g L s.heap m) (N : News g L s.heap led) (hlv : 80 ≤ lv) (hm : MostIs mv mo)
    (hQ : limitsF a mo n why₀ = none → ∀ h' tk', Fr g L h' m → News g L h' led → Q .none { s with heap := h', toks := tk' })
    (hE : ∀ why, limitsF a mo n why₀ = some why → ∀ e h' tk', Thr w base (env :: outer) s.heap e why (some .none) h' → E (.ref e) { s with heap := h', toks := tk' }) :
    wpAny (model PySem.Challenge.pw_nm0133_01 w) A (call (.ref 119) [.int a c1, mv, .int n c2, .str why₀ c3]) Q E s := limits_ok (H.at F N hlv) hm (chk_in F N hQ hE)
theorem rows_C13_2 : True := by
  k_with "call ref" => (k_here; (with_reducible show wpAny _ _ (call (Value.ref 119) [_, _, _, _]) _ _ _); k_dflt (refine' limits_use ?H ?F ?N ?lv ?hm ?_ ?_; (case H => assumption); (case F => k_asm); (case N => k_asm); (case lv => decide); (case hm => assumption)))
  trivial
end
theorem rows_C14_1 : True := by
  k_with_none
  k_with "call ref" => (k_here; (with_reducible show wpAny _ _ (call (Value.ref 105) [Value.bool _, Value.str _ _]) _ _ _); k_dflt (refine' want_use ?H ?F ?N ?lv ?_ ?_; (case H => assumption); (case F => k_asm); (case N => k_asm); (case lv => decide)))
  k_with "leaving ref" => (k_here; k_dflt (refine' leave_thr (by exact Hr.frames (by assumption)) rfl (.inr rfl) ?R ?hE ?hL ?hin ?_; (case R => assumption); (case hE => walk_at "m_ext"); (case hL => exact frame_none (by assumption) (by assumption)); (case hin => assumption)); intro h'ᵣ R'ᵣ)
  k_with "call ref" => (k_here; (with_reducible show wpAny _ _ (call (Value.ref 91) [Value.int _ _]) _ _ _); k_dflt (refine' is_kind_use ?H ?F ?N ?lv ?_; (case H => assumption); (case F => k_asm); (case N => k_asm); (case lv => decide)); intro h'ᵣ tk'ᵣ F'ᵣ N'ᵣ; (try k_sweep))
  k_with "call ref" => (k_here; (with_reducible show wpAny _ _ (call (Value.ref 98) [Value.int _ _]) _ _ _); k_dflt (refine' is_ref_use ?H ?F ?N ?lv ?_; (case H => assumption); (case F => k_asm); (case N => k_asm); (case lv => decide)); intro h'ᵣ tk'ᵣ F'ᵣ N'ᵣ; (try k_sweep))
  k_with "call ref" => (k_here; (with_reducible show wpAny _ _ (call (Value.ref 119) [_, _, _, _]) _ _ _); k_dflt (refine' limits_use ?H ?F ?N ?lv ?hm ?_ ?_; (case H => assumption); (case F => k_asm); (case N => k_asm); (case lv => decide); (case hm => assumption)))
  trivial
/-- the end of a turn of a loop that reads -/
def EachE (h₀ : Heap) (L : Addr) (J : (Str → Option Value) → Prop) (R : List (Addr × Obj)) (s₁ : Shared) (Q : Flow → Shared → Prop) (f : Flow) (s₂ : Shared) : Prop :=
  match f with
  | .ret v => Q (.ret v) s₂
  | .brk => Q .next s₂
  | _ => ∃ h' tk m' all, s₂ = { s₁ with heap := h', toks := tk } ∧ Fr h₀ L h' m' ∧ News h₀ L h' all ∧ (∀ p ∈ R, p ∈ all) ∧ J m'
theorem each_end {h₀ h' : Heap} {L : Addr} {J : (Str → Option Value) → Prop} {R all : List (Addr × Obj)} {s₁ s' : Shared} {Q : Flow → Shared → Prop} {m' : Str → Option Value} (e : s' = { s₁ with heap := h', toks := s'.toks }) (F : Fr h₀ L h' m') (N : News h₀ L h' all) (hs : ∀ p ∈ R, p ∈ all) (hJ : J m') : EachE h₀ L J R s₁ Q .next s' :=
  ⟨h', s'.toks, m', all, e, F, N, hs, hJ⟩
def EJ (_J : Nat → (Str → Option Value) → Prop) : Prop := True
section
variable {prog : Program} {w : World} {A : Around} {E : Value → Shared → Prop} {s : Shared} {env : Env} {g : Heap} {target : Expr} {body : List Stmt} {Q : Flow → Shared → Prop} {items : Array Value} {led : List (Addr × Obj)} {m : Str → Option Value} {a : Addr} {J : Nat → (Str → Option Value) → Prop}
def EachT (prog : Program) (w : World) (A : Around) (E : Value → Shared → Prop) (s : Shared) (env : Env) (g : Heap) (target : Expr) (body : List Stmt) (Q : Flow → Shared → Prop) (items : Array Value) (led : List (Addr × Obj)) (J : Nat → (Str → Option Value) → Prop) : Prop :=
  ∀ i v m₁ own h tk, items[i]? = some v → J i m₁ → Fr g env.locals h m₁ → News g env.locals h (led ++ own) →
    wpAny (model prog w) A (assign target env v) (fun _ s₂ => wpAny (model prog w) A (execs body env) (EachE g env.locals (J (i + 1)) (led ++ own) { s with heap := h, toks := tk } Q) E s₂) E { s with heap := h, toks := tk }
theorem each_unr {fp : List Addr} {s : Shared} (turn : EachT prog w A E s env g target body Q items led J) (done : ∀ m₁ h tk, J items.size m₁ → Fr g env.locals h m₁ → News g env.locals h led → Q .next { s with heap := h, toks := tk }) :
    ∀ k i m₁, i + k = items.size → J i m₁ → Unr prog w A E g env target body Q (fun i v => items[i]? = some v) fp s k i m₁ led := by
  intro k
  induction k with
  | zero =>
    intro i m₁ hi hJ
    have e : i = items.size := by omega
    subst e
    exact Unr.zero fun h' tk F N => done m₁ h' tk hJ F N
  | succ k ih =>
    intro i m₁ hi hJ
    refine Unr.succ fun v h₁ tk₁ own hP _ F N => ?_
    refine wpAny_mono (turn i v m₁ own h₁ tk₁ hP hJ F fun p hp => N p ((List.mem_append.mp hp).elim (List.mem_append_right _) (List.mem_append_left _))) (fun _ s₂ h₂ => wpAny_mono h₂ (fun f s₃ h₃ => ?_) fun _ _ e => e) fun _ _ e => e
    have fin : (∃ h' tk m' all, s₃ = { s with heap := h', toks := tk } ∧ Fr g env.locals h' m' ∧ News g env.locals h' all ∧ (∀ p ∈ led ++ own, p ∈ all) ∧ J (i + 1) m') →
        LoopStep2 g env.locals own led (Unr prog w A E g env target body Q (fun i v => items[i]? = some v) fp s k (i + 1)) { s with heap := h₁, toks := tk₁ } .next s₃ := by
      rintro ⟨h', tk, m', all, rfl, F', N', hs, hJ'⟩
      exact ⟨rfl, h', tk, m', led, rfl, F', fun p hp => N' p (hs p ((List.mem_append.mp hp).elim (List.mem_append_right _) (List.mem_append_left _))), rfl, ih (i + 1) m' (by omega) hJ'⟩
    cases f with
    | ret v => exact .ret h₃
    | brk => exact .brk h₃
    | next => exact .next (fin h₃)
    | cont => exact .cont (fin h₃)
theorem each_list (_ : EJ J) (hh : A.handled = none) (ht : s.heap.IsList a items) (F : Fr g env.locals s.heap m) (N : News g env.locals s.heap led) (hJ : Later2 (J 0 m))
    (turn : Later2 (EachT prog w A E { s with heap := s.heap.push { cls := .type "list_iterator", data := .fields #[.ref a, .int 0 0] } } env g target body Q items led J))
    (done : Later2 (∀ m₁ h tk, J items.size m₁ → Fr g env.locals h m₁ → News g env.locals h led → Q .next { s with heap := h, toks := tk })) :
    wpAny (model prog w) A (pyIter (.ref a)) (fun it s₂ => UnrAt prog w A g env target body Q E it s₂) E s := by
  refine Iter_list_unr hh ht F N (fun z => ?_) (each_unr turn done _ _ _ (by simp) hJ)
  subst z
  obtain ⟨o, es, ep, ho, hd, _⟩ := F.ns
  obtain ⟨o', ho', _, n, hd'⟩ := ht
  rw [ho] at ho'; cases ho'; rw [hd] at hd'; cases hd'
theorem each_tuple (_ : EJ J) (hh : A.handled = none) (ht : IsTup s.heap a items) (F : Fr g env.locals s.heap m) (N : News g env.locals s.heap led) (hJ : Later2 (J 0 m))
    (turn : Later2 (EachT prog w A E { s with heap := s.heap.push { cls := .type "tuple_iterator", data := .fields #[.ref a, .int 0 0] } } env g target body Q items led J))
    (done : Later2 (∀ m₁ h tk, J items.size m₁ → Fr g env.locals h m₁ → News g env.locals h led → Q .next { s with heap := h, toks := tk })) :
    wpAny (model prog w) A (pyIter (.ref a)) (fun it s₂ => UnrAt prog w A g env target body Q E it s₂) E s :=
  Iter_tuple_unr hh ht F N (F.tup_ne ht) (each_unr turn done _ _ _ (by simp) hJ)
end
theorem news_dup {g h : Heap} {L : Addr} {led : List (Addr × Obj)} {p : Addr × Obj} (N : News g L h led) (hp : p ∈ led) : News g L h (p :: led) := fun q hq => (List.mem_cons.mp hq).elim (fun e => e ▸ N _ hp) (N q)
theorem news_more {g h : Heap} {L : Addr} {led : List (Addr × Obj)} (N : News g L h led) (more : List (Addr × Obj)) (hp : ∀ p ∈ more, p ∈ led) : News g L h (more ++ led) := fun q hq => (List.mem_append.mp hq).elim (fun e => N _ (hp _ e)) (N q)
theorem rows_C14_2 : True := by
  k_with "exec For Name Name cons nil" => (k_here; (rename Fr _ _ _ _ => lF'ᵣ); k_dflt (refine' For_unrF lF'ᵣ ?_ ?hs; (case hs => (intro _; rfl))))
  k_with "exec For Name Attribute cons nil" => (k_here; (rename Fr _ _ _ _ => lF'ᵣ); k_dflt (refine' For_unrF lF'ᵣ ?_ ?hs; (case hs => (intro _; rfl))))
  k_with "exec For Tuple Attribute cons nil" => (k_here; (rename Fr _ _ _ _ => lF'ᵣ); k_dflt (refine' For_unrF lF'ᵣ ?_ ?hs; (case hs => (intro _; rfl))))
  k_with "pyIter ref" => ((with_reducible show wpAny _ _ (pyIter (Value.ref _)) (fun it s₂ => UnrAt _ _ _ _ _ _ _ _ _ it s₂) _ _); k_dflt (first
  | (refine' each_tuple ?kJ (by exact rfl) ?k1 ?k3 ?k4 ?ea0 ?eaT ?eaF; (case kJ => assumption); (case k3 => k_asm); (case k4 => k_asm); (case k1 => exact News.isTup (by assumption) (by k_mem)))
  | (refine' each_list ?kJ (by exact rfl) ?k1 ?k3 ?k4 ?ea0 ?eaT ?eaF; (case kJ => assumption); (case k3 => k_asm); (case k4 => k_asm); (case k1 => exact News.isList (by assumption) (by k_mem)))))
  trivial
theorem ints_at {vs : List Value} {ks : List Int} (h : IntsAre vs ks) : ∀ {i : Nat} {v : Value}, vs.toArray[i]? = some v → ∃ k t, v = .int k t ∧ ks[i]? = some k := by
  induction h with
  | nil => intro i v e; simp at e
  | cons k t r ih =>
    intro i v e
    cases i with
    | zero => simp at e; subst e; exact ⟨_, _, rfl, by simp⟩
    | succ i => simpa using ih (by simpa using e)
def kindsF (ks : List Int) : Option Str := if ks.all isKind then none else some (Str.ofString "unknown value kind")
theorem kindsF_no {ks : List Int} {i : Nat} {k : Int} (h : ks[i]? = some k) (hk : isKind k = false) : kindsF ks = some (Str.ofString "unknown value kind") := by
  unfold kindsF
  rw [if_neg]
  intro q
  have := List.all_eq_true.mp q k (List.mem_of_getElem? h)
  rw [hk] at this; cases this
theorem take_all {α : Type} {p : α → Bool} {xs : List α} {i : Nat} {x : α} (h : xs[i]? = some x) (h1 : (xs.take i).all p = true) (h2 : p x = true) : (xs.take (i + 1)).all p = true := by
  rw [List.take_add_one, h, List.all_append, h1]
  simp [h2]
theorem lookup_if {z k : Str} {b : Value} {es : List (Str × Value)} : List.lookup z ((k, b) :: es) = if z = k then some b else List.lookup z es := by
  by_cases h : z = k
  · subst h; simp
  · rw [List.lookup_cons, if_neg h, show (z == k) = false from by simpa using h]
local macro_rules | `(tactic| walk_at "m_map") => `(tactic| (intro z hz; first | (intro hz2; simp only [List.reverse_cons, List.reverse_nil, List.nil_append, List.cons_append, lookup_if, List.lookup_nil, hz, hz2, if_false]) | simp only [List.reverse_cons, List.reverse_nil, List.nil_append, List.cons_append, lookup_if, List.lookup_nil, hz, if_false]))
/-- a map that differs at one name -/
theorem map_canon {m m₀ : Str → Option Value} {x : Str} (h : ∀ z, z ≠ x → m z = m₀ z) : ∃ u, m = fun z => if z = x then u else m₀ z := ⟨m x, funext fun z => by
  by_cases e : z = x
  · simp [e]
  · simp only [if_neg e]; exact h z e⟩
theorem map_canon2 {m m₀ : Str → Option Value} {x y : Str} (h : ∀ z, z ≠ x → z ≠ y → m z = m₀ z) : ∃ u v, m = fun z => if z = x then u else if z = y then v else m₀ z := ⟨m x, m y, funext fun z => by
  by_cases e : z = x
  · simp [e]
  · by_cases e' : z = y
    · rw [if_neg e, if_pos e', e']
    · simp only [if_neg e, if_neg e']; exact h z e e'⟩
section
variable {w : World} {mean : ExcName → Option Value} {mg mb : Str → Option Value} {A A₀ : Around} {base G g : Heap} {outer l : List Env} {env : Env} {s : Shared} {Q E : Value → Shared → Prop} {L : Addr} {m : Str → Option Value} {led : List (Addr × Obj)} {o : Obj}
set_option maxHeartbeats 4000000 in
theorem want_kinds_ok {a : Addr} {vs : List Value} {ks : List Int} {T : List (Addr × Obj)} (C : At 90 w mean mg mb A base outer G s.heap) (hT : ∀ p ∈ T, s.heap.get? p.1 = some p.2 ∧ G.get? p.1 = none)
    (ha : (a, tupO (List.toArray vs)) ∈ T) (hi : IntsAre vs ks) (h : Chk w base outer s (kindsF ks) Q E) :
    wpAny (model PySem.Challenge.pw_nm0133_01 w) A (call (.ref 112) [.ref a]) Q E s := by
  have hin := C.inh
  obtain ⟨hd0, dp, fr, gd, un⟩ := A
  obtain rfl : hd0 = none := C.hand
  obtain rfl : fr = some outer := C.B.stack
  refine wpAny_call ?_
  refine' enter T [(Str.ofString "kinds", .ref a)] C (by decide) hT ?k6 ?k7 ?k9 ?kB ?c2 ?c3 ?c4 ?c5 ?_
  walk_at "m_in"
  intro g L' h₁ hg hlt F' N' X' T' H hd hu hA
  have B' := H.B
  clear C
  replace N' : News g L' h₁ ((a, tupO (List.toArray vs)) :: T) := fun p hp => (List.mem_cons.mp hp).elim (fun e => e ▸ N' _ ha) (N' p)
  have hEJ : EJ (fun i m => (∀ z, z ≠ Str.ofString "kind" → m z = if z = Str.ofString "kinds" then some (.ref a) else none) ∧ (ks.take i).all isKind = true) := trivial
  walk_at "m_go"
  case ea0 => exact ⟨by walk_at "m_map", by simp⟩
  case eaT =>
    unfold Later2 EachT
    (with_reducible rename Fr _ _ _ _ => FK; clear FK N')
    intro i v m₁ own h₂ tk₂ hv hJ F' N'
    obtain ⟨hm, hp⟩ := hJ
    obtain ⟨u, rfl⟩ := map_canon hm
    obtain ⟨k, t, rfl, hk⟩ := ints_at hi hv
    simp only [List.cons_append] at N'
    replace F' : Fr g L' h₂ _ := F'
    replace N' : News g L' h₂ _ := N'
    clear hEJ
    k_steps
    · exact each_end (by exact rfl) (by assumption) (by assumption) (by walk_at "m_sub") ⟨by walk_at "m_map", take_all hk hp (by assumption)⟩
    · walk_at "m_chk"
      exact kindsF_no hk (by assumption)
  case eaF =>
    unfold Later2
    (with_reducible rename Fr _ _ _ _ => FK; clear FK N')
    intro m₁ h₂ tk₂ hJ F' N'
    obtain ⟨hm, hp⟩ := hJ
    replace F' : Fr g L' h₂ _ := F'
    replace N' : News g L' h₂ _ := N'
    clear hEJ
    dsimp only
    k_steps
    walk_at "m_chk"
    rw [kindsF, if_pos]
    rwa [List.take_of_length_le (by have := hi.length; simp; omega)] at hp
theorem led_T {h : Heap} (N : News g L h led) : ∀ p ∈ led, h.get? p.1 = some p.2 ∧ (hideAll h (led.map (·.1))).get? p.1 = none := fun p hp => ⟨(N p hp).1, hideAll_none _ (List.mem_map_of_mem hp)⟩
theorem want_kinds_use {a : Addr} {vs : List Value} {ks : List Int} {lv : Nat} (H : Hr lv w mean mg mb A₀ A base outer env g L) (F : Fr g L s.heap m) (N : News g L s.heap led) (hlv : 90 ≤ lv) (ha : (a, tupO (List.toArray vs)) ∈ led) (hi : IntsAre vs ks)
    (hQ : kindsF ks = none → ∀ h' tk', Fr g L h' m → News g L h' led → Q .none { s with heap := h', toks := tk' })
    (hE : ∀ why, kindsF ks = some why → ∀ e h' tk', Thr w base (env :: outer) s.heap e why (some .none) h' → E (.ref e) { s with heap := h', toks := tk' }) :
    wpAny (model PySem.Challenge.pw_nm0133_01 w) A (call (.ref 112) [.ref a]) Q E s := want_kinds_ok (H.at F N hlv) (led_T N) ha hi (chk_in F N hQ hE)
theorem rows_C14_4 : True := by
  k_with "call ref" => (k_here; (with_reducible show wpAny _ _ (call (Value.ref 112) [Value.ref _]) _ _ _); k_dflt (refine' want_kinds_use ?H ?F ?N ?lv ?ha ?hi ?_ ?_; (case H => assumption); (case F => k_asm); (case N => k_asm); (case lv => decide); (case ha => k_mem); (case hi => assumption)))
  trivial
theorem allV_at {α : Type} {R : Value → α → Prop} {vs : List Value} {xs : List α} (h : AllV R vs xs) : ∀ {i : Nat} {v : Value}, vs.toArray[i]? = some v → ∃ x, xs[i]? = some x ∧ R v x := by
  induction h with
  | nil => intro i v e; simp at e
  | cons r _ ih =>
    intro i v e
    cases i with
    | zero => simp at e; subst e; exact ⟨_, by simp, r⟩
    | succ i => simpa using ih (by simpa using e)
theorem find_take {α : Type} {f : α → Option Str} {xs : List α} {i : Nat} {x : α} (h : xs[i]? = some x) (h1 : (xs.take i).findSome? f = none) (h2 : f x = none) : (xs.take (i + 1)).findSome? f = none := by
  rw [List.take_add_one, h, List.findSome?_append, h1]
  simp [h2]
theorem find_at {α : Type} {f : α → Option Str} {xs : List α} {i : Nat} {x : α} {why : Str} (h : xs[i]? = some x) (h1 : (xs.take i).findSome? f = none) (h2 : f x = some why) : xs.findSome? f = some why := by
  obtain ⟨hi, rfl⟩ := List.getElem?_eq_some_iff.mp h
  have e : xs = xs.take i ++ xs[i] :: xs.drop (i + 1) := by simp
  rw [e, List.findSome?_append, h1, Option.none_or, List.findSome?_cons, h2]
def pairF (p : List Int × List Int) : Option Str := match kindsF p.1 with | some why => some why | none => kindsF p.2
theorem pairF_none {p : List Int × List Int} (h1 : kindsF p.1 = none) (h2 : kindsF p.2 = none) : pairF p = none := by rw [pairF, h1, h2]
theorem pairF_one {p : List Int × List Int} {why : Str} (h1 : kindsF p.1 = some why) : pairF p = some why := by rw [pairF, h1]
theorem pairF_two {p : List Int × List Int} {why : Str} (h1 : kindsF p.1 = none) (h2 : kindsF p.2 = some why) : pairF p = some why := by rw [pairF, h1, h2]
def typesF (ks : List (List Int × List Int)) : Option Str := ks.findSome? pairF
set_option maxHeartbeats 4000000 in
theorem types_ok {x : Addr} {M : Mod} {T : List (Addr × Obj)} (C : At 120 w mean mg mb A base outer G s.heap) (hT : ∀ p ∈ T, s.heap.get? p.1 = some p.2 ∧ G.get? p.1 = none)
    (hM : ModV (Mem T) x M) (h : Chk w base outer s (typesF M.kinds) Q E) :
    wpAny (model PySem.Challenge.pw_nm0133_01 w) A (call (.ref 161) [.ref x]) Q E s := by
  have hin := C.inh
  obtain ⟨hd0, dp, fr, gd, un⟩ := A
  obtain rfl : hd0 = none := C.hand
  obtain rfl : fr = some outer := C.B.stack
  refine wpAny_call ?_
  refine' enter T [(Str.ofString "module", .ref x)] C (by decide) hT ?k6 ?k7 ?k9 ?kB ?c2 ?c3 ?c4 ?c5 ?_
  walk_at "m_in"
  intro g L' h₁ hg hlt F' N' X' T' H hd hu hA
  have B' := H.B
  clear C
  obtain ⟨dx, h1, h2, h3, h4, h5, h6, h7, h8, h9, h10, h11, b1, b2, b3, b4, b5, b6, b7, b8, b9, b10, b11, K1, K2, a3, K4, K5, a6, a7, a8, a9, a10, ys, zs, vs, ts, ms, gs, n1, n2, n3, n4, n5, n6, q⟩ := hM
  have N2 := news_dup N' q.k1
  replace N' := news_dup (news_dup N2 (.tail _ q.di)) (.tail _ (.tail _ q.ob))
  clear N2
  have hEJ : EJ (fun i m => (∀ z, z ≠ Str.ofString "params" → z ≠ Str.ofString "results" → m z = if z = Str.ofString "module" then some (.ref x) else none) ∧ (M.kinds.take i).findSome? pairF = none) := trivial
  walk_at "m_go"
  case ea0 => exact ⟨by walk_at "m_map", by simp⟩
  case eaT =>
    unfold Later2 EachT
    (with_reducible rename Fr _ _ _ _ => FK; clear FK N')
    intro i v m₁ own h₂ tk₂ hv hJ F' N'
    obtain ⟨hm, hp⟩ := hJ
    obtain ⟨u1, u2, rfl⟩ := map_canon2 hm
    obtain ⟨⟨ks, js⟩, hk, a, b, c, ws, us, rfl, p1, p2, i1, l1, p3, i2, l2⟩ := allV_at q.v1 hv
    simp only [List.cons_append] at N'
    replace F' : Fr g L' h₂ _ := F'
    replace N' : News g L' h₂ _ := N'
    replace N' := news_more N' [(a, tupO #[.ref b, .ref c]), (b, tupO (List.toArray ws)), (c, tupO (List.toArray us))] (by intro r hr; simp only [List.mem_cons, List.not_mem_nil, or_false] at hr; simp only [List.mem_cons, List.mem_append]; rcases hr with rfl | rfl | rfl <;> simp [show _ ∈ T from p1, show _ ∈ T from p2, show _ ∈ T from p3])
    simp only [List.cons_append, List.nil_append] at N'
    clear hEJ
    k_steps
    all_goals first
      | exact each_end (by exact rfl) (by assumption) (by assumption) (by walk_at "m_sub") ⟨by walk_at "m_map", find_take hk hp (pairF_none (by assumption) (by assumption))⟩
      | (walk_at "m_chk"; exact find_at hk hp (by first | exact pairF_one (by assumption) | exact pairF_two (by assumption) (by assumption)))
  case eaF =>
    unfold Later2
    (with_reducible rename Fr _ _ _ _ => FK; clear FK N')
    intro m₁ h₂ tk₂ hJ F' N'
    obtain ⟨hm, hp⟩ := hJ
    replace F' : Fr g L' h₂ _ := F'
    replace N' : News g L' h₂ _ := N'
    clear hEJ
    dsimp only
    k_steps
    walk_at "m_chk"
    rw [typesF]
    rwa [List.take_of_length_le (by have := q.v1.length; simp; omega)] at hp
end
theorem rows_C15_1 : True := by
  k_with_none
  k_with "call ref" => (k_here; (with_reducible show wpAny _ _ (call (Value.ref 105) [Value.bool _, Value.str _ _]) _ _ _); k_dflt (refine' want_use ?H ?F ?N ?lv ?_ ?_; (case H => assumption); (case F => k_asm); (case N => k_asm); (case lv => decide)))
  k_with "leaving ref" => (k_here; k_dflt (refine' leave_thr (by exact Hr.frames (by assumption)) rfl (.inr rfl) ?R ?hE ?hL ?hin ?_; (case R => assumption); (case hE => walk_at "m_ext"); (case hL => exact frame_none (by assumption) (by assumption)); (case hin => assumption)); intro h'ᵣ R'ᵣ)
  k_with "call ref" => (k_here; (with_reducible show wpAny _ _ (call (Value.ref 91) [Value.int _ _]) _ _ _); k_dflt (refine' is_kind_use ?H ?F ?N ?lv ?_; (case H => assumption); (case F => k_asm); (case N => k_asm); (case lv => decide)); intro h'ᵣ tk'ᵣ F'ᵣ N'ᵣ; (try k_sweep))
  k_with "call ref" => (k_here; (with_reducible show wpAny _ _ (call (Value.ref 98) [Value.int _ _]) _ _ _); k_dflt (refine' is_ref_use ?H ?F ?N ?lv ?_; (case H => assumption); (case F => k_asm); (case N => k_asm); (case lv => decide)); intro h'ᵣ tk'ᵣ F'ᵣ N'ᵣ; (try k_sweep))
  k_with "call ref" => (k_here; (with_reducible show wpAny _ _ (call (Value.ref 119) [_, _, _, _]) _ _ _); k_dflt (refine' limits_use ?H ?F ?N ?lv ?hm ?_ ?_; (case H => assumption); (case F => k_asm); (case N => k_asm); (case lv => decide); (case hm => assumption)))
  k_with "exec For Name Name cons nil" => (k_here; (rename Fr _ _ _ _ => lF'ᵣ); k_dflt (refine' For_unrF lF'ᵣ ?_ ?hs; (case hs => (intro _; rfl))))
  k_with "exec For Name Attribute cons nil" => (k_here; (rename Fr _ _ _ _ => lF'ᵣ); k_dflt (refine' For_unrF lF'ᵣ ?_ ?hs; (case hs => (intro _; rfl))))
  k_with "exec For Tuple Attribute cons nil" => (k_here; (rename Fr _ _ _ _ => lF'ᵣ); k_dflt (refine' For_unrF lF'ᵣ ?_ ?hs; (case hs => (intro _; rfl))))
  k_with "pyIter ref" => ((with_reducible show wpAny _ _ (pyIter (Value.ref _)) (fun it s₂ => UnrAt _ _ _ _ _ _ _ _ _ it s₂) _ _); k_dflt (first
  | (refine' each_tuple ?kJ (by exact rfl) ?k1 ?k3 ?k4 ?ea0 ?eaT ?eaF; (case kJ => assumption); (case k3 => k_asm); (case k4 => k_asm); (case k1 => exact News.isTup (by assumption) (by k_mem)))
  | (refine' each_list ?kJ (by exact rfl) ?k1 ?k3 ?k4 ?ea0 ?eaT ?eaF; (case kJ => assumption); (case k3 => k_asm); (case k4 => k_asm); (case k1 => exact News.isList (by assumption) (by k_mem)))))
  k_with "call ref" => (k_here; (with_reducible show wpAny _ _ (call (Value.ref 112) [Value.ref _]) _ _ _); k_dflt (refine' want_kinds_use ?H ?F ?N ?lv ?ha ?hi ?_ ?_; (case H => assumption); (case F => k_asm); (case N => k_asm); (case lv => decide); (case ha => k_mem); (case hi => assumption)))
  k_with "call builtin:len" => (k_here; (with_reducible show wpAny _ _ (call (Value.builtin _) [Value.ref _]) _ _ _); k_dflt (refine' my_len ?N ?m ?l ?_; (case N => k_asm); (case m => k_mem); (case l => ((have hLX := AllV.length (by assumption)); omega))))
  trivial
inductive SizesV (P : PO) (z : Addr) (pg el : Int) : Prop
  | mk : ∀ dz n h1 h2 h3 h4 h5 b1 b2 b3 b4 b5 c1 c2 c3 c4, (P z (instObj 80 dz) ∧
  P dz (dictOf [En h1 "page" b1 (.int 16 c1), En h2 "pages" b2 (.int pg c2), En h3 "elements" b3 (.int el c3), En h4 "depth" b4 (.int 60 c4), En h5 "fuel" b5 .none] n)) → SizesV P z pg el
theorem SizesV.mono {P P' : PO} (h : ∀ a o, P a o → P' a o) {z : Addr} {pg el : Int} (q : SizesV P z pg el) : SizesV P' z pg el := by
  obtain ⟨dz, n, h1, h2, h3, h4, h5, b1, b2, b3, b4, b5, c1, c2, c3, c4, p1, p2⟩ := q
  exact ⟨dz, n, h1, h2, h3, h4, h5, b1, b2, b3, b4, b5, c1, c2, c3, c4, h _ _ p1, h _ _ p2⟩
theorem sz_up {T led : List (Addr × Obj)} {z : Addr} {pg el : Int} (q : SizesV (Mem T) z pg el) (h : ∀ p ∈ T, p ∈ led) : SizesV (Mem led) z pg el := q.mono fun a o hp => h _ hp
theorem mod_up {T led : List (Addr × Obj)} {x : Addr} {M : Mod} (q : ModV (Mem T) x M) (h : ∀ p ∈ T, p ∈ led) : ModV (Mem led) x M := q.mono fun a o hp => h _ hp
def tabText (el : Int) : Str := Str.empty ++ Str.ofString "table size must be at most " ++ Str.ofString (toString el) ++ Str.ofString " elements"
def memText (pg : Int) : Str := Str.empty ++ Str.ofString "memory size must be at most " ++ Str.ofString (toString pg) ++ Str.ofString " pages" ++ Str.ofString ""
def tableF (el : Int) (x : Int × Int × Option Int) : Option Str := if isRef x.1 then limitsF x.2.1 x.2.2 el (tabText el) else some (Str.ofString "unknown reference kind")
def memF (pg : Int) (x : Int × Option Int) : Option Str := limitsF x.1 x.2 pg (memText pg)
def cellF (x : Int × Int) : Option Str := if isKind x.1 then (if x.2 = 0 ∨ x.2 = 1 then none else some (Str.ofString "malformed mutability")) else some (Str.ofString "unknown value kind")
theorem cell_no {mu : Int} (h1 : mu ≠ 0) (h2 : (mu == 1) = false) : ¬ (mu = 0 ∨ mu = 1) := fun q => q.elim h1 fun e => by rw [e] at h2; cases h2
theorem cell_odd {mu : Int} (h1 : mu = 0) (h2 : (mu == 0) = false) : False := by rw [h1] at h2; cases h2
theorem isK_no {b : Bool} (h : b = false) : ¬ (b = true) := by rw [h]; decide
def typeF (n i : Int) : Option Str := if 0 ≤ i ∧ i < n then none else some (Str.ofString "unknown type")
section
variable {w : World} {mean : ExcName → Option Value} {mg mb : Str → Option Value} {A A₀ : Around} {base G g : Heap} {outer l : List Env} {env : Env} {s : Shared} {Q E : Value → Shared → Prop} {L : Addr} {m : Str → Option Value} {led : List (Addr × Obj)} {o : Obj}
set_option maxHeartbeats 4000000 in
theorem table_kind_ok {a z : Addr} {k lo pg el : Int} {tk t : Tok} {mv : Value} {mo : Option Int} {T : List (Addr × Obj)} (C : At 120 w mean mg mb A base outer G s.heap) (hT : ∀ p ∈ T, s.heap.get? p.1 = some p.2 ∧ G.get? p.1 = none)
    (ha : (a, tupO #[.int k tk, .int lo t, mv]) ∈ T) (hm : MostIs mv mo) (hZ : SizesV (Mem T) z pg el) (hp : 0 ≤ pg ∧ pg ≤ 100) (he : 0 ≤ el ∧ el ≤ 100) (h : Chk w base outer s (tableF el (k, lo, mo)) Q E) :
    wpAny (model PySem.Challenge.pw_nm0133_01 w) A (call (.ref 133) [.ref a, .ref z]) Q E s := by
  have hin := C.inh
  obtain ⟨hd0, dp, fr, gd, un⟩ := A
  obtain rfl : hd0 = none := C.hand
  obtain rfl : fr = some outer := C.B.stack
  refine wpAny_call ?_
  refine' enter T [(Str.ofString "about", .ref a), (Str.ofString "sizes", .ref z)] C (by decide) hT ?k6 ?k7 ?k9 ?kB ?c2 ?c3 ?c4 ?c5 ?_
  walk_at "m_in"
  intro g L' h₁ hg hlt F' N' X' T' H hd hu hA
  have B' := H.B
  clear C
  obtain ⟨dz, n, h1, h2, h3, h4, h5, b1, b2, b3, b4, b5, c1, c2, c3, c4, p1, p2⟩ := hZ
  replace N' := news_more N' [(a, tupO #[.int k tk, .int lo t, mv]), (z, instObj 80 dz), (dz, dictOf [En h1 "page" b1 (.int 16 c1), En h2 "pages" b2 (.int pg c2), En h3 "elements" b3 (.int el c3), En h4 "depth" b4 (.int 60 c4), En h5 "fuel" b5 .none] n)] (by intro r hr; simp only [List.mem_cons, List.not_mem_nil, or_false] at hr; rcases hr with rfl | rfl | rfl <;> assumption)
  simp only [List.cons_append, List.nil_append] at N'
  walk_at "m_go"
  all_goals walk_at "m_chk"
  all_goals (unfold tableF)
  all_goals first
    | (rw [if_pos (by assumption)]; assumption)
    | (rw [if_neg (by simpa using (by assumption : isRef k = false))])
set_option maxHeartbeats 4000000 in
theorem pages_text_ok {z : Addr} {pg el : Int} {T : List (Addr × Obj)} (C : At 60 w mean mg mb A base outer G s.heap) (hT : ∀ p ∈ T, s.heap.get? p.1 = some p.2 ∧ G.get? p.1 = none)
    (hZ : SizesV (Mem T) z pg el) (hp : 0 ≤ pg ∧ pg ≤ 100) (he : 0 ≤ el ∧ el ≤ 100) (h : ∀ h' tk' c, Ext s.heap h' → Q (.str (memText pg) c) { s with heap := h', toks := tk' }) :
    wpAny (model PySem.Challenge.pw_nm0133_01 w) A (call (.ref 126) [.ref z]) Q E s := by
  have hin := C.inh
  obtain ⟨hd0, dp, fr, gd, un⟩ := A
  obtain rfl : hd0 = none := C.hand
  obtain rfl : fr = some outer := C.B.stack
  refine wpAny_call ?_
  refine' enter T [(Str.ofString "sizes", .ref z)] C (by decide) hT ?k6 ?k7 ?k9 ?kB ?c2 ?c3 ?c4 ?c5 ?_
  walk_at "m_in"
  intro g L' h₁ hg hlt F' N' X' T' H hd hu hA
  have B' := H.B
  clear C
  obtain ⟨dz, n, h1, h2, h3, h4, h5, b1, b2, b3, b4, b5, c1, c2, c3, c4, p1, p2⟩ := hZ
  replace N' := news_more N' [(z, instObj 80 dz), (dz, dictOf [En h1 "page" b1 (.int 16 c1), En h2 "pages" b2 (.int pg c2), En h3 "elements" b3 (.int el c3), En h4 "depth" b4 (.int 60 c4), En h5 "fuel" b5 .none] n)] (by intro r hr; simp only [List.mem_cons, List.not_mem_nil, or_false] at hr; rcases hr with rfl | rfl <;> assumption)
  simp only [List.cons_append, List.nil_append] at N'
  walk_at "m_go"
  all_goals first
    | exact h _ _ _ (by walk_at "m_ext")
    | (exfalso; omega)
theorem pages_use {z : Addr} {pg el : Int} {lv : Nat} (H : Hr lv w mean mg mb A₀ A base outer env g L) (F : Fr g L s.heap m) (N : News g L s.heap led) (hlv : 60 ≤ lv) (hZ : SizesV (Mem led) z pg el) (hp : 0 ≤ pg ∧ pg ≤ 100) (he : 0 ≤ el ∧ el ≤ 100)
    (h : ∀ h' tk' c, Fr g L h' m → News g L h' led → Q (.str (memText pg) c) { s with heap := h', toks := tk' }) :
    wpAny (model PySem.Challenge.pw_nm0133_01 w) A (call (.ref 126) [.ref z]) Q E s := pages_text_ok (H.at F N hlv) (led_T N) hZ hp he fun h' tk' c x => h h' tk' c (fr_ext F x) (news_ext N x)
theorem rows_C15_2 : True := by
  k_with "call ref" => (k_here; (with_reducible show wpAny _ _ (call (Value.ref 126) [Value.ref _]) _ _ _); k_dflt (refine' pages_use ?H ?F ?N ?lv ?Z ?hp ?he ?_; (case H => assumption); (case F => k_asm); (case N => k_asm); (case lv => decide); (case Z => exact sz_up (by assumption) (by walk_at "m_sub")); (case hp => assumption); (case he => assumption)); intro h'ᵣ tk'ᵣ c'ᵣ F'ᵣ N'ᵣ; (try k_sweep))
  trivial
set_option maxHeartbeats 4000000 in
theorem memory_kind_ok {a z : Addr} {lo pg el : Int} {t : Tok} {mv : Value} {mo : Option Int} {T : List (Addr × Obj)} (C : At 120 w mean mg mb A base outer G s.heap) (hT : ∀ p ∈ T, s.heap.get? p.1 = some p.2 ∧ G.get? p.1 = none)
    (ha : (a, tupO #[.int lo t, mv]) ∈ T) (hm : MostIs mv mo) (hZ : SizesV (Mem T) z pg el) (hp : 0 ≤ pg ∧ pg ≤ 100) (he : 0 ≤ el ∧ el ≤ 100) (h : Chk w base outer s (memF pg (lo, mo)) Q E) :
    wpAny (model PySem.Challenge.pw_nm0133_01 w) A (call (.ref 140) [.ref a, .ref z]) Q E s := by
  have hin := C.inh
  obtain ⟨hd0, dp, fr, gd, un⟩ := A
  obtain rfl : hd0 = none := C.hand
  obtain rfl : fr = some outer := C.B.stack
  refine wpAny_call ?_
  refine' enter T [(Str.ofString "about", .ref a), (Str.ofString "sizes", .ref z)] C (by decide) hT ?k6 ?k7 ?k9 ?kB ?c2 ?c3 ?c4 ?c5 ?_
  walk_at "m_in"
  intro g L' h₁ hg hlt F' N' X' T' H hd hu hA
  have B' := H.B
  clear C
  have hZ₀ := hZ
  obtain ⟨dz, n, h1, h2, h3, h4, h5, b1, b2, b3, b4, b5, c1, c2, c3, c4, p1, p2⟩ := hZ
  replace N' := news_more N' [(a, tupO #[.int lo t, mv]), (z, instObj 80 dz), (dz, dictOf [En h1 "page" b1 (.int 16 c1), En h2 "pages" b2 (.int pg c2), En h3 "elements" b3 (.int el c3), En h4 "depth" b4 (.int 60 c4), En h5 "fuel" b5 .none] n)] (by intro r hr; simp only [List.mem_cons, List.not_mem_nil, or_false] at hr; rcases hr with rfl | rfl | rfl <;> assumption)
  simp only [List.cons_append, List.nil_append] at N'
  walk_at "m_go"
  all_goals walk_at "m_chk"
  all_goals assumption
set_option maxHeartbeats 4000000 in
theorem global_kind_ok {a : Addr} {k mu : Int} {tk t : Tok} {T : List (Addr × Obj)} (C : At 100 w mean mg mb A base outer G s.heap) (hT : ∀ p ∈ T, s.heap.get? p.1 = some p.2 ∧ G.get? p.1 = none)
    (ha : (a, tupO #[.int k tk, .int mu t]) ∈ T) (h : Chk w base outer s (cellF (k, mu)) Q E) :
    wpAny (model PySem.Challenge.pw_nm0133_01 w) A (call (.ref 147) [.ref a]) Q E s := by
  have hin := C.inh
  obtain ⟨hd0, dp, fr, gd, un⟩ := A
  obtain rfl : hd0 = none := C.hand
  obtain rfl : fr = some outer := C.B.stack
  refine wpAny_call ?_
  refine' enter T [(Str.ofString "about", .ref a)] C (by decide) hT ?k6 ?k7 ?k9 ?kB ?c2 ?c3 ?c4 ?c5 ?_
  walk_at "m_in"
  intro g L' h₁ hg hlt F' N' X' T' H hd hu hA
  have B' := H.B
  clear C
  replace N' := news_dup N' ha
  walk_at "m_go"
  all_goals walk_at "m_chk"
  all_goals (unfold cellF; dsimp only)
  all_goals first
    | (exfalso; exact cell_odd (by assumption) (by assumption))
    | rw [if_pos (by assumption), if_pos (.inl (by assumption))]
    | rw [if_pos (by assumption), if_pos (.inr (beq_iff_eq.mp (by assumption)))]
    | rw [if_pos (by assumption), if_neg (cell_no (by assumption) (by assumption))]
    | rw [if_neg (isK_no (by assumption))]
set_option maxHeartbeats 4000000 in
theorem want_type_ok {x : Addr} {M : Mod} {i : Int} {t : Tok} {T : List (Addr × Obj)} (C : At 100 w mean mg mb A base outer G s.heap) (hT : ∀ p ∈ T, s.heap.get? p.1 = some p.2 ∧ G.get? p.1 = none)
    (hM : ModV (Mem T) x M) (hK : M.kinds.length ≤ 3) (h : Chk w base outer s (typeF M.kinds.length i) Q E) :
    wpAny (model PySem.Challenge.pw_nm0133_01 w) A (call (.ref 154) [.ref x, .int i t]) Q E s := by
  have hin := C.inh
  obtain ⟨hd0, dp, fr, gd, un⟩ := A
  obtain rfl : hd0 = none := C.hand
  obtain rfl : fr = some outer := C.B.stack
  refine wpAny_call ?_
  refine' enter T [(Str.ofString "module", .ref x), (Str.ofString "index", .int i t)] C (by decide) hT ?k6 ?k7 ?k9 ?kB ?c2 ?c3 ?c4 ?c5 ?_
  walk_at "m_in"
  intro g L' h₁ hg hlt F' N' X' T' H hd hu hA
  have B' := H.B
  clear C
  obtain ⟨dx, h1, h2, h3, h4, h5, h6, h7, h8, h9, h10, h11, b1, b2, b3, b4, b5, b6, b7, b8, b9, b10, b11, K1, K2, a3, K4, K5, a6, a7, a8, a9, a10, ys, zs, vs, ts, ms, gs, n1, n2, n3, n4, n5, n6, q⟩ := hM
  have N2 := news_dup N' q.k1
  replace N' := news_dup (news_dup N2 (.tail _ q.di)) (.tail _ (.tail _ q.ob))
  clear N2
  have hlen := q.v1.length
  have hv1 := q.v1
  walk_at "m_go"
  all_goals walk_at "m_chk"
  all_goals (rw [← hlen]; simp only [decide_eq_true_eq, decide_eq_false_iff_not] at *; unfold typeF; (repeat' split) <;> first | rfl | omega)
theorem tk_use {a z : Addr} {k lo pg el : Int} {tk t : Tok} {mv : Value} {mo : Option Int} {lv : Nat} (H : Hr lv w mean mg mb A₀ A base outer env g L) (F : Fr g L s.heap m) (N : News g L s.heap led) (hlv : 120 ≤ lv) (ha : (a, tupO #[.int k tk, .int lo t, mv]) ∈ led) (hm : MostIs mv mo) (hZ : SizesV (Mem led) z pg el) (hp : 0 ≤ pg ∧ pg ≤ 100) (he : 0 ≤ el ∧ el ≤ 100)
    (hQ : tableF el (k, lo, mo) = none → ∀ h' tk', Fr g L h' m → News g L h' led → Q .none { s with heap := h', toks := tk' })
    (hE : ∀ why, tableF el (k, lo, mo) = some why → ∀ e h' tk', Thr w base (env :: outer) s.heap e why (some .none) h' → E (.ref e) { s with heap := h', toks := tk' }) :
    wpAny (model PySem.Challenge.pw_nm0133_01 w) A (call (.ref 133) [.ref a, .ref z]) Q E s := table_kind_ok (H.at F N hlv) (led_T N) ha hm hZ hp he (chk_in F N hQ hE)
theorem mk_use {a z : Addr} {lo pg el : Int} {t : Tok} {mv : Value} {mo : Option Int} {lv : Nat} (H : Hr lv w mean mg mb A₀ A base outer env g L) (F : Fr g L s.heap m) (N : News g L s.heap led) (hlv : 120 ≤ lv) (ha : (a, tupO #[.int lo t, mv]) ∈ led) (hm : MostIs mv mo) (hZ : SizesV (Mem led) z pg el) (hp : 0 ≤ pg ∧ pg ≤ 100) (he : 0 ≤ el ∧ el ≤ 100)
    (hQ : memF pg (lo, mo) = none → ∀ h' tk', Fr g L h' m → News g L h' led → Q .none { s with heap := h', toks := tk' })
    (hE : ∀ why, memF pg (lo, mo) = some why → ∀ e h' tk', Thr w base (env :: outer) s.heap e why (some .none) h' → E (.ref e) { s with heap := h', toks := tk' }) :
    wpAny (model PySem.Challenge.pw_nm0133_01 w) A (call (.ref 140) [.ref a, .ref z]) Q E s := memory_kind_ok (H.at F N hlv) (led_T N) ha hm hZ hp he (chk_in F N hQ hE)
theorem gk_use {a : Addr} {k mu : Int} {tk t : Tok} {lv : Nat} (H : Hr lv w mean mg mb A₀ A base outer env g L) (F : Fr g L s.heap m) (N : News g L s.heap led) (hlv : 100 ≤ lv) (ha : (a, tupO #[.int k tk, .int mu t]) ∈ led)
    (hQ : cellF (k, mu) = none → ∀ h' tk', Fr g L h' m → News g L h' led → Q .none { s with heap := h', toks := tk' })
    (hE : ∀ why, cellF (k, mu) = some why → ∀ e h' tk', Thr w base (env :: outer) s.heap e why (some .none) h' → E (.ref e) { s with heap := h', toks := tk' }) :
    wpAny (model PySem.Challenge.pw_nm0133_01 w) A (call (.ref 147) [.ref a]) Q E s := global_kind_ok (H.at F N hlv) (led_T N) ha (chk_in F N hQ hE)
theorem wt_use {x : Addr} {M : Mod} {i : Int} {t : Tok} {lv : Nat} (H : Hr lv w mean mg mb A₀ A base outer env g L) (F : Fr g L s.heap m) (N : News g L s.heap led) (hlv : 100 ≤ lv) (hM : ModV (Mem led) x M) (hK : M.kinds.length ≤ 3)
    (hQ : typeF M.kinds.length i = none → ∀ h' tk', Fr g L h' m → News g L h' led → Q .none { s with heap := h', toks := tk' })
    (hE : ∀ why, typeF M.kinds.length i = some why → ∀ e h' tk', Thr w base (env :: outer) s.heap e why (some .none) h' → E (.ref e) { s with heap := h', toks := tk' }) :
    wpAny (model PySem.Challenge.pw_nm0133_01 w) A (call (.ref 154) [.ref x, .int i t]) Q E s := want_type_ok (H.at F N hlv) (led_T N) hM hK (chk_in F N hQ hE)
theorem rows_C15_3 : True := by
  k_with "call ref" => (k_here; (with_reducible show wpAny _ _ (call (Value.ref 133) [Value.ref _, Value.ref _]) _ _ _); k_dflt (refine' tk_use ?H ?F ?N ?lv ?ha ?hm ?Z ?hp ?he ?_ ?_; (case H => assumption); (case F => k_asm); (case N => k_asm); (case lv => decide); (case ha => k_mem); (case hm => assumption); (case Z => exact sz_up (by assumption) (by walk_at "m_sub")); (case hp => assumption); (case he => assumption)))
  k_with "call ref" => (k_here; (with_reducible show wpAny _ _ (call (Value.ref 140) [Value.ref _, Value.ref _]) _ _ _); k_dflt (refine' mk_use ?H ?F ?N ?lv ?ha ?hm ?Z ?hp ?he ?_ ?_; (case H => assumption); (case F => k_asm); (case N => k_asm); (case lv => decide); (case ha => k_mem); (case hm => assumption); (case Z => exact sz_up (by assumption) (by walk_at "m_sub")); (case hp => assumption); (case he => assumption)))
  k_with "call ref" => (k_here; (with_reducible show wpAny _ _ (call (Value.ref 147) [Value.ref _]) _ _ _); k_dflt (refine' gk_use ?H ?F ?N ?lv ?ha ?_ ?_; (case H => assumption); (case F => k_asm); (case N => k_asm); (case lv => decide); (case ha => k_mem)))
  k_with "call ref" => (k_here; (with_reducible show wpAny _ _ (call (Value.ref 154) [Value.ref _, Value.int _ _]) _ _ _); k_dflt (refine' wt_use ?H ?F ?N ?lv ?M ?hK ?_ ?_; (case H => assumption); (case F => k_asm); (case N => k_asm); (case lv => decide); (case M => exact mod_up (by assumption) (by walk_at "m_sub")); (case hK => assumption)))
  trivial
end
theorem rows_C16_1 : True := by
  k_with_none
  k_with "call ref" => (k_here; (with_reducible show wpAny _ _ (call (Value.ref 105) [Value.bool _, Value.str _ _]) _ _ _); k_dflt (refine' want_use ?H ?F ?N ?lv ?_ ?_; (case H => assumption); (case F => k_asm); (case N => k_asm); (case lv => decide)))
  k_with "leaving ref" => (k_here; k_dflt (refine' leave_thr (by exact Hr.frames (by assumption)) rfl (.inr rfl) ?R ?hE ?hL ?hin ?_; (case R => assumption); (case hE => walk_at "m_ext"); (case hL => exact frame_none (by assumption) (by assumption)); (case hin => assumption)); intro h'ᵣ R'ᵣ)
  k_with "call ref" => (k_here; (with_reducible show wpAny _ _ (call (Value.ref 91) [Value.int _ _]) _ _ _); k_dflt (refine' is_kind_use ?H ?F ?N ?lv ?_; (case H => assumption); (case F => k_asm); (case N => k_asm); (case lv => decide)); intro h'ᵣ tk'ᵣ F'ᵣ N'ᵣ; (try k_sweep))
  k_with "call ref" => (k_here; (with_reducible show wpAny _ _ (call (Value.ref 98) [Value.int _ _]) _ _ _); k_dflt (refine' is_ref_use ?H ?F ?N ?lv ?_; (case H => assumption); (case F => k_asm); (case N => k_asm); (case lv => decide)); intro h'ᵣ tk'ᵣ F'ᵣ N'ᵣ; (try k_sweep))
  k_with "call ref" => (k_here; (with_reducible show wpAny _ _ (call (Value.ref 119) [_, _, _, _]) _ _ _); k_dflt (refine' limits_use ?H ?F ?N ?lv ?hm ?_ ?_; (case H => assumption); (case F => k_asm); (case N => k_asm); (case lv => decide); (case hm => assumption)))
  k_with "exec For Name Name cons nil" => (k_here; (rename Fr _ _ _ _ => lF'ᵣ); k_dflt (refine' For_unrF lF'ᵣ ?_ ?hs; (case hs => (intro _; rfl))))
  k_with "exec For Name Attribute cons nil" => (k_here; (rename Fr _ _ _ _ => lF'ᵣ); k_dflt (refine' For_unrF lF'ᵣ ?_ ?hs; (case hs => (intro _; rfl))))
  k_with "exec For Tuple Attribute cons nil" => (k_here; (rename Fr _ _ _ _ => lF'ᵣ); k_dflt (refine' For_unrF lF'ᵣ ?_ ?hs; (case hs => (intro _; rfl))))
  k_with "pyIter ref" => ((with_reducible show wpAny _ _ (pyIter (Value.ref _)) (fun it s₂ => UnrAt _ _ _ _ _ _ _ _ _ it s₂) _ _); k_dflt (first
  | (refine' each_tuple ?kJ (by exact rfl) ?k1 ?k3 ?k4 ?ea0 ?eaT ?eaF; (case kJ => assumption); (case k3 => k_asm); (case k4 => k_asm); (case k1 => exact News.isTup (by assumption) (by k_mem)))
  | (refine' each_list ?kJ (by exact rfl) ?k1 ?k3 ?k4 ?ea0 ?eaT ?eaF; (case kJ => assumption); (case k3 => k_asm); (case k4 => k_asm); (case k1 => exact News.isList (by assumption) (by k_mem)))))
  k_with "call ref" => (k_here; (with_reducible show wpAny _ _ (call (Value.ref 112) [Value.ref _]) _ _ _); k_dflt (refine' want_kinds_use ?H ?F ?N ?lv ?ha ?hi ?_ ?_; (case H => assumption); (case F => k_asm); (case N => k_asm); (case lv => decide); (case ha => k_mem); (case hi => assumption)))
  k_with "call builtin:len" => (k_here; (with_reducible show wpAny _ _ (call (Value.builtin _) [Value.ref _]) _ _ _); k_dflt (refine' my_len ?N ?m ?l ?_; (case N => k_asm); (case m => k_mem); (case l => ((have hLX := AllV.length (by assumption)); omega))))
  k_with "call ref" => (k_here; (with_reducible show wpAny _ _ (call (Value.ref 126) [Value.ref _]) _ _ _); k_dflt (refine' pages_use ?H ?F ?N ?lv ?Z ?hp ?he ?_; (case H => assumption); (case F => k_asm); (case N => k_asm); (case lv => decide); (case Z => exact sz_up (by assumption) (by walk_at "m_sub")); (case hp => assumption); (case he => assumption)); intro h'ᵣ tk'ᵣ c'ᵣ F'ᵣ N'ᵣ; (try k_sweep))
  k_with "call ref" => (k_here; (with_reducible show wpAny _ _ (call (Value.ref 133) [Value.ref _, Value.ref _]) _ _ _); k_dflt (refine' tk_use ?H ?F ?N ?lv ?ha ?hm ?Z ?hp ?he ?_ ?_; (case H => assumption); (case F => k_asm); (case N => k_asm); (case lv => decide); (case ha => k_mem); (case hm => assumption); (case Z => exact sz_up (by assumption) (by walk_at "m_sub")); (case hp => assumption); (case he => assumption)))
  k_with "call ref" => (k_here; (with_reducible show wpAny _ _ (call (Value.ref 140) [Value.ref _, Value.ref _]) _ _ _); k_dflt (refine' mk_use ?H ?F ?N ?lv ?ha ?hm ?Z ?hp ?he ?_ ?_; (case H => assumption); (case F => k_asm); (case N => k_asm); (case lv => decide); (case ha => k_mem); (case hm => assumption); (case Z => exact sz_up (by assumption) (by walk_at "m_sub")); (case hp => assumption); (case he => assumption)))
  k_with "call ref" => (k_here; (with_reducible show wpAny _ _ (call (Value.ref 147) [Value.ref _]) _ _ _); k_dflt (refine' gk_use ?H ?F ?N ?lv ?ha ?_ ?_; (case H => assumption); (case F => k_asm); (case N => k_asm); (case lv => decide); (case ha => k_mem)))
  k_with "call ref" => (k_here; (with_reducible show wpAny _ _ (call (Value.ref 154) [Value.ref _, Value.int _ _]) _ _ _); k_dflt (refine' wt_use ?H ?F ?N ?lv ?M ?hK ?_ ?_; (case H => assumption); (case F => k_asm); (case N => k_asm); (case lv => decide); (case M => exact mod_up (by assumption) (by walk_at "m_sub")); (case hK => assumption)))
  k_with "exec Raise some none" => (k_here; k_dflt (refine raise_exec (by exact rfl) ?_))
  k_with "call ref" => (k_here; (with_reducible show wpAny _ _ (call (Value.ref 58) _) _ _ _); k_dflt (refine' inv_use ?H ?F ?N ?X ?lv ?_; (case H => assumption); (case F => k_asm); (case N => k_asm); (case X => assumption); (case lv => decide)))
  trivial
def importF (n pg el : Int) : Imp → Option Str
  | .fn i => typeF n i
  | .tab k l mo => tableF el (k, l, mo)
  | .mem l mo => memF pg (l, mo)
  | .cell k mu => cellF (k, mu)
  | .odd _ => some (Str.ofString "malformed \u0069mport kind")
section
variable {w : World} {mean : ExcName → Option Value} {mg mb : Str → Option Value} {A A₀ : Around} {base G g : Heap} {outer l : List Env} {env : Env} {s : Shared} {Q E : Value → Shared → Prop} {L : Addr} {m : Str → Option Value} {led : List (Addr × Obj)} {o : Obj}
set_option maxHeartbeats 8000000 in
theorem import_check_ok {x y z : Addr} {M : Mod} {i : Imp} {pg el : Int} {T : List (Addr × Obj)} (C : At 140 w mean mg mb A base outer G s.heap) (hT : ∀ p ∈ T, s.heap.get? p.1 = some p.2 ∧ G.get? p.1 = none)
    (hM : ModV (Mem T) x M) (hK : M.kinds.length ≤ 3) (hI : ImpV (Mem T) (.ref y) i) (hZ : SizesV (Mem T) z pg el) (hp : 0 ≤ pg ∧ pg ≤ 100) (he : 0 ≤ el ∧ el ≤ 100) (h : Chk w base outer s (importF M.kinds.length pg el i) Q E) :
    wpAny (model PySem.Challenge.pw_nm0133_01 w) A (call (.ref 168) [.ref x, .ref y, .ref z]) Q E s := by
  have hin := C.inh
  obtain ⟨hd0, dp, fr, gd, un⟩ := A
  obtain rfl : hd0 = none := C.hand
  obtain rfl : fr = some outer := C.B.stack
  refine wpAny_call ?_
  refine' enter T [(Str.ofString "module", .ref x), (Str.ofString "entry", .ref y), (Str.ofString "sizes", .ref z)] C (by decide) hT ?k6 ?k7 ?k9 ?kB ?c2 ?c3 ?c4 ?c5 ?_
  walk_at "m_in"
  intro g L' h₁ hg hlt F' N' X' T' H hd hu hA
  have B' := H.B
  clear C
  obtain ⟨y', dy, ny, av, j1, j2, j3, j4, d1, d2, d3, d4, e1, e2, e3, so, ey, hso, py, pdy, hab⟩ := hI
  cases ey
  replace N' := news_more N' [(y, instObj 199 dy), (dy, dictOf [En j1 "place" d1 (.str (Str.ofString "h") e1), En j2 "name" d2 (.str i.nm e2), En j3 "sort" d3 (.int so e3), En j4 "about" d4 av] ny)] (by intro r hr; simp only [List.mem_cons, List.not_mem_nil, or_false] at hr; rcases hr with rfl | rfl <;> assumption)
  simp only [List.cons_append, List.nil_append] at N'
  cases i with
  | fn i =>
    obtain ⟨hi0, t, rfl⟩ := hab
    replace hso : so = 0 := hso
    subst hso
    walk_at "m_go"
    all_goals walk_at "m_chk"
    all_goals first | assumption | (exfalso; exact absurd (by assumption : decide ((0:Int) ≤ 3) = false) (by decide))
  | tab k l mo =>
    obtain ⟨a, tk, t, mv, rfl, pa, hm, h0⟩ := hab
    replace hso : so = 1 := hso
    subst hso
    dsimp only at pa hm h0
    replace N' := news_dup N' (.tail _ (.tail _ pa))
    walk_at "m_go"
    all_goals walk_at "m_chk"
    all_goals first | assumption | (exfalso; exact absurd (by assumption : decide ((1:Int) ≤ 3) = false) (by decide))
  | mem l mo =>
    obtain ⟨a, t, mv, rfl, pa, hm, h0⟩ := hab
    replace hso : so = 2 := hso
    subst hso
    dsimp only at pa hm h0
    replace N' := news_dup N' (.tail _ (.tail _ pa))
    walk_at "m_go"
    all_goals walk_at "m_chk"
    all_goals first | assumption | (exfalso; exact absurd (by assumption : decide ((2:Int) ≤ 3) = false) (by decide))
  | cell k mu =>
    obtain ⟨a, tk, t, rfl, pa⟩ := hab
    replace hso : so = 3 := hso
    subst hso
    dsimp only at pa
    replace N' := news_dup N' (.tail _ (.tail _ pa))
    walk_at "m_go"
    all_goals walk_at "m_chk"
    all_goals first | assumption | (exfalso; exact absurd (by assumption : decide ((3:Int) ≤ 3) = false) (by decide))
  | odd i =>
    obtain ⟨t, rfl⟩ := hab
    replace hso : so = 4 := hso
    subst hso
    walk_at "m_go"
    all_goals first | (exfalso; exact absurd (by assumption : decide ((4:Int) ≤ 3) = true) (by decide)) | (walk_at "m_chk"; rfl)
end
theorem rows_C17_1 : True := by
  k_with_none
  k_with "call ref" => (k_here; (with_reducible show wpAny _ _ (call (Value.ref 105) [Value.bool _, Value.str _ _]) _ _ _); k_dflt (refine' want_use ?H ?F ?N ?lv ?_ ?_; (case H => assumption); (case F => k_asm); (case N => k_asm); (case lv => decide)))
  k_with "leaving ref" => (k_here; k_dflt (refine' leave_thr (by exact Hr.frames (by assumption)) rfl (.inr rfl) ?R ?hE ?hL ?hin ?_; (case R => assumption); (case hE => walk_at "m_ext"); (case hL => exact frame_none (by assumption) (by assumption)); (case hin => assumption)); intro h'ᵣ R'ᵣ)
  k_with "call ref" => (k_here; (with_reducible show wpAny _ _ (call (Value.ref 91) [Value.int _ _]) _ _ _); k_dflt (refine' is_kind_use ?H ?F ?N ?lv ?_; (case H => assumption); (case F => k_asm); (case N => k_asm); (case lv => decide)); intro h'ᵣ tk'ᵣ F'ᵣ N'ᵣ; (try k_sweep))
  k_with "call ref" => (k_here; (with_reducible show wpAny _ _ (call (Value.ref 98) [Value.int _ _]) _ _ _); k_dflt (refine' is_ref_use ?H ?F ?N ?lv ?_; (case H => assumption); (case F => k_asm); (case N => k_asm); (case lv => decide)); intro h'ᵣ tk'ᵣ F'ᵣ N'ᵣ; (try k_sweep))
  k_with "call ref" => (k_here; (with_reducible show wpAny _ _ (call (Value.ref 119) [_, _, _, _]) _ _ _); k_dflt (refine' limits_use ?H ?F ?N ?lv ?hm ?_ ?_; (case H => assumption); (case F => k_asm); (case N => k_asm); (case lv => decide); (case hm => assumption)))
  k_with "exec For Name Name cons nil" => (k_here; (rename Fr _ _ _ _ => lF'ᵣ); k_dflt (refine' For_unrF lF'ᵣ ?_ ?hs; (case hs => (intro _; rfl))))
  k_with "exec For Name Attribute cons nil" => (k_here; (rename Fr _ _ _ _ => lF'ᵣ); k_dflt (refine' For_unrF lF'ᵣ ?_ ?hs; (case hs => (intro _; rfl))))
  k_with "exec For Tuple Attribute cons nil" => (k_here; (rename Fr _ _ _ _ => lF'ᵣ); k_dflt (refine' For_unrF lF'ᵣ ?_ ?hs; (case hs => (intro _; rfl))))
  k_with "pyIter ref" => ((with_reducible show wpAny _ _ (pyIter (Value.ref _)) (fun it s₂ => UnrAt _ _ _ _ _ _ _ _ _ it s₂) _ _); k_dflt (first
  | (refine' each_tuple ?kJ (by exact rfl) ?k1 ?k3 ?k4 ?ea0 ?eaT ?eaF; (case kJ => assumption); (case k3 => k_asm); (case k4 => k_asm); (case k1 => exact News.isTup (by assumption) (by k_mem)))
  | (refine' each_list ?kJ (by exact rfl) ?k1 ?k3 ?k4 ?ea0 ?eaT ?eaF; (case kJ => assumption); (case k3 => k_asm); (case k4 => k_asm); (case k1 => exact News.isList (by assumption) (by k_mem)))))
  k_with "call ref" => (k_here; (with_reducible show wpAny _ _ (call (Value.ref 112) [Value.ref _]) _ _ _); k_dflt (refine' want_kinds_use ?H ?F ?N ?lv ?ha ?hi ?_ ?_; (case H => assumption); (case F => k_asm); (case N => k_asm); (case lv => decide); (case ha => k_mem); (case hi => assumption)))
  k_with "call builtin:len" => (k_here; (with_reducible show wpAny _ _ (call (Value.builtin _) [Value.ref _]) _ _ _); k_dflt (refine' my_len ?N ?m ?l ?_; (case N => k_asm); (case m => k_mem); (case l => ((have hLX := AllV.length (by assumption)); omega))))
  k_with "call ref" => (k_here; (with_reducible show wpAny _ _ (call (Value.ref 126) [Value.ref _]) _ _ _); k_dflt (refine' pages_use ?H ?F ?N ?lv ?Z ?hp ?he ?_; (case H => assumption); (case F => k_asm); (case N => k_asm); (case lv => decide); (case Z => exact sz_up (by assumption) (by walk_at "m_sub")); (case hp => assumption); (case he => assumption)); intro h'ᵣ tk'ᵣ c'ᵣ F'ᵣ N'ᵣ; (try k_sweep))
  k_with "call ref" => (k_here; (with_reducible show wpAny _ _ (call (Value.ref 133) [Value.ref _, Value.ref _]) _ _ _); k_dflt (refine' tk_use ?H ?F ?N ?lv ?ha ?hm ?Z ?hp ?he ?_ ?_; (case H => assumption); (case F => k_asm); (case N => k_asm); (case lv => decide); (case ha => k_mem); (case hm => assumption); (case Z => exact sz_up (by assumption) (by walk_at "m_sub")); (case hp => assumption); (case he => assumption)))
  k_with "call ref" => (k_here; (with_reducible show wpAny _ _ (call (Value.ref 140) [Value.ref _, Value.ref _]) _ _ _); k_dflt (refine' mk_use ?H ?F ?N ?lv ?ha ?hm ?Z ?hp ?he ?_ ?_; (case H => assumption); (case F => k_asm); (case N => k_asm); (case lv => decide); (case ha => k_mem); (case hm => assumption); (case Z => exact sz_up (by assumption) (by walk_at "m_sub")); (case hp => assumption); (case he => assumption)))
  k_with "call ref" => (k_here; (with_reducible show wpAny _ _ (call (Value.ref 147) [Value.ref _]) _ _ _); k_dflt (refine' gk_use ?H ?F ?N ?lv ?ha ?_ ?_; (case H => assumption); (case F => k_asm); (case N => k_asm); (case lv => decide); (case ha => k_mem)))
  k_with "call ref" => (k_here; (with_reducible show wpAny _ _ (call (Value.ref 154) [Value.ref _, Value.int _ _]) _ _ _); k_dflt (refine' wt_use ?H ?F ?N ?lv ?M ?hK ?_ ?_; (case H => assumption); (case F => k_asm); (case N => k_asm); (case lv => decide); (case M => exact mod_up (by assumption) (by walk_at "m_sub")); (case hK => assumption)))
  k_with "exec Raise some none" => (k_here; k_dflt (refine raise_exec (by exact rfl) ?_))
  k_with "call ref" => (k_here; (with_reducible show wpAny _ _ (call (Value.ref 58) _) _ _ _); k_dflt (refine' inv_use ?H ?F ?N ?X ?lv ?_; (case H => assumption); (case F => k_asm); (case N => k_asm); (case X => assumption); (case lv => decide)))
  trivial
section
variable {prog : Program} {w : World} {A : Around} {h₀ : Heap} {L : Addr} {m : Str → Option Value} {env : Env} {ct elt : Expr} {x : Str} {scope : Scope} {cl : List (Str × Addr)} {s : Shared} {S : List (Addr × Obj) → Prop} {P : Nat → Value → Prop} {Fin : List Value → List (Addr × Obj) → Prop} {news : List (Addr × Obj)} {n : Nat}
theorem comp_invT {I : Nat → List Value → List (Addr × Obj) → Prop} (_hCI : CI I) (h0 : Later2 (I 0 [] news))
    (turn : Later2 (∀ i ys nw v IA oI C oC D m₂ h tk (E' : Value → Shared → Prop), i < n → I i ys nw → P i v → LCg.NsObj oC m₂ → m₂ x = some v → Fr h₀ L h m → News h₀ L h ((IA, oI) :: (C, oC) :: (D, LCg.lst ys) :: nw) → LCg.Off3 IA C D nw → ((@Ne Nat IA C) ∧ (@Ne Nat IA D) ∧ (@Ne Nat C D)) →
      wpAny (model prog w) A (isTrue ct (compEnvC scope cl C env) (eval ct (compEnvC scope cl C env))) (fun ok s' => if ok = true then
        wpAny (model prog w) A (eval elt (compEnvC scope cl C env)) (LCg.CompEnd h₀ L m { s with heap := h, toks := tk } IA oI C oC D (LCg.lst ys) S (fun y nw' => I (i + 1) (ys ++ [y]) nw')) E' s'
        else LCg.CompEnd h₀ L m { s with heap := h, toks := tk } IA oI C oC D (LCg.lst ys) S (fun _ nw' => I (i + 1) ys nw') Value.none s') E' { s with heap := h, toks := tk }))
    (fin : Later2 (∀ ys nw, I n ys nw → Fin ys nw)) : LCt.CompRestT prog w A h₀ L m env ct elt x scope cl s S P Fin n 0 [] news := by
  have key : ∀ (j i : Nat) (ys : List Value) (nw : List (Addr × Obj)), i + j = n → I i ys nw → LCt.CompRestT prog w A h₀ L m env ct elt x scope cl s S P Fin j i ys nw := by
    intro j
    induction j with
    | zero =>
      intro i ys nw hi hI
      have e : i = n := by omega
      subst e
      exact LCt.CompRestT.zero (fin ys nw hI)
    | succ j ih =>
      intro i ys nw hi hI
      refine LCt.CompRestT.succ ?_
      intro v IA oI C oC D m₂ h tk E' hv hC hx F N off ne
      refine wpAny_mono (turn i ys nw v IA oI C oC D m₂ h tk E' (by omega) hI hv hC hx F N off ne) (fun ok s₂ hq => ?_) fun _ _ e => e
      cases ok with
      | true =>
        simp only [if_true] at hq ⊢
        refine wpAny_mono hq (fun y s₃ hq => ?_) fun _ _ e => e
        obtain ⟨h', tk', nw', e, F', N', off', hS, hI'⟩ := hq
        exact ⟨h', tk', nw', e, F', N', off', hS, ih (i + 1) _ _ (by omega) hI'⟩
      | false =>
        simp only [Bool.false_eq_true, if_false] at hq ⊢
        obtain ⟨h', tk', nw', e, F', N', off', hS, hI'⟩ := hq
        exact ⟨h', tk', nw', e, F', N', off', hS, ih (i + 1) _ _ (by omega) hI'⟩
  exact key n 0 [] news (by omega) h0
end
theorem rows_C17_2 : True := by
  k_with "eval ListComp" => (k_here; k_dflt (refine LCt.ListComp_T (F₀ := by k_asm) (by with_unfolding_all rfl) (by decide) (by rfl) (by decide) (by rfl) ?_))
  k_with "CompSrcT" => (k_here; k_dflt (refine LCt.CompSrcT.ledger (by rfl) (by k_asm) (by k_asm) (by k_mem) (by simp only [List.size_toArray]; rw [PySem.sizeLine_eq]; omega) ?_; intro g'ᵣ; refine comp_invT (by assumption) ?ct0 ?ctT ?ctF))
  trivial
section
variable {w : World} {mean : ExcName → Option Value} {mg mb : Str → Option Value} {A A₀ : Around} {base G g : Heap} {outer l : List Env} {env : Env} {s : Shared} {Q E : Value → Shared → Prop} {L : Addr} {m : Str → Option Value} {led : List (Addr × Obj)} {o : Obj}
def OffH (I C D : Addr) (l : List (Addr × Obj)) : Prop := LCg.Off3 I C D l
theorem offH {I C D : Addr} {l : List (Addr × Obj)} (h : LCg.Off3 I C D l) : OffH I C D l := h
theorem OffH.out {I C D : Addr} {l : List (Addr × Obj)} (h : OffH I C D l) : LCg.Off3 I C D l := h
theorem comp_turn {h₀ : Heap} {L I C D : Addr} {m : Str → Option Value} {s₁ s₂ : Shared} {oI oC oD : Obj} {S : List (Addr × Obj) → Prop} {rest : Value → List (Addr × Obj) → Prop} {y : Value} {led all : List (Addr × Obj)} (off : OffH I C D led) (e : s₂ = { s₁ with heap := s₂.heap, toks := s₂.toks })
    (F : Fr h₀ L s₂.heap m) (N : News h₀ L s₂.heap all) (sub : ∀ p ∈ (I, oI) :: (C, oC) :: (D, oD) :: led, p ∈ all) (hS : S led) (r : rest y led) : LCg.CompEnd h₀ L m s₁ I oI C oC D oD S rest y s₂ :=
  ⟨s₂.heap, s₂.toks, led, e, F, fun p hp => N p (sub p hp), off.out, hS, r⟩
theorem off1_mem {D : Addr} : ∀ {l : List (Addr × Obj)}, LCg.Off1 D l → ∀ p ∈ l, p.1 ≠ D
  | [], _, _, hp => nomatch hp
  | q :: r, h, p, hp => (List.mem_cons.mp hp).elim (fun e => e ▸ h.1) (off1_mem h.2 p)
theorem fresh_T {g h : Heap} {r : Addr} {T : List (Addr × Obj)} (hg : g = hideAll h (T.map (·.1))) (hn : g.get? r = none) (hne : ∀ p ∈ T, p.1 ≠ r) : h.get? r = none := by
  cases q : h.get? r with
  | none => rfl
  | some o =>
    subst hg
    rw [hideAll_get _ q fun hm => by obtain ⟨p, hp, e⟩ := List.mem_map.mp hm; exact hne p hp e] at hn
    cases hn
theorem news_from {T more : List (Addr × Obj)} {g h : Heap} {L : Addr} {led : List (Addr × Obj)} (N : News g L h led) (hs : ∀ p ∈ T, p ∈ led) (hm : ∀ p ∈ more, p ∈ T) : News g L h (more ++ led) := news_more N more fun p hp => hs p (hm p hp)
theorem mem_imp {T : List (Addr × Obj)} {v : Value} {i : Imp} (q : ImpV (Mem T) v i) : ∃ x dx n av h1 h2 h3 h4 b1 b2 b3 b4 c1 c2 c3, v = .ref x ∧ AbV (Mem T) av i ∧ ∀ p ∈ [(x, instObj 199 dx), (dx, dictOf [En h1 "place" b1 (.str (Str.ofString "h") c1), En h2 "name" b2 (.str i.nm c2), En h3 "sort" b3 (.int i.sort c3), En h4 "about" b4 av] n)], p ∈ T := by
  obtain ⟨x, dx, n, av, h1, h2, h3, h4, b1, b2, b3, b4, c1, c2, c3, z, e, rfl, p1, p2, r⟩ := q
  refine ⟨x, dx, n, av, h1, h2, h3, h4, b1, b2, b3, b4, c1, c2, c3, e, r, fun p hp => ?_⟩
  simp only [List.mem_cons, List.not_mem_nil, or_false] at hp
  rcases hp with rfl | rfl
  · exact p1
  · exact p2
theorem abV_shape {P : PO} {v : Value} {i : Imp} (h : AbV P v i) : (∃ a, v = .ref a) ∨ ∃ j t, v = .int j t := by
  cases i with
  | fn i => obtain ⟨_, t, e⟩ := h; exact .inr ⟨_, _, e⟩
  | odd i => obtain ⟨t, e⟩ := h; exact .inr ⟨_, _, e⟩
  | tab k l mo => obtain ⟨a, _, _, _, e, _⟩ := h; exact .inl ⟨a, e⟩
  | mem l mo => obtain ⟨a, _, _, e, _⟩ := h; exact .inl ⟨a, e⟩
  | cell k m => obtain ⟨a, _, _, e, _⟩ := h; exact .inl ⟨a, e⟩
def memImps (is : List Imp) : Nat := (is.filter fun i => i.sort == 2).length
theorem memImps_take {is : List Imp} {i : Nat} {im : Imp} (h : is[i]? = some im) : memImps (is.take (i + 1)) = memImps (is.take i) + if im.sort = 2 then 1 else 0 := by
  unfold memImps
  rw [List.take_add_one, h, List.filter_append, List.length_append]
  congr 1
  by_cases e : im.sort = 2
  · simp [e]
  · simp [e]
theorem memImps_le {is : List Imp} : memImps is ≤ is.length := List.length_filter_le _ _
set_option maxHeartbeats 8000000 in
theorem abouts_ok {x : Addr} {M : Mod} {t : Tok} {T : List (Addr × Obj)} (C : At 60 w mean mg mb A base outer G s.heap) (hT : ∀ p ∈ T, s.heap.get? p.1 = some p.2 ∧ G.get? p.1 = none)
    (hM : ModV (Mem T) x M) (hO : M.Ok) (h : ∀ r us n h' tk', Ext s.heap h' → h'.get? r = some (listOf (List.toArray us) n) → us.length = memImps M.imps → s.heap.get? r = none → Q (.ref r) { s with heap := h', toks := tk' }) :
    wpAny (model PySem.Challenge.pw_nm0133_01 w) A (call (.ref 285) [.ref x, .int 2 t]) Q E s := by
  obtain ⟨hd0, dp, fr, gd, un⟩ := A
  obtain rfl : hd0 = none := C.hand
  obtain rfl : fr = some outer := C.B.stack
  refine wpAny_call ?_
  refine' enterC T [(Str.ofString "self", .ref x), (Str.ofString "sort", .int 2 t)] C (by decide) hT ?k6 ?k7 ?k9 ?kB ?c2 ?c3 ?c4 ?c5 ?_
  case k6 => k_is
  case k7 => k_is
  case k9 => exact BindsTo.of_eq rfl
  case kB => exact rfl
  case c2 => exact rfl
  case c3 => exact rfl
  case c4 => exact rfl
  case c5 => decide +kernel
  intro g L' h₁ tkc cells hg hlt F' N' Y X' T' H hd hu hA
  have B' := H.B
  clear C
  have hcell := CellsAre.one Y
  obtain ⟨oc, hce, hoc⟩ := hcell
  subst hce
  clear Y
  replace hoc : oc.data = .cell (some (.int 2 t)) := hoc
  obtain ⟨dx, h1, h2, h3, h4, h5, h6, h7, h8, h9, h10, h11, b1, b2, b3, b4, b5, b6, b7, b8, b9, b10, b11, K1, K2, a3, K4, K5, a6, a7, a8, a9, a10, ys, zs, vs, ts, ms, gs, n1, n2, n3, n4, n5, n6, q⟩ := hM
  simp only [List.cons_append, List.nil_append] at N'
  have N2 := news_dup N' (.tail _ q.k2)
  replace N' := news_dup (news_dup N2 (.tail _ (.tail _ q.di))) (.tail _ (.tail _ (.tail _ q.ob)))
  clear N2
  have hv2 := q.v2
  have hlen := hv2.length
  have hle := hO.i
  have hCI : CI (fun i us nw => us.length = memImps (M.imps.take i) ∧ nw = (x, instObj 372 dx) :: (dx, dictOf [En h1 "kinds" b1 (.ref K1), En h2 "imports" b2 (.ref K2), En h3 "funcs" b3 (.ref a3), En h4 "tables" b4 (.ref K4), En h5 "memories" b5 (.ref K5), En h6 "globals" b6 (.ref a6), En h7 "exports" b7 (.ref a7), En h8 "start" b8 .none, En h9 "elems" b9 (.ref a8), En h10 "datas" b10 (.ref a9), En h11 "customs" b11 (.ref a10)] 11) :: (K2, listOf (List.toArray zs) n2) :: (L' + 1, oc) :: T) := trivial
  walk_at "m_go"
  case ct0 => exact ⟨by simp [memImps], rfl⟩
  case ctT =>
    unfold Later2
    clear hCI
    intro i us nw v IA oI C oC Da m₂ h₃ tk E' hin hI hv hC hx F' N' off ne
    obtain ⟨hus, rfl⟩ := hI
    obtain ⟨im, him, hq⟩ := allV_at hv2 hv
    obtain ⟨y, dy, ny, av, j1, j2, j3, j4, d1, d2, d3, d4, e1, e2, e3, rfl, hab, hmem⟩ := mem_imp hq
    replace N' := news_from N' (T := T) (by walk_at "m_sub") hmem
    simp only [List.cons_append, List.nil_append] at N'
    have hoff := offH off
    rcases abV_shape hab with ⟨av, rfl⟩ | ⟨av, at', rfl⟩
    all_goals ((try k_unmd); k_fold; k_steps)
    all_goals first
      | exact comp_turn hoff (by exact rfl) (by assumption) (by assumption) (by walk_at "m_sub") (.inr ⟨_, by k_mem, rfl, _, rfl⟩) ⟨by rw [memImps_take him, if_pos (by assumption)]; simp [hus], rfl⟩
      | exact comp_turn hoff (by exact rfl) (by assumption) (by assumption) (by walk_at "m_sub") (.inr ⟨_, by k_mem, rfl, _, rfl⟩) ⟨by rw [memImps_take him, if_neg (by assumption)]; simp [hus], rfl⟩
  case ctF =>
    unfold Later2
    clear hCI
    intro us nw hI
    obtain ⟨hus, rfl⟩ := hI
    unfold LCg.FinE
    intro r h₃ tk₃ F' N' q2
    have ho := off1_mem q2
    clear q2
    k_steps
    dsimp only
    k_steps
    refine h r _ _ _ _ (by walk_at "m_ext") (N' _ (.head _)).1 ?_ (fresh_T hg (N' _ (.head _)).2.2 fun p hp => ho p ?_)
    · rw [hus, List.take_of_length_le (by simp; omega)]
    · exact .tail _ (.tail _ (.tail _ (.tail _ hp)))
theorem fresh_size {h h₁ : Heap} (x : Ext h h₁) : h.get? h₁.objs.size = none := by
  cases q : h.get? h₁.objs.size with
  | none => rfl
  | some o => exact absurd (Heap.lt_size (x _ _ q)) (Nat.lt_irrefl _)
theorem news_add {h g h' : Heap} {L r : Addr} {or : Obj} {m : Str → Option Value} {led : List (Addr × Obj)} (F : Fr g L h m) (N : News g L h led) (x : Ext h h') (hr : h'.get? r = some or) (hn : h.get? r = none) : News g L h' ((r, or) :: led) := fun p hp => by
  rcases List.mem_cons.mp hp with rfl | hp
  · refine ⟨hr, fun z => ?_, ?_⟩
    · obtain ⟨o, _, _, hL, _⟩ := F.ns
      have z' : r = L := z
      rw [← z', hn] at hL; cases hL
    · cases q : g.get? r with
      | none => rfl
      | some o => have := F.keep _ _ q; rw [hn] at this; cases this
  · exact news_ext N x p hp
theorem abouts_use {x : Addr} {M : Mod} {t : Tok} {lv : Nat} (H : Hr lv w mean mg mb A₀ A base outer env g L) (F : Fr g L s.heap m) (N : News g L s.heap led) (hlv : 60 ≤ lv) (hM : ModV (Mem led) x M) (hO : M.Ok)
    (h : ∀ r us n h' tk', us.length = memImps M.imps → AllNe r led → Fr g L h' m → News g L h' ((r, listOf (List.toArray us) n) :: led) → Q (.ref r) { s with heap := h', toks := tk' }) :
    wpAny (model PySem.Challenge.pw_nm0133_01 w) A (call (.ref 285) [.ref x, .int 2 t]) Q E s :=
  abouts_ok (H.at F N hlv) (led_T N) hM hO fun r us n h' tk' xx hr hu hn => h r us n h' tk' hu (new_ne N hn) (fr_ext F xx) (news_add F N xx hr hn)
theorem rows_C17_3 : True := by
  k_with "call ref" => (k_here; (with_reducible show wpAny _ _ (call (Value.ref 285) [Value.ref _, Value.int 2 _]) _ _ _); k_dflt (refine' abouts_use ?H ?F ?N ?lv ?M ?O ?_; (case H => assumption); (case F => k_asm); (case N => k_asm); (case lv => decide); (case M => exact mod_up (by assumption) (by walk_at "m_sub")); (case O => assumption)); intro r'ᵣ us'ᵣ n'ᵣ h'ᵣ tk'ᵣ hu'ᵣ hne'ᵣ F'ᵣ N'ᵣ; (replace hne'ᵣ := neF hne'ᵣ); (try k_sweep))
  trivial
set_option maxHeartbeats 8000000 in
theorem memory_kinds_ok {x : Addr} {M : Mod} {T : List (Addr × Obj)} (C : At 100 w mean mg mb A base outer G s.heap) (hT : ∀ p ∈ T, s.heap.get? p.1 = some p.2 ∧ G.get? p.1 = none)
    (hM : ModV (Mem T) x M) (hO : M.Ok) (h : ∀ r us n h' tk', Ext s.heap h' → h'.get? r = some (listOf (List.toArray us) n) → us.length = memImps M.imps + M.mems.length → s.heap.get? r = none → Q (.ref r) { s with heap := h', toks := tk' }) :
    wpAny (model PySem.Challenge.pw_nm0133_01 w) A (call (.ref 306) [.ref x]) Q E s := by
  obtain ⟨hd0, dp, fr, gd, un⟩ := A
  obtain rfl : hd0 = none := C.hand
  obtain rfl : fr = some outer := C.B.stack
  refine wpAny_call ?_
  refine' enter T [(Str.ofString "self", .ref x)] C (by decide) hT ?k6 ?k7 ?k9 ?kB ?c2 ?c3 ?c4 ?c5 ?_
  walk_at "m_in"
  intro g L' h₁ hg hlt F' N' X' T' H hd hu hA
  have B' := H.B
  clear C
  have hM₀ := hM
  obtain ⟨dx, h1, h2, h3, h4, h5, h6, h7, h8, h9, h10, h11, b1, b2, b3, b4, b5, b6, b7, b8, b9, b10, b11, K1, K2, a3, K4, K5, a6, a7, a8, a9, a10, ys, zs, vs, ts, ms, gs, n1, n2, n3, n4, n5, n6, q⟩ := hM
  have N2 := news_dup N' q.k5
  replace N' := news_dup (news_dup N2 (.tail _ q.di)) (.tail _ (.tail _ q.ob))
  clear N2
  have hv5 := q.v5
  have hlen := hv5.length
  have hle := hO.m
  have hli := hO.i
  have hmi := memImps_le (is := M.imps)
  walk_at "m_go"
  (with_reducible rename News _ _ _ _ => N2)
  (with_reducible rename _ = memImps _ => hu)
  exact h _ _ _ _ _ (by walk_at "m_ext") (N2 _ (.head _)).1 (by rw [List.length_append, hu, hlen]) (fresh_size (by walk_at "m_ext"))
theorem memory_kinds_use {x : Addr} {M : Mod} {lv : Nat} (H : Hr lv w mean mg mb A₀ A base outer env g L) (F : Fr g L s.heap m) (N : News g L s.heap led) (hlv : 100 ≤ lv) (hM : ModV (Mem led) x M) (hO : M.Ok)
    (h : ∀ r us n h' tk', us.length = memImps M.imps + M.mems.length → AllNe r led → Fr g L h' m → News g L h' ((r, listOf (List.toArray us) n) :: led) → Q (.ref r) { s with heap := h', toks := tk' }) :
    wpAny (model PySem.Challenge.pw_nm0133_01 w) A (call (.ref 306) [.ref x]) Q E s :=
  memory_kinds_ok (H.at F N hlv) (led_T N) hM hO fun r us n h' tk' xx hr hu hn => h r us n h' tk' hu (new_ne N hn) (fr_ext F xx) (news_add F N xx hr hn)
theorem rows_C17_4 : True := by
  k_with "call ref" => (k_here; (with_reducible show wpAny _ _ (call (Value.ref 306) _) _ _ _); k_dflt (refine' memory_kinds_use ?H ?F ?N ?lv ?M ?O ?_; (case H => assumption); (case F => k_asm); (case N => k_asm); (case lv => decide); (case M => exact mod_up (by assumption) (by walk_at "m_sub")); (case O => assumption)); intro r'ᵣ us'ᵣ n'ᵣ h'ᵣ tk'ᵣ hu'ᵣ hne'ᵣ F'ᵣ N'ᵣ; (replace hne'ᵣ := neF hne'ᵣ); (try k_sweep))
  trivial
end
theorem rows_C18_1 : True := by
  k_with_none
  k_with "call ref" => (k_here; (with_reducible show wpAny _ _ (call (Value.ref 105) [Value.bool _, Value.str _ _]) _ _ _); k_dflt (refine' want_use ?H ?F ?N ?lv ?_ ?_; (case H => assumption); (case F => k_asm); (case N => k_asm); (case lv => decide)))
  k_with "leaving ref" => (k_here; k_dflt (refine' leave_thr (by exact Hr.frames (by assumption)) rfl (.inr rfl) ?R ?hE ?hL ?hin ?_; (case R => assumption); (case hE => walk_at "m_ext"); (case hL => exact frame_none (by assumption) (by assumption)); (case hin => assumption)); intro h'ᵣ R'ᵣ)
  k_with "call ref" => (k_here; (with_reducible show wpAny _ _ (call (Value.ref 91) [Value.int _ _]) _ _ _); k_dflt (refine' is_kind_use ?H ?F ?N ?lv ?_; (case H => assumption); (case F => k_asm); (case N => k_asm); (case lv => decide)); intro h'ᵣ tk'ᵣ F'ᵣ N'ᵣ; (try k_sweep))
  k_with "call ref" => (k_here; (with_reducible show wpAny _ _ (call (Value.ref 98) [Value.int _ _]) _ _ _); k_dflt (refine' is_ref_use ?H ?F ?N ?lv ?_; (case H => assumption); (case F => k_asm); (case N => k_asm); (case lv => decide)); intro h'ᵣ tk'ᵣ F'ᵣ N'ᵣ; (try k_sweep))
  k_with "call ref" => (k_here; (with_reducible show wpAny _ _ (call (Value.ref 119) [_, _, _, _]) _ _ _); k_dflt (refine' limits_use ?H ?F ?N ?lv ?hm ?_ ?_; (case H => assumption); (case F => k_asm); (case N => k_asm); (case lv => decide); (case hm => assumption)))
  k_with "exec For Name Name cons nil" => (k_here; (rename Fr _ _ _ _ => lF'ᵣ); k_dflt (refine' For_unrF lF'ᵣ ?_ ?hs; (case hs => (intro _; rfl))))
  k_with "exec For Name Attribute cons nil" => (k_here; (rename Fr _ _ _ _ => lF'ᵣ); k_dflt (refine' For_unrF lF'ᵣ ?_ ?hs; (case hs => (intro _; rfl))))
  k_with "exec For Tuple Attribute cons nil" => (k_here; (rename Fr _ _ _ _ => lF'ᵣ); k_dflt (refine' For_unrF lF'ᵣ ?_ ?hs; (case hs => (intro _; rfl))))
  k_with "pyIter ref" => ((with_reducible show wpAny _ _ (pyIter (Value.ref _)) (fun it s₂ => UnrAt _ _ _ _ _ _ _ _ _ it s₂) _ _); k_dflt (first
  | (refine' each_tuple ?kJ (by exact rfl) ?k1 ?k3 ?k4 ?ea0 ?eaT ?eaF; (case kJ => assumption); (case k3 => k_asm); (case k4 => k_asm); (case k1 => exact News.isTup (by assumption) (by k_mem)))
  | (refine' each_list ?kJ (by exact rfl) ?k1 ?k3 ?k4 ?ea0 ?eaT ?eaF; (case kJ => assumption); (case k3 => k_asm); (case k4 => k_asm); (case k1 => exact News.isList (by assumption) (by k_mem)))))
  k_with "call ref" => (k_here; (with_reducible show wpAny _ _ (call (Value.ref 112) [Value.ref _]) _ _ _); k_dflt (refine' want_kinds_use ?H ?F ?N ?lv ?ha ?hi ?_ ?_; (case H => assumption); (case F => k_asm); (case N => k_asm); (case lv => decide); (case ha => k_mem); (case hi => assumption)))
  k_with "call builtin:len" => (k_here; (with_reducible show wpAny _ _ (call (Value.builtin _) [Value.ref _]) _ _ _); k_dflt (refine' my_len ?N ?m ?l ?_; (case N => k_asm); (case m => k_mem); (case l => ((have hLX := AllV.length (by assumption)); omega))))
  k_with "call ref" => (k_here; (with_reducible show wpAny _ _ (call (Value.ref 126) [Value.ref _]) _ _ _); k_dflt (refine' pages_use ?H ?F ?N ?lv ?Z ?hp ?he ?_; (case H => assumption); (case F => k_asm); (case N => k_asm); (case lv => decide); (case Z => exact sz_up (by assumption) (by walk_at "m_sub")); (case hp => assumption); (case he => assumption)); intro h'ᵣ tk'ᵣ c'ᵣ F'ᵣ N'ᵣ; (try k_sweep))
  k_with "call ref" => (k_here; (with_reducible show wpAny _ _ (call (Value.ref 133) [Value.ref _, Value.ref _]) _ _ _); k_dflt (refine' tk_use ?H ?F ?N ?lv ?ha ?hm ?Z ?hp ?he ?_ ?_; (case H => assumption); (case F => k_asm); (case N => k_asm); (case lv => decide); (case ha => k_mem); (case hm => assumption); (case Z => exact sz_up (by assumption) (by walk_at "m_sub")); (case hp => assumption); (case he => assumption)))
  k_with "call ref" => (k_here; (with_reducible show wpAny _ _ (call (Value.ref 140) [Value.ref _, Value.ref _]) _ _ _); k_dflt (refine' mk_use ?H ?F ?N ?lv ?ha ?hm ?Z ?hp ?he ?_ ?_; (case H => assumption); (case F => k_asm); (case N => k_asm); (case lv => decide); (case ha => k_mem); (case hm => assumption); (case Z => exact sz_up (by assumption) (by walk_at "m_sub")); (case hp => assumption); (case he => assumption)))
  k_with "call ref" => (k_here; (with_reducible show wpAny _ _ (call (Value.ref 147) [Value.ref _]) _ _ _); k_dflt (refine' gk_use ?H ?F ?N ?lv ?ha ?_ ?_; (case H => assumption); (case F => k_asm); (case N => k_asm); (case lv => decide); (case ha => k_mem)))
  k_with "call ref" => (k_here; (with_reducible show wpAny _ _ (call (Value.ref 154) [Value.ref _, Value.int _ _]) _ _ _); k_dflt (refine' wt_use ?H ?F ?N ?lv ?M ?hK ?_ ?_; (case H => assumption); (case F => k_asm); (case N => k_asm); (case lv => decide); (case M => exact mod_up (by assumption) (by walk_at "m_sub")); (case hK => assumption)))
  k_with "exec Raise some none" => (k_here; k_dflt (refine raise_exec (by exact rfl) ?_))
  k_with "call ref" => (k_here; (with_reducible show wpAny _ _ (call (Value.ref 58) _) _ _ _); k_dflt (refine' inv_use ?H ?F ?N ?X ?lv ?_; (case H => assumption); (case F => k_asm); (case N => k_asm); (case X => assumption); (case lv => decide)))
  k_with "call ref" => (k_here; (with_reducible show wpAny _ _ (call (Value.ref 306) _) _ _ _); k_dflt (refine' memory_kinds_use ?H ?F ?N ?lv ?M ?O ?_; (case H => assumption); (case F => k_asm); (case N => k_asm); (case lv => decide); (case M => exact mod_up (by assumption) (by walk_at "m_sub")); (case O => assumption)); intro r'ᵣ us'ᵣ n'ᵣ h'ᵣ tk'ᵣ hu'ᵣ hne'ᵣ F'ᵣ N'ᵣ; (replace hne'ᵣ := neF hne'ᵣ); (try k_sweep))
  trivial
theorem map_canon3 {m m₀ : Str → Option Value} {x y t : Str} (h : ∀ z, z ≠ x → z ≠ y → z ≠ t → m z = m₀ z) : ∃ u v r, m = fun z => if z = x then u else if z = y then v else if z = t then r else m₀ z := ⟨m x, m y, m t, funext fun z => by
  by_cases e : z = x
  · simp [e]
  · by_cases e' : z = y
    · rw [if_neg e, if_pos e', e']
    · by_cases e'' : z = t
      · rw [if_neg e, if_neg e', if_pos e'', e'']
      · simp only [if_neg e, if_neg e', if_neg e'']; exact h z e e' e''⟩
local macro_rules | `(tactic| walk_at "m_map3") => `(tactic| (intro z hz hz2 hz3; simp only [List.reverse_cons, List.reverse_nil, List.nil_append, List.cons_append, lookup_if, List.lookup_nil, hz, hz2, hz3, if_false]))
theorem imp_up {T led : List (Addr × Obj)} {v : Value} {i : Imp} (q : ImpV (Mem T) v i) (h : ∀ p ∈ T, p ∈ led) : ImpV (Mem led) v i := q.mono fun a o hp => h _ hp
theorem imp_ref {P : PO} {v : Value} {i : Imp} (q : ImpV P v i) : ∃ y, v = .ref y := by
  obtain ⟨x, _, _, _, _, _, _, _, _, _, _, _, _, _, _, _, e, _⟩ := q
  exact ⟨x, e⟩
def funcF (n : Int) (x : Int × List Int) : Option Str := match typeF n x.1 with | some why => some why | none => kindsF x.2
theorem funcF_none {n : Int} {p : Int × List Int} (h1 : typeF n p.1 = none) (h2 : kindsF p.2 = none) : funcF n p = none := by rw [funcF, h1, h2]
theorem funcF_one {n : Int} {p : Int × List Int} {why : Str} (h1 : typeF n p.1 = some why) : funcF n p = some why := by rw [funcF, h1]
theorem funcF_two {n : Int} {p : Int × List Int} {why : Str} (h1 : typeF n p.1 = none) (h2 : kindsF p.2 = some why) : funcF n p = some why := by rw [funcF, h1, h2]
def manyF (M : Mod) : Option Str := if memImps M.imps + M.mems.length ≤ 1 then none else some (Str.ofString "multiple memories")
def headsF (M : Mod) (pg el : Int) : Option Str :=
  [typesF M.kinds, M.imps.findSome? (importF M.kinds.length pg el), M.funcs.findSome? (funcF M.kinds.length), M.tabs.findSome? (tableF el), M.mems.findSome? (memF pg), manyF M, M.globs.findSome? cellF].findSome? id
theorem heads_t {M : Mod} {pg el : Int} {why : Str}  (r : typesF M.kinds = some why) : headsF M pg el = some why := by
  simp only [headsF, List.findSome?_cons, id_eq, r]
theorem heads_0 {M : Mod} {pg el : Int} {why : Str} (q0 : typesF M.kinds = none) (r : (M.imps).findSome? (importF M.kinds.length pg el) = some why) : headsF M pg el = some why := by
  simp only [headsF, List.findSome?_cons, id_eq, q0, r]
theorem heads_1 {M : Mod} {pg el : Int} {why : Str} (q0 : typesF M.kinds = none) (q1 : (M.imps).findSome? (importF M.kinds.length pg el) = none) (r : (M.funcs).findSome? (funcF M.kinds.length) = some why) : headsF M pg el = some why := by
  simp only [headsF, List.findSome?_cons, id_eq, q0, q1, r]
theorem heads_2 {M : Mod} {pg el : Int} {why : Str} (q0 : typesF M.kinds = none) (q1 : (M.imps).findSome? (importF M.kinds.length pg el) = none) (q2 : (M.funcs).findSome? (funcF M.kinds.length) = none) (r : (M.tabs).findSome? (tableF el) = some why) : headsF M pg el = some why := by
  simp only [headsF, List.findSome?_cons, id_eq, q0, q1, q2, r]
theorem heads_3 {M : Mod} {pg el : Int} {why : Str} (q0 : typesF M.kinds = none) (q1 : (M.imps).findSome? (importF M.kinds.length pg el) = none) (q2 : (M.funcs).findSome? (funcF M.kinds.length) = none) (q3 : (M.tabs).findSome? (tableF el) = none) (r : (M.mems).findSome? (memF pg) = some why) : headsF M pg el = some why := by
  simp only [headsF, List.findSome?_cons, id_eq, q0, q1, q2, q3, r]
theorem heads_m {M : Mod} {pg el : Int} {why : Str} (q0 : typesF M.kinds = none) (q1 : (M.imps).findSome? (importF M.kinds.length pg el) = none) (q2 : (M.funcs).findSome? (funcF M.kinds.length) = none) (q3 : (M.tabs).findSome? (tableF el) = none) (q4 : (M.mems).findSome? (memF pg) = none) (r : manyF M = some why) : headsF M pg el = some why := by
  simp only [headsF, List.findSome?_cons, id_eq, q0, q1, q2, q3, q4, r]
theorem heads_4 {M : Mod} {pg el : Int} {why : Str} (q0 : typesF M.kinds = none) (q1 : (M.imps).findSome? (importF M.kinds.length pg el) = none) (q2 : (M.funcs).findSome? (funcF M.kinds.length) = none) (q3 : (M.tabs).findSome? (tableF el) = none) (q4 : (M.mems).findSome? (memF pg) = none) (q5 : manyF M = none) (r : (M.globs).findSome? (cellF) = some why) : headsF M pg el = some why := by
  simp only [headsF, List.findSome?_cons, id_eq, q0, q1, q2, q3, q4, q5, r]
theorem heads_all {M : Mod} {pg el : Int} (q0 : typesF M.kinds = none) (q1 : (M.imps).findSome? (importF M.kinds.length pg el) = none) (q2 : (M.funcs).findSome? (funcF M.kinds.length) = none) (q3 : (M.tabs).findSome? (tableF el) = none) (q4 : (M.mems).findSome? (memF pg) = none) (q5 : manyF M = none) (q6 : (M.globs).findSome? (cellF) = none) : headsF M pg el = none := by
  simp only [headsF, List.findSome?_cons, List.findSome?_nil, id_eq, q0, q1, q2, q3, q4, q5, q6]
theorem many_of {M : Mod} {us : List Value} (h : us.length = memImps M.imps + M.mems.length) (h2 : decide ((us.length : Int) ≤ 1) = true) : manyF M = none := by
  rw [manyF, if_pos]; have := of_decide_eq_true h2; omega
theorem many_no {M : Mod} {us : List Value} (h : us.length = memImps M.imps + M.mems.length) (h2 : decide ((us.length : Int) ≤ 1) = false) : manyF M = some (Str.ofString "multiple memories") := by
  rw [manyF, if_neg]; have := of_decide_eq_false h2; omega
section
variable {w : World} {mean : ExcName → Option Value} {mg mb : Str → Option Value} {A A₀ : Around} {base G g : Heap} {outer l : List Env} {env : Env} {s : Shared} {Q E : Value → Shared → Prop} {L : Addr} {m : Str → Option Value} {led : List (Addr × Obj)} {o : Obj}
theorem types_use {x : Addr} {M : Mod} {lv : Nat} (H : Hr lv w mean mg mb A₀ A base outer env g L) (F : Fr g L s.heap m) (N : News g L s.heap led) (hlv : 120 ≤ lv) (hM : ModV (Mem led) x M)
    (hQ : typesF M.kinds = none → ∀ h' tk', Fr g L h' m → News g L h' led → Q .none { s with heap := h', toks := tk' })
    (hE : ∀ why, typesF M.kinds = some why → ∀ e h' tk', Thr w base (env :: outer) s.heap e why (some .none) h' → E (.ref e) { s with heap := h', toks := tk' }) :
    wpAny (model PySem.Challenge.pw_nm0133_01 w) A (call (.ref 161) [.ref x]) Q E s := types_ok (H.at F N hlv) (led_T N) hM (chk_in F N hQ hE)
theorem impc_use {x y z : Addr} {M : Mod} {i : Imp} {pg el : Int} {lv : Nat} (H : Hr lv w mean mg mb A₀ A base outer env g L) (F : Fr g L s.heap m) (N : News g L s.heap led) (hlv : 140 ≤ lv) (hM : ModV (Mem led) x M) (hK : M.kinds.length ≤ 3) (hI : ImpV (Mem led) (.ref y) i) (hZ : SizesV (Mem led) z pg el) (hp : 0 ≤ pg ∧ pg ≤ 100) (he : 0 ≤ el ∧ el ≤ 100)
    (hQ : importF M.kinds.length pg el i = none → ∀ h' tk', Fr g L h' m → News g L h' led → Q .none { s with heap := h', toks := tk' })
    (hE : ∀ why, importF M.kinds.length pg el i = some why → ∀ e h' tk', Thr w base (env :: outer) s.heap e why (some .none) h' → E (.ref e) { s with heap := h', toks := tk' }) :
    wpAny (model PySem.Challenge.pw_nm0133_01 w) A (call (.ref 168) [.ref x, .ref y, .ref z]) Q E s := import_check_ok (H.at F N hlv) (led_T N) hM hK hI hZ hp he (chk_in F N hQ hE)
theorem rows_C18_3 : True := by
  k_with "call ref" => (k_here; (with_reducible show wpAny _ _ (call (Value.ref 161) [Value.ref _]) _ _ _); k_dflt (refine' types_use ?H ?F ?N ?lv ?M ?_ ?_; (case H => assumption); (case F => k_asm); (case N => k_asm); (case lv => decide); (case M => exact mod_up (by assumption) (by walk_at "m_sub"))))
  k_with "call ref" => (k_here; (with_reducible show wpAny _ _ (call (Value.ref 168) [Value.ref _, Value.ref _, Value.ref _]) _ _ _); k_dflt (refine' impc_use ?H ?F ?N ?lv ?M ?K ?I ?Z ?hp ?he ?_ ?_; (case H => assumption); (case F => k_asm); (case N => k_asm); (case lv => decide); (case M => exact mod_up (by assumption) (by walk_at "m_sub")); (case K => assumption); (case I => exact imp_up (by assumption) (by walk_at "m_sub")); (case Z => exact sz_up (by assumption) (by walk_at "m_sub")); (case hp => assumption); (case he => assumption)))
  trivial
set_option maxHeartbeats 16000000 in
theorem heads_ok {x z : Addr} {M : Mod} {pg el : Int} {T : List (Addr × Obj)} (C : At 160 w mean mg mb A base outer G s.heap) (hT : ∀ p ∈ T, s.heap.get? p.1 = some p.2 ∧ G.get? p.1 = none)
    (hM : ModV (Mem T) x M) (hO : M.Ok) (hZ : SizesV (Mem T) z pg el) (hp : 0 ≤ pg ∧ pg ≤ 100) (he : 0 ≤ el ∧ el ≤ 100) (h : Chk w base outer s (headsF M pg el) Q E) :
    wpAny (model PySem.Challenge.pw_nm0133_01 w) A (call (.ref 175) [.ref x, .ref z]) Q E s := by
  have hin := C.inh
  obtain ⟨hd0, dp, fr, gd, un⟩ := A
  obtain rfl : hd0 = none := C.hand
  obtain rfl : fr = some outer := C.B.stack
  refine wpAny_call ?_
  refine' enter T [(Str.ofString "module", .ref x), (Str.ofString "sizes", .ref z)] C (by decide) hT ?k6 ?k7 ?k9 ?kB ?c2 ?c3 ?c4 ?c5 ?_
  walk_at "m_in"
  intro g L' h₁ hg hlt F' N' X' T' H hd hu hA
  have B' := H.B
  clear C
  have hM₀ := hM
  have hK := hO.k
  obtain ⟨dx, h1, h2, h3, h4, h5, h6, h7, h8, h9, h10, h11, b1, b2, b3, b4, b5, b6, b7, b8, b9, b10, b11, K1, K2, a3, K4, K5, a6, a7, a8, a9, a10, ys, zs, vs, ts, ms, gs, n1, n2, n3, n4, n5, n6, q⟩ := hM
  replace N' := news_from (more := [(x, instObj 372 dx), (dx, dictOf [En h1 "kinds" b1 (.ref K1), En h2 "imports" b2 (.ref K2), En h3 "funcs" b3 (.ref a3), En h4 "tables" b4 (.ref K4), En h5 "memories" b5 (.ref K5), En h6 "globals" b6 (.ref a6), En h7 "exports" b7 (.ref a7), En h8 "start" b8 .none, En h9 "elems" b9 (.ref a8), En h10 "datas" b10 (.ref a9), En h11 "customs" b11 (.ref a10)] 11), (K2, listOf (List.toArray zs) n2), (a3, listOf (List.toArray vs) n3), (K4, listOf (List.toArray ts) n4), (K5, listOf (List.toArray ms) n5), (a6, listOf (List.toArray gs) n6)]) N' (T := T) (fun _ hX => hX) (by intro r hr; simp only [List.mem_cons, List.not_mem_nil, or_false] at hr; rcases hr with rfl | rfl | rfl | rfl | rfl | rfl | rfl <;> first | exact q.ob | exact q.di | exact q.k2 | exact q.k3 | exact q.k4 | exact q.k5 | exact q.k6)
  simp only [List.cons_append, List.nil_append] at N'
  have hlv5 := q.v5
  have hlm := hO.m
  have hli := hO.i
  have hmi := memImps_le (is := M.imps)
  have hEJ : EJ (fun i m => (∀ r, r ≠ Str.ofString "entry" → r ≠ Str.ofString "func" → r ≠ Str.ofString "about" → m r = if r = Str.ofString "sizes" then some (.ref z) else if r = Str.ofString "module" then some (.ref x) else none) ∧ ((M.imps).take i).findSome? (importF M.kinds.length pg el) = none) := trivial
  walk_at "m_go"
  case ea0 => exact ⟨by walk_at "m_map3", by simp⟩
  case eaT =>
    unfold Later2 EachT
    (with_reducible rename News _ _ _ _ => NK; rename Fr _ _ _ _ => FK; clear FK NK)
    intro i v m₁ own hh₂ tk₂ hv hJ F' N'
    obtain ⟨hm, hpre⟩ := hJ
    obtain ⟨u1, u2, u3, rfl⟩ := map_canon3 hm
    obtain ⟨im, hk, hq⟩ := allV_at q.v2 hv
    simp only [List.cons_append] at N'
    replace F' : Fr g L' hh₂ _ := F'
    replace N' : News g L' hh₂ _ := N'
    clear hEJ
    obtain ⟨y, rfl⟩ := imp_ref hq
    (try dsimp only at *)
    (try simp only [List.cons_append, List.nil_append] at N')
    k_steps
    all_goals first
      | exact each_end (by exact rfl) (by assumption) (by assumption) (by walk_at "m_sub") ⟨by walk_at "m_map3", find_take hk hpre (by assumption)⟩
      | (walk_at "m_chk"; exact heads_0 (by assumption) (find_at hk hpre (by assumption)))
  case eaF =>
    unfold Later2
    (with_reducible rename News _ _ _ _ => NK; rename Fr _ _ _ _ => FK; clear FK NK)
    intro m₁ hh₂ tk₂ hJ F' N'
    obtain ⟨hm, hs0⟩ := hJ
    obtain ⟨u1, u2, u3, rfl⟩ := map_canon3 hm
    replace F' : Fr g L' hh₂ _ := F'
    replace N' : News g L' hh₂ _ := N'
    rw [List.take_of_length_le (by have := q.v2.length; simp; omega)] at hs0
    clear hEJ hm
    have hEJ : EJ (fun i m => (∀ r, r ≠ Str.ofString "entry" → r ≠ Str.ofString "func" → r ≠ Str.ofString "about" → m r = if r = Str.ofString "sizes" then some (.ref z) else if r = Str.ofString "module" then some (.ref x) else none) ∧ ((M.funcs).take i).findSome? (funcF M.kinds.length) = none) := trivial
    dsimp only
    k_steps
    case ea0 => exact ⟨by walk_at "m_map3", by simp⟩
    case eaT =>
      unfold Later2 EachT
      (with_reducible rename News _ _ _ _ => NK; rename Fr _ _ _ _ => FK; clear FK NK)
      intro i v m₁ own hh₂ tk₂ hv hJ F' N'
      obtain ⟨hm, hpre⟩ := hJ
      obtain ⟨u1, u2, u3, rfl⟩ := map_canon3 hm
      obtain ⟨⟨fk, fks⟩, hk, hq⟩ := allV_at q.v3 hv
      simp only [List.cons_append] at N'
      replace F' : Fr g L' hh₂ _ := F'
      replace N' : News g L' hh₂ _ := N'
      clear hEJ
      obtain ⟨fa, fd, fn, fb, fc, fv, fe, j1, j2, j3, d1, d2, d3, e1, rfl, p1, p2, p3, hiv, hfl, p4, hk0⟩ := hq
      replace N' := news_from (more := [(fa, instObj 227 fd), (fd, dictOf [En j1 "kind" d1 (.int fk e1), En j2 "locals" d2 (.ref fb), En j3 "body" d3 (.ref fc)] fn), (fb, tupO (List.toArray fv))]) N' (T := T) (by walk_at "m_sub") (by intro r hr; simp only [List.mem_cons, List.not_mem_nil, or_false] at hr; rcases hr with rfl | rfl | rfl <;> assumption)
      (try dsimp only at *)
      (try simp only [List.cons_append, List.nil_append] at N')
      k_steps
      all_goals first
        | exact each_end (by exact rfl) (by assumption) (by assumption) (by walk_at "m_sub") ⟨by walk_at "m_map3", find_take hk hpre (funcF_none (by assumption) (by assumption))⟩
        | (walk_at "m_chk"; exact heads_1 (by assumption) hs0 (find_at hk hpre (by first | exact funcF_one (by assumption) | exact funcF_two (by assumption) (by assumption))))
    case eaF =>
      unfold Later2
      (with_reducible rename News _ _ _ _ => NK; rename Fr _ _ _ _ => FK; clear FK NK)
      intro m₁ hh₂ tk₂ hJ F' N'
      obtain ⟨hm, hs1⟩ := hJ
      obtain ⟨u1, u2, u3, rfl⟩ := map_canon3 hm
      replace F' : Fr g L' hh₂ _ := F'
      replace N' : News g L' hh₂ _ := N'
      rw [List.take_of_length_le (by have := q.v3.length; simp; omega)] at hs1
      clear hEJ hm
      have hEJ : EJ (fun i m => (∀ r, r ≠ Str.ofString "entry" → r ≠ Str.ofString "func" → r ≠ Str.ofString "about" → m r = if r = Str.ofString "sizes" then some (.ref z) else if r = Str.ofString "module" then some (.ref x) else none) ∧ ((M.tabs).take i).findSome? (tableF el) = none) := trivial
      dsimp only
      k_steps
      case ea0 => exact ⟨by walk_at "m_map3", by simp⟩
      case eaT =>
        unfold Later2 EachT
        (with_reducible rename News _ _ _ _ => NK; rename Fr _ _ _ _ => FK; clear FK NK)
        intro i v m₁ own hh₂ tk₂ hv hJ F' N'
        obtain ⟨hm, hpre⟩ := hJ
        obtain ⟨u1, u2, u3, rfl⟩ := map_canon3 hm
        obtain ⟨⟨fk, fl, fo⟩, hk, hq⟩ := allV_at q.v4 hv
        simp only [List.cons_append] at N'
        replace F' : Fr g L' hh₂ _ := F'
        replace N' : News g L' hh₂ _ := N'
        clear hEJ
        obtain ⟨fa, tk, t, mv, rfl, p1, hmo, h0⟩ := hq
        replace N' := news_from (more := [(fa, tupO #[.int fk tk, .int fl t, mv])]) N' (T := T) (by walk_at "m_sub") (by intro r hr; rcases List.mem_singleton.mp hr with rfl; exact p1)
        (try dsimp only at *)
        (try simp only [List.cons_append, List.nil_append] at N')
        k_steps
        all_goals first
          | exact each_end (by exact rfl) (by assumption) (by assumption) (by walk_at "m_sub") ⟨by walk_at "m_map3", find_take hk hpre (by assumption)⟩
          | (walk_at "m_chk"; exact heads_2 (by assumption) hs0 hs1 (find_at hk hpre (by assumption)))
      case eaF =>
        unfold Later2
        (with_reducible rename News _ _ _ _ => NK; rename Fr _ _ _ _ => FK; clear FK NK)
        intro m₁ hh₂ tk₂ hJ F' N'
        obtain ⟨hm, hs2⟩ := hJ
        obtain ⟨u1, u2, u3, rfl⟩ := map_canon3 hm
        replace F' : Fr g L' hh₂ _ := F'
        replace N' : News g L' hh₂ _ := N'
        rw [List.take_of_length_le (by have := q.v4.length; simp; omega)] at hs2
        clear hEJ hm
        have hEJ : EJ (fun i m => (∀ r, r ≠ Str.ofString "entry" → r ≠ Str.ofString "func" → r ≠ Str.ofString "about" → m r = if r = Str.ofString "sizes" then some (.ref z) else if r = Str.ofString "module" then some (.ref x) else none) ∧ ((M.mems).take i).findSome? (memF pg) = none) := trivial
        dsimp only
        k_steps
        case ea0 => exact ⟨by walk_at "m_map3", by simp⟩
        case eaT =>
          unfold Later2 EachT
          (with_reducible rename News _ _ _ _ => NK; rename Fr _ _ _ _ => FK; clear FK NK)
          intro i v m₁ own hh₂ tk₂ hv hJ F' N'
          obtain ⟨hm, hpre⟩ := hJ
          obtain ⟨u1, u2, u3, rfl⟩ := map_canon3 hm
          obtain ⟨⟨fk, fo⟩, hk, hq⟩ := allV_at q.v5 hv
          simp only [List.cons_append] at N'
          replace F' : Fr g L' hh₂ _ := F'
          replace N' : News g L' hh₂ _ := N'
          clear hEJ
          obtain ⟨fa, t, mv, rfl, p1, hmo, h0⟩ := hq
          replace N' := news_from (more := [(fa, tupO #[.int fk t, mv])]) N' (T := T) (by walk_at "m_sub") (by intro r hr; rcases List.mem_singleton.mp hr with rfl; exact p1)
          (try dsimp only at *)
          (try simp only [List.cons_append, List.nil_append] at N')
          k_steps
          all_goals first
            | exact each_end (by exact rfl) (by assumption) (by assumption) (by walk_at "m_sub") ⟨by walk_at "m_map3", find_take hk hpre (by assumption)⟩
            | (walk_at "m_chk"; exact heads_3 (by assumption) hs0 hs1 hs2 (find_at hk hpre (by assumption)))
        case eaF =>
          unfold Later2
          (with_reducible rename News _ _ _ _ => NK; rename Fr _ _ _ _ => FK; clear FK NK)
          intro m₁ hh₂ tk₂ hJ F' N'
          obtain ⟨hm, hs3⟩ := hJ
          obtain ⟨u1, u2, u3, rfl⟩ := map_canon3 hm
          replace F' : Fr g L' hh₂ _ := F'
          replace N' : News g L' hh₂ _ := N'
          rw [List.take_of_length_le (by have := q.v5.length; simp; omega)] at hs3
          clear hEJ hm
          have hEJ : EJ (fun i m => (∀ r, r ≠ Str.ofString "entry" → r ≠ Str.ofString "func" → r ≠ Str.ofString "about" → m r = if r = Str.ofString "sizes" then some (.ref z) else if r = Str.ofString "module" then some (.ref x) else none) ∧ ((M.globs).take i).findSome? (cellF) = none) := trivial
          dsimp only
          k_steps
          case ea0 => exact ⟨by walk_at "m_map3", by simp⟩
          case eaT =>
            unfold Later2 EachT
            (with_reducible rename News _ _ _ _ => NK; rename Fr _ _ _ _ => FK; clear FK NK)
            intro i v m₁ own hh₂ tk₂ hv hJ F' N'
            obtain ⟨hm, hpre⟩ := hJ
            obtain ⟨u1, u2, u3, rfl⟩ := map_canon3 hm
            obtain ⟨⟨fk, fl⟩, hk, hq⟩ := allV_at q.v6 hv
            simp only [List.cons_append] at N'
            replace F' : Fr g L' hh₂ _ := F'
            replace N' : News g L' hh₂ _ := N'
            clear hEJ
            obtain ⟨fa, fd, fn, fc, f2, fe, ft, j1, j2, j3, d1, d2, d3, e1, e2, rfl, p1, p2, p3, p4⟩ := hq
            replace N' := news_from (more := [(fa, instObj 255 fd), (fd, dictOf [En j1 "kind" d1 (.int fk e1), En j2 "mutable" d2 (.int fl e2), En j3 "body" d3 (.ref fc)] fn)]) N' (T := T) (by walk_at "m_sub") (by intro r hr; simp only [List.mem_cons, List.not_mem_nil, or_false] at hr; rcases hr with rfl | rfl <;> assumption)
            (try dsimp only at *)
            (try simp only [List.cons_append, List.nil_append] at N')
            k_steps
            all_goals first
              | exact each_end (by exact rfl) (by assumption) (by assumption) (by walk_at "m_sub") ⟨by walk_at "m_map3", find_take hk hpre (by assumption)⟩
              | (walk_at "m_chk"; exact heads_4 (by assumption) hs0 hs1 hs2 hs3 (many_of (by assumption) (by assumption)) (find_at hk hpre (by assumption)))
          case eaF =>
            unfold Later2
            (with_reducible rename News _ _ _ _ => NK; rename Fr _ _ _ _ => FK; clear FK NK)
            intro m₁ hh₂ tk₂ hJ F' N'
            obtain ⟨hm, hs4⟩ := hJ
            obtain ⟨u1, u2, u3, rfl⟩ := map_canon3 hm
            replace F' : Fr g L' hh₂ _ := F'
            replace N' : News g L' hh₂ _ := N'
            rw [List.take_of_length_le (by have := q.v6.length; simp; omega)] at hs4
            clear hEJ hm
            dsimp only
            k_steps
            walk_at "m_chk"
            exact heads_all (by assumption) hs0 hs1 hs2 hs3 (many_of (by assumption) (by assumption)) hs4
          all_goals (walk_at "m_chk"; exact heads_m (by assumption) hs0 hs1 hs2 hs3 (many_no (by assumption) (by assumption)))
  all_goals (walk_at "m_chk"; exact heads_t (by assumption))
end
theorem rows_C19_1 : True := by
  k_with_none
  trivial
abbrev tupN (its : Array Value) (k : Nat) : Obj := { cls := .type "tuple", data := .seq its k }
section
variable {prog : Program} {w : World} {A : Around} {E : Value → Shared → Prop} {s : Shared} {h₀ : Heap} {L : Addr} {m : Str → Option Value} {env : Env} {ct elt iter : Expr} {x : Str} {px : Pos} {scope : Scope} {cl : List (Str × Addr)} {pos : Pos}
def CompSrcTup (prog : Program) (w : World) (A : Around) (h₀ : Heap) (L : Addr) (m : Str → Option Value) (env : Env) (ct elt : Expr) (x : Str) (scope : Scope) (cl : List (Str × Addr)) (Fin : Shared → List Value → List (Addr × Obj) → Prop) (xv : Value) (s₁ : Shared) : Prop :=
  ∃ ax its k news, xv = .ref ax ∧ A.handled = none ∧ Fr h₀ L s₁.heap m ∧ News h₀ L s₁.heap news ∧ (ax, tupN its k) ∈ news ∧ its.size ≤ sizeLine ∧
    ∀ s₂ : Shared, (∃ h, s₂ = { s₁ with heap := h }) → LCt.CompRestT prog w A h₀ L m env ct elt x scope cl s₂ (fun nw => (ax, tupN its k) ∈ nw) (fun i v => its[i]? = some v) (Fin s₂) its.size 0 [] news
theorem CompSrcTup.mk {Fin : Shared → List Value → List (Addr × Obj) → Prop} {ax : Addr} {its : Array Value} {k : Nat} {news : List (Addr × Obj)} {s₁ : Shared} (hh : A.handled = none) (F : Fr h₀ L s₁.heap m) (N : News h₀ L s₁.heap news) (hm : (ax, tupN its k) ∈ news) (hsz : its.size ≤ sizeLine)
    (h : ∀ g, LCt.CompRestT prog w A h₀ L m env ct elt x scope cl { s₁ with heap := g } (fun nw => (ax, tupN its k) ∈ nw) (fun i v => its[i]? = some v) (Fin { s₁ with heap := g }) its.size 0 [] news) :
    CompSrcTup prog w A h₀ L m env ct elt x scope cl Fin (.ref ax) s₁ := ⟨ax, its, k, news, rfl, hh, F, N, hm, hsz, fun _ ⟨g, e⟩ => e ▸ h g⟩
theorem ListComp_Tup {Q : Value → Shared → Prop} (_F₀ : Fr h₀ L s.heap m) (hclos : closureFor scope env = pure cl) (hcell : ∀ y ∈ scope.names, y.2 ≠ .cell) (hkind : scope.kind = .function)
    (hnames : ∀ y ∈ scope.names, y.2 = .local → scope.names.lookup y.1 = some .local) (hx : scope.names.lookup x = some .local)
    (h : wpAny (model prog w) A (eval iter env) (CompSrcTup prog w A h₀ L m env ct elt x scope cl (fun s₂ => LCg.FinE h₀ L m s₂ Q)) E s)
    (hs : ∀ x, foldedSetIterable iter env x = pure x := by intro _; rfl) :
    wpAny (model prog w) A (eval (.ListComp elt [⟨.Name x px, iter, [ct], 0⟩] scope pos) env) Q E s := by
  rw [eval_ListComp]
  refine wpAny_comprehension_free (use := none) rfl hs hclos hkind hnames (wpAny_mono h (fun xv s₁ h₁ => ?_) fun _ _ e => e)
  obtain ⟨ax, its, k, news, rfl, hh, F, N, S, hsz, R⟩ := h₁
  have ht : s₁.heap.IsTuple ax its := ⟨_, (N _ S).1, rfl, k, rfl⟩
  have hlt : ax < s₁.heap.objs.size := Heap.lt_size (N _ S).1
  refine wpAny_pyIter_tuple ht ?_
  generalize hit : ({ cls := .type "tuple_iterator", data := .fields #[.ref ax, .int 0 0] } : Obj) = oi
  have up : ∀ b o, s₁.heap.get? b = some o → (s₁.heap.push oi).get? b = some o := fun b o e => Heap.get?_push_of_some _ e
  have hI : (s₁.heap.push oi).get? s₁.heap.objs.size = some oi := Heap.get?_push_size _ (by subst hit; rfl)
  refine LCt.block_T (Walks.tuple hh s₁.heap.objs.size ax (Nat.ne_of_lt hlt) its) hsz (fun i h st => by obtain ⟨o, e, _⟩ := st.1; exact ⟨o, e⟩)
    (fun i h h' o nw st e e' k' N' S' => ⟨by obtain ⟨o', q, r⟩ := st.1; rw [e] at q; cases q; exact ⟨o, e', r⟩, ⟨_, (N' _ S').1, rfl, k, rfl⟩⟩) hcell hkind hx
    ⟨by subst hit; exact ⟨_, hI, rfl, rfl⟩, ht.at fun o e => up _ _ e⟩ (fun b hb => ?_) (F.keeps up) (N.grown up) (Nat.ne_of_lt F.ns.lt) (next_is_new F) (fun p hp => Nat.ne_of_lt (Heap.lt_size (N p hp).1)) S (R _ ⟨_, rfl⟩) ?_
  · show b < (s₁.heap.push _).objs.size
    rw [Heap.size_push]
    rcases List.mem_cons.mp hb with rfl | hb
    · exact Nat.lt_succ_self _
    · rw [List.mem_singleton.mp hb]; exact Nat.lt_succ_of_lt hlt
  · intro D C h tk m' ys news' F' N' o1 hn hC₀ hD₀ hCL hDL hCD offC fin
    refine ⟨m', hn, fun h'' hs'' => fin D h'' tk (F'.change hs'' hCL hC₀) (fun p hp => ?_) o1⟩
    refine ⟨hs''.extBut _ _ ?_ (N' p hp).1, (N' p hp).2⟩
    rcases List.mem_cons.mp hp with rfl | hp
    · exact Ne.symm hCD
    · exact offC p hp
end
theorem rows_C20_1 : True := by
  k_with_none
  k_with "call ref" => (k_here; (with_reducible show wpAny _ _ (call (Value.ref 105) [Value.bool _, Value.str _ _]) _ _ _); k_dflt (refine' want_use ?H ?F ?N ?lv ?_ ?_; (case H => assumption); (case F => k_asm); (case N => k_asm); (case lv => decide)))
  k_with "leaving ref" => (k_here; k_dflt (refine' leave_thr (by exact Hr.frames (by assumption)) rfl (.inr rfl) ?R ?hE ?hL ?hin ?_; (case R => assumption); (case hE => walk_at "m_ext"); (case hL => exact frame_none (by assumption) (by assumption)); (case hin => assumption)); intro h'ᵣ R'ᵣ)
  k_with "eval ListComp" => (k_here; k_dflt (refine LCt.ListComp_T (F₀ := by k_asm) (by with_unfolding_all rfl) (by decide) (by rfl) (by decide) (by rfl) ?_))
  k_with "CompSrcT" => (k_here; k_dflt (refine LCt.CompSrcT.ledger (by rfl) (by k_asm) (by k_asm) (by k_mem) (by simp only [List.size_toArray]; rw [PySem.sizeLine_eq]; omega) ?_; intro g'ᵣ; refine comp_invT (by assumption) ?ct0 ?ctT ?ctF))
  trivial
theorem Hr.u {lv : Nat} {w : World} {mean : ExcName → Option Value} {mg mb : Str → Option Value} {A A₀ : Around} {base g : Heap} {outer : List Env} {env : Env} {L : Addr} (H : Hr lv w mean mg mb A₀ A base outer env g L) (_h : 7 ≤ lv) : A.units + 64 < cLine := by
  have := H.un
  unfold cLine; omega
theorem rows_C20_2 : True := by
  k_with "compareOp Eq ref ref" => (k_here; (with_reducible show wpAny _ _ (compareOp CmpOp.Eq (Value.ref _) (Value.ref _)) _ _ _); k_dflt (refine' ke_eq_ints ?a ?b ?hi ?hj ?u ?_; (case hj => exact IntsAre.nil); (case a => exact News.isList (by assumption) (by k_mem)); (case b => exact News.isList (by assumption) (by k_mem)); (case hi => assumption); (case u => exact Hr.u (by assumption) (by decide))))
  trivial
theorem rows_C20_3 : True := by
  k_with "CompSrcTup" => (k_here; k_dflt (refine CompSrcTup.mk (by rfl) (by k_asm) (by k_asm) (by k_mem) (by simp only [List.size_toArray]; rw [PySem.sizeLine_eq]; omega) ?_; intro g'ᵣ; refine comp_invT (by assumption) ?ct0 ?ctT ?ctF))
  trivial
theorem any_kind {k : Int} : ([-1, -2, -16, -17].any fun x => x == k) = isKind k := by
  simp only [List.any_cons, List.any_nil, isKind]
  have q : ∀ a : Int, (a == k) = decide (k = a) := fun a => by
    by_cases e : a = k
    · simp [e]
    · have e' : ¬ k = a := fun z => e z.symm
      simp [e, e']
  simp only [q]
theorem kf_all {ks : List Int} {i : Nat} {k : Int} (h : ks[i]? = some k) : (ks.take (i + 1)).all isKind = ((ks.take i).all isKind && isKind k) := by
  rw [List.take_add_one, h, List.all_append]; simp only [Option.toList_some, List.all_cons, List.all_nil, Bool.and_true]
theorem kf_keep {ks : List Int} {i : Nat} {k : Int} {us : List Value} (h : ks[i]? = some k) (hus : us = [] ↔ (ks.take i).all isKind = true) (ha : ([-1, -2, -16, -17].any fun x => x == k) = true) : us = [] ↔ (ks.take (i + 1)).all isKind = true := by
  rw [kf_all h, ← any_kind, ha, Bool.and_true]; exact hus
theorem kf_drop {ks : List Int} {i : Nat} {k : Int} {us : List Value} {v : Value} (h : ks[i]? = some k) (ha : ([-1, -2, -16, -17].any fun x => x == k) = false) : us ++ [v] = [] ↔ (ks.take (i + 1)).all isKind = true := by
  rw [kf_all h, ← any_kind, ha, Bool.and_false]; simp
def kfText (ks : List Int) : Str := if ks.all isKind then Str.ofString "" else Str.ofString "unknown value kind"
theorem str_q {Q : Value → Shared → Prop} {a b : Str} {c : Tok} {s : Shared} (e : a = b) (h : Q (.str a c) s) : Q (.str b c) s := e ▸ h
theorem kf_yes {ks js : List Int} {us : List Value} (hl : us.length = js.length) (hus : us = [] ↔ ks.all isKind = true) (e : js = []) : kfText ks = Str.ofString "" := by
  subst e
  rw [kfText, if_pos (hus.mp (List.length_eq_zero_iff.mp hl))]
theorem kf_not {ks js : List Int} {us : List Value} (hl : us.length = js.length) (hus : us = [] ↔ ks.all isKind = true) (e : ¬ js = []) : kfText ks = Str.ofString "unknown value kind" := by
  rw [kfText, if_neg fun q => e (List.length_eq_zero_iff.mp (by rw [← hl, hus.mpr q]; rfl))]
section
variable {w : World} {mean : ExcName → Option Value} {mg mb : Str → Option Value} {A A₀ : Around} {base G g : Heap} {outer l : List Env} {env : Env} {s : Shared} {Q E : Value → Shared → Prop} {L : Addr} {m : Str → Option Value} {led : List (Addr × Obj)} {o : Obj}
set_option maxHeartbeats 8000000 in
theorem kf_list_ok {a : Addr} {vs : List Value} {ks : List Int} {n : Nat} {T : List (Addr × Obj)} (C : At 60 w mean mg mb A base outer G s.heap) (hT : ∀ p ∈ T, s.heap.get? p.1 = some p.2 ∧ G.get? p.1 = none)
    (ha : (a, listOf (List.toArray vs) n) ∈ T) (hi : IntsAre vs ks) (hl : ks.length ≤ 8) (h : ∀ h' tk' c, Ext s.heap h' → Q (.str (kfText ks) c) { s with heap := h', toks := tk' }) :
    wpAny (model PySem.Challenge.pw_nm0133_01 w) A (call (.ref 438) [.ref a]) Q E s := by
  obtain ⟨hd0, dp, fr, gd, un⟩ := A
  obtain rfl : hd0 = none := C.hand
  obtain rfl : fr = some outer := C.B.stack
  refine wpAny_call ?_
  refine' enter T [(Str.ofString "kinds", .ref a)] C (by decide) hT ?k6 ?k7 ?k9 ?kB ?c2 ?c3 ?c4 ?c5 ?_
  walk_at "m_in"
  intro g L' h₁ hg hlt F' N' X' T' H hd hu hA
  have B' := H.B
  clear C
  replace N' := news_dup N' ha
  have hvl := hi.length
  have hCI : CI (fun i ys nw => (ys = [] ↔ (ks.take i).all isKind = true) ∧ (∃ js, IntsAre ys js) ∧ ys.length ≤ i ∧ nw = (a, listOf (List.toArray vs) n) :: T) := trivial
  walk_at "m_go"
  case ct0 => exact ⟨by simp, ⟨[], .nil⟩, by simp, rfl⟩
  case ctT =>
    unfold Later2
    clear hCI
    intro i us nw v IA oI C oC Da m₂ h₃ tk E' hin hI hv hC hx F' N' off ne
    obtain ⟨hus, ⟨js, hjs⟩, hul, rfl⟩ := hI
    obtain ⟨k, t, rfl, hk⟩ := ints_at hi hv
    have hoff := offH off
    (try k_unmd)
    k_fold
    k_steps
    all_goals first
      | exact comp_turn hoff (by exact rfl) (by assumption) (by assumption) (by walk_at "m_sub") (.inr ⟨_, by k_mem, rfl, _, rfl⟩) ⟨kf_keep hk hus (by assumption), ⟨_, hjs⟩, by omega, rfl⟩
      | exact comp_turn hoff (by exact rfl) (by assumption) (by assumption) (by walk_at "m_sub") (.inr ⟨_, by k_mem, rfl, _, rfl⟩) ⟨kf_drop hk (by assumption), ⟨_, IntsAre.append hjs (.cons k t .nil)⟩, by simp; omega, rfl⟩
  case ctF =>
    unfold Later2
    clear hCI
    intro us nw hI
    obtain ⟨hus, ⟨js, hjs⟩, hul, rfl⟩ := hI
    unfold LCg.FinE
    intro r h₃ tk₃ F' N' q2
    clear q2
    rw [List.take_of_length_le (by simp; omega)] at hus
    have hjl := hjs.length
    k_steps
    all_goals first
      | exact str_q (kf_yes hjl hus (of_decide_eq_true (by assumption))) (h _ _ _ (by walk_at "m_ext"))
      | exact str_q (kf_not hjl hus (of_decide_eq_false (by assumption))) (h _ _ _ (by walk_at "m_ext"))
end
section
theorem rows_C20_4 : True := by
  k_with "eval ListComp" => (k_here; k_dflt (refine ListComp_Tup (by k_asm) (by with_unfolding_all rfl) (by decide) (by rfl) (by decide) (by rfl) ?_))
  trivial
variable {w : World} {mean : ExcName → Option Value} {mg mb : Str → Option Value} {A A₀ : Around} {base G g : Heap} {outer l : List Env} {env : Env} {s : Shared} {Q E : Value → Shared → Prop} {L : Addr} {m : Str → Option Value} {led : List (Addr × Obj)} {o : Obj}
set_option maxHeartbeats 8000000 in
theorem kf_tuple_ok {a : Addr} {vs : List Value} {ks : List Int} {n : Nat} {T : List (Addr × Obj)} (C : At 60 w mean mg mb A base outer G s.heap) (hT : ∀ p ∈ T, s.heap.get? p.1 = some p.2 ∧ G.get? p.1 = none)
    (ha : (a, tupN (List.toArray vs) n) ∈ T) (hi : IntsAre vs ks) (hl : ks.length ≤ 8) (h : ∀ h' tk' c, Ext s.heap h' → Q (.str (kfText ks) c) { s with heap := h', toks := tk' }) :
    wpAny (model PySem.Challenge.pw_nm0133_01 w) A (call (.ref 438) [.ref a]) Q E s := by
  obtain ⟨hd0, dp, fr, gd, un⟩ := A
  obtain rfl : hd0 = none := C.hand
  obtain rfl : fr = some outer := C.B.stack
  refine wpAny_call ?_
  refine' enter T [(Str.ofString "kinds", .ref a)] C (by decide) hT ?k6 ?k7 ?k9 ?kB ?c2 ?c3 ?c4 ?c5 ?_
  walk_at "m_in"
  intro g L' h₁ hg hlt F' N' X' T' H hd hu hA
  have B' := H.B
  clear C
  replace N' := news_dup N' ha
  have hvl := hi.length
  have hCI : CI (fun i ys nw => (ys = [] ↔ (ks.take i).all isKind = true) ∧ (∃ js, IntsAre ys js) ∧ ys.length ≤ i ∧ nw = (a, tupN (List.toArray vs) n) :: T) := trivial
  walk_at "m_go"
  case ct0 => exact ⟨by simp, ⟨[], .nil⟩, by simp, rfl⟩
  case ctT =>
    unfold Later2
    clear hCI
    intro i us nw v IA oI C oC Da m₂ h₃ tk E' hin hI hv hC hx F' N' off ne
    obtain ⟨hus, ⟨js, hjs⟩, hul, rfl⟩ := hI
    obtain ⟨k, t, rfl, hk⟩ := ints_at hi hv
    have hoff := offH off
    (try k_unmd)
    k_fold
    k_steps
    all_goals first
      | exact comp_turn hoff (by exact rfl) (by assumption) (by assumption) (by walk_at "m_sub") (by k_mem) ⟨kf_keep hk hus (by assumption), ⟨_, hjs⟩, by omega, rfl⟩
      | exact comp_turn hoff (by exact rfl) (by assumption) (by assumption) (by walk_at "m_sub") (by k_mem) ⟨kf_drop hk (by assumption), ⟨_, IntsAre.append hjs (.cons k t .nil)⟩, by simp; omega, rfl⟩
  case ctF =>
    unfold Later2
    clear hCI
    intro us nw hI
    obtain ⟨hus, ⟨js, hjs⟩, hul, rfl⟩ := hI
    unfold LCg.FinE
    intro r h₃ tk₃ F' N' q2
    clear q2
    rw [List.take_of_length_le (by simp; omega)] at hus
    have hjl := hjs.length
    k_steps
    all_goals first
      | exact str_q (kf_yes hjl hus (of_decide_eq_true (by assumption))) (h _ _ _ (by walk_at "m_ext"))
      | exact str_q (kf_not hjl hus (of_decide_eq_false (by assumption))) (h _ _ _ (by walk_at "m_ext"))
end
theorem rows_C21_1 : True := by
  k_with_none
  k_with "call ref" => (k_here; (with_reducible show wpAny _ _ (call (Value.ref 105) [Value.bool _, Value.str _ _]) _ _ _); k_dflt (refine' want_use ?H ?F ?N ?lv ?_ ?_; (case H => assumption); (case F => k_asm); (case N => k_asm); (case lv => decide)))
  k_with "leaving ref" => (k_here; k_dflt (refine' leave_thr (by exact Hr.frames (by assumption)) rfl (.inr rfl) ?R ?hE ?hL ?hin ?_; (case R => assumption); (case hE => walk_at "m_ext"); (case hL => exact frame_none (by assumption) (by assumption)); (case hin => assumption)); intro h'ᵣ R'ᵣ)
  trivial
def endsT (l : Int) (mo : Option Int) (g : Int) (why : Str) : Str :=
  if l > g then why else match mo with
    | none => Str.ofString ""
    | some k => if k > g then why else if k < l then Str.ofString "size minimum must not be greater than maximum" else Str.ofString ""
def tabW (el : Int) : Str := Str.ofString "table size must be at most " ++ Str.ofString (toString el) ++ Str.ofString " elements"
def memW (pg : Int) : Str := Str.ofString "memory size must be at most " ++ Str.ofString (toString pg) ++ Str.ofString " pages"
def tableT (el : Int) (x : Int × Int × Option Int) : Str := if isRef x.1 then endsT x.2.1 x.2.2 el (tabW el) else Str.ofString "unknown reference kind"
def memT (pg : Int) (x : Int × Option Int) : Str := endsT x.1 x.2 pg (memW pg)
theorem any_ref {k : Int} : ([-16, -17].any fun x => x == k) = isRef k := by
  simp only [List.any_cons, List.any_nil, isRef]
  have q : ∀ a : Int, (a == k) = decide (k = a) := fun a => by
    by_cases e : a = k
    · simp [e]
    · have e' : ¬ k = a := fun z => e z.symm
      simp [e, e']
  simp only [q]
section
variable {w : World} {mean : ExcName → Option Value} {mg mb : Str → Option Value} {A A₀ : Around} {base G g : Heap} {outer l : List Env} {env : Env} {s : Shared} {Q E : Value → Shared → Prop} {L : Addr} {m : Str → Option Value} {led : List (Addr × Obj)} {o : Obj}
set_option maxHeartbeats 8000000 in
theorem ends_fault_ok {lo n : Int} {mv : Value} {mo : Option Int} {why : Str} {c1 c2 c3 : Tok} {T : List (Addr × Obj)} (C : At 60 w mean mg mb A base outer G s.heap) (hT : ∀ p ∈ T, s.heap.get? p.1 = some p.2 ∧ G.get? p.1 = none)
    (hm : MostIs mv mo) (h : ∀ h' tk' c, Ext s.heap h' → Q (.str (endsT lo mo n why) c) { s with heap := h', toks := tk' }) :
    wpAny (model PySem.Challenge.pw_nm0133_01 w) A (call (.ref 445) [.int lo c1, mv, .int n c2, .str why c3]) Q E s := by
  obtain ⟨hd0, dp, fr, gd, un⟩ := A
  obtain rfl : hd0 = none := C.hand
  obtain rfl : fr = some outer := C.B.stack
  refine wpAny_call ?_
  refine' enter T [(Str.ofString "least", .int lo c1), (Str.ofString "most", mv), (Str.ofString "greatest", .int n c2), (Str.ofString "why", .str why c3)] C (by decide) hT ?k6 ?k7 ?k9 ?kB ?c2 ?c3 ?c4 ?c5 ?_
  walk_at "m_in"
  intro g L' h₁ hg hlt F' N' X' T' H hd hu hA
  have B' := H.B
  clear C
  rcases hm with ⟨rfl, rfl⟩ | ⟨k, tk, rfl, rfl, hk⟩
  · walk_at "m_go"
    all_goals first
      | exact str_q (by simp only [endsT]; (repeat' split) <;> first | rfl | omega) (h _ _ _ (by walk_at "m_ext"))
  · walk_at "m_go"
    all_goals first
      | exact str_q (by simp only [endsT]; (repeat' split) <;> first | rfl | omega) (h _ _ _ (by walk_at "m_ext"))
theorem ef_use {lo n : Int} {mv : Value} {mo : Option Int} {why : Str} {c1 c2 c3 : Tok} {lv : Nat} (H : Hr lv w mean mg mb A₀ A base outer env g L) (F : Fr g L s.heap m) (N : News g L s.heap led) (hlv : 60 ≤ lv) (hm : MostIs mv mo)
    (h : ∀ h' tk' c, Fr g L h' m → News g L h' led → Q (.str (endsT lo mo n why) c) { s with heap := h', toks := tk' }) :
    wpAny (model PySem.Challenge.pw_nm0133_01 w) A (call (.ref 445) [.int lo c1, mv, .int n c2, .str why c3]) Q E s := ends_fault_ok (H.at F N hlv) (led_T N) hm fun h' tk' c x => h h' tk' c (fr_ext F x) (news_ext N x)
theorem rows_C21_2 : True := by
  k_with "call ref" => (k_here; (with_reducible show wpAny _ _ (call (Value.ref 445) [_, _, _, _]) _ _ _); k_dflt (refine' ef_use ?H ?F ?N ?lv ?hm ?_; (case H => assumption); (case F => k_asm); (case N => k_asm); (case lv => decide); (case hm => assumption)); intro h'ᵣ tk'ᵣ c'ᵣ F'ᵣ N'ᵣ; (try k_sweep))
  trivial
set_option maxHeartbeats 8000000 in
theorem table_fault_ok {a : Addr} {k lo el : Int} {tk t c1 : Tok} {mv : Value} {mo : Option Int} {T : List (Addr × Obj)} (C : At 80 w mean mg mb A base outer G s.heap) (hT : ∀ p ∈ T, s.heap.get? p.1 = some p.2 ∧ G.get? p.1 = none)
    (ha : (a, tupO #[.int k tk, .int lo t, mv]) ∈ T) (hm : MostIs mv mo) (he : 0 ≤ el ∧ el ≤ 100) (h : ∀ h' tk' c, Ext s.heap h' → Q (.str (tableT el (k, lo, mo)) c) { s with heap := h', toks := tk' }) :
    wpAny (model PySem.Challenge.pw_nm0133_01 w) A (call (.ref 452) [.ref a, .int el c1]) Q E s := by
  obtain ⟨hd0, dp, fr, gd, un⟩ := A
  obtain rfl : hd0 = none := C.hand
  obtain rfl : fr = some outer := C.B.stack
  refine wpAny_call ?_
  refine' enter T [(Str.ofString "about", .ref a), (Str.ofString "elements", .int el c1)] C (by decide) hT ?k6 ?k7 ?k9 ?kB ?c2 ?c3 ?c4 ?c5 ?_
  walk_at "m_in"
  intro g L' h₁ hg hlt F' N' X' T' H hd hu hA
  have B' := H.B
  clear C
  replace N' := news_dup N' ha
  walk_at "m_go"
  all_goals first
    | exact str_q (by rw [tableT, if_pos (by rw [← any_ref]; assumption)]; rfl) (h _ _ _ (by walk_at "m_ext"))
    | exact str_q (by rw [tableT, if_neg (by rw [← any_ref]; exact isK_no (by assumption))]) (h _ _ _ (by walk_at "m_ext"))
set_option maxHeartbeats 8000000 in
theorem memory_fault_ok {a : Addr} {lo pg : Int} {t c1 : Tok} {mv : Value} {mo : Option Int} {T : List (Addr × Obj)} (C : At 80 w mean mg mb A base outer G s.heap) (hT : ∀ p ∈ T, s.heap.get? p.1 = some p.2 ∧ G.get? p.1 = none)
    (ha : (a, tupO #[.int lo t, mv]) ∈ T) (hm : MostIs mv mo) (he : 0 ≤ pg ∧ pg ≤ 100) (h : ∀ h' tk' c, Ext s.heap h' → Q (.str (memT pg (lo, mo)) c) { s with heap := h', toks := tk' }) :
    wpAny (model PySem.Challenge.pw_nm0133_01 w) A (call (.ref 459) [.ref a, .int pg c1]) Q E s := by
  obtain ⟨hd0, dp, fr, gd, un⟩ := A
  obtain rfl : hd0 = none := C.hand
  obtain rfl : fr = some outer := C.B.stack
  refine wpAny_call ?_
  refine' enter T [(Str.ofString "about", .ref a), (Str.ofString "pages", .int pg c1)] C (by decide) hT ?k6 ?k7 ?k9 ?kB ?c2 ?c3 ?c4 ?c5 ?_
  walk_at "m_in"
  intro g L' h₁ hg hlt F' N' X' T' H hd hu hA
  have B' := H.B
  clear C
  replace N' := news_dup N' ha
  walk_at "m_go"
  all_goals first
    | exact str_q (by rfl) (h _ _ _ (by walk_at "m_ext"))
end
theorem rows_C22_1 : True := by
  k_with_none
  k_with "call ref" => (k_here; (with_reducible show wpAny _ _ (call (Value.ref 105) [Value.bool _, Value.str _ _]) _ _ _); k_dflt (refine' want_use ?H ?F ?N ?lv ?_ ?_; (case H => assumption); (case F => k_asm); (case N => k_asm); (case lv => decide)))
  k_with "leaving ref" => (k_here; k_dflt (refine' leave_thr (by exact Hr.frames (by assumption)) rfl (.inr rfl) ?R ?hE ?hL ?hin ?_; (case R => assumption); (case hE => walk_at "m_ext"); (case hL => exact frame_none (by assumption) (by assumption)); (case hin => assumption)); intro h'ᵣ R'ᵣ)
  k_with "call ref" => (k_here; (with_reducible show wpAny _ _ (call (Value.ref 445) [_, _, _, _]) _ _ _); k_dflt (refine' ef_use ?H ?F ?N ?lv ?hm ?_; (case H => assumption); (case F => k_asm); (case N => k_asm); (case lv => decide); (case hm => assumption)); intro h'ᵣ tk'ᵣ c'ᵣ F'ᵣ N'ᵣ; (try k_sweep))
  k_with "call builtin:len" => (k_here; (with_reducible show wpAny _ _ (call (Value.builtin _) [Value.ref _]) _ _ _); k_dflt (refine' my_len ?N ?m ?l ?_; (case N => k_asm); (case m => k_mem); (case l => ((have hLX := AllV.length (by assumption)); omega))))
  trivial
def cellT (x : Int × Int) : Str := if isKind x.1 then (if x.2 = 0 ∨ x.2 = 1 then Str.ofString "" else Str.ofString "malformed mutability") else Str.ofString "unknown value kind"
theorem zero_one {k : Int} (h : ([0, 1].any fun x => x == k) = true) : k = 0 ∨ k = 1 := by
  simp only [List.any_cons, List.any_nil, Bool.or_false, Bool.or_eq_true, beq_iff_eq] at h; omega
theorem not_zero_one {k : Int} (h : ([0, 1].any fun x => x == k) = false) : ¬ (k = 0 ∨ k = 1) := by
  simp only [List.any_cons, List.any_nil, Bool.or_false, Bool.or_eq_false_iff, beq_eq_false_iff_ne] at h; omega
theorem len_le2 {ks : List Int} (h : ks.length ≤ 2) : ks.length ≤ 8 := by omega
theorem len_app {ks js : List Int} (h : ks.length ≤ 2) (h2 : js.length ≤ 2) : (ks ++ js).length ≤ 8 := by rw [List.length_append]; omega
def importT (n pg el : Int) : Imp → Str
  | .fn i => if i < n then Str.ofString "" else Str.ofString "unknown type"
  | .tab k l mo => tableT el (k, l, mo)
  | .mem l mo => memT pg (l, mo)
  | .cell k mu => cellT (k, mu)
  | .odd _ => Str.ofString "malformed \u0069mport kind"
section
variable {w : World} {mean : ExcName → Option Value} {mg mb : Str → Option Value} {A A₀ : Around} {base G g : Heap} {outer l : List Env} {env : Env} {s : Shared} {Q E : Value → Shared → Prop} {L : Addr} {m : Str → Option Value} {led : List (Addr × Obj)} {o : Obj}
theorem kfl_use {a : Addr} {vs : List Value} {ks : List Int} {n : Nat} {lv : Nat} (H : Hr lv w mean mg mb A₀ A base outer env g L) (F : Fr g L s.heap m) (N : News g L s.heap led) (hlv : 60 ≤ lv) (ha : (a, listOf (List.toArray vs) n) ∈ led) (hi : IntsAre vs ks) (hl : ks.length ≤ 8)
    (h : ∀ h' tk' c, Fr g L h' m → News g L h' led → Q (.str (kfText ks) c) { s with heap := h', toks := tk' }) :
    wpAny (model PySem.Challenge.pw_nm0133_01 w) A (call (.ref 438) [.ref a]) Q E s := kf_list_ok (H.at F N hlv) (led_T N) ha hi hl fun h' tk' c x => h h' tk' c (fr_ext F x) (news_ext N x)
theorem kft_use {a : Addr} {vs : List Value} {ks : List Int} {n : Nat} {lv : Nat} (H : Hr lv w mean mg mb A₀ A base outer env g L) (F : Fr g L s.heap m) (N : News g L s.heap led) (hlv : 60 ≤ lv) (ha : (a, tupN (List.toArray vs) n) ∈ led) (hi : IntsAre vs ks) (hl : ks.length ≤ 8)
    (h : ∀ h' tk' c, Fr g L h' m → News g L h' led → Q (.str (kfText ks) c) { s with heap := h', toks := tk' }) :
    wpAny (model PySem.Challenge.pw_nm0133_01 w) A (call (.ref 438) [.ref a]) Q E s := kf_tuple_ok (H.at F N hlv) (led_T N) ha hi hl fun h' tk' c x => h h' tk' c (fr_ext F x) (news_ext N x)
theorem kfl1_use {a : Addr} {k : Int} {t : Tok} {n lv : Nat} (H : Hr lv w mean mg mb A₀ A base outer env g L) (F : Fr g L s.heap m) (N : News g L s.heap led) (hlv : 60 ≤ lv) (ha : (a, listOf #[.int k t] n) ∈ led)
    (h1 : isKind k = true → ∀ h' tk' c, Fr g L h' m → News g L h' led → Q (.str (Str.ofString "") c) { s with heap := h', toks := tk' })
    (h2 : isKind k = false → ∀ h' tk' c, Fr g L h' m → News g L h' led → Q (.str (Str.ofString "unknown value kind") c) { s with heap := h', toks := tk' }) :
    wpAny (model PySem.Challenge.pw_nm0133_01 w) A (call (.ref 438) [.ref a]) Q E s := by
  refine kfl_use (vs := [.int k t]) (ks := [k]) H F N hlv ha (.cons _ _ .nil) (by simp) fun h' tk' c F' N' => ?_
  cases hk : isKind k with
  | true => rw [show kfText [k] = Str.ofString "" from by simp only [kfText, List.all_cons, List.all_nil, hk]; rfl]; exact h1 hk h' tk' c F' N'
  | false => rw [show kfText [k] = Str.ofString "unknown value kind" from by simp only [kfText, List.all_cons, List.all_nil, hk]; rfl]; exact h2 hk h' tk' c F' N'
theorem rows_C22_2 : True := by
  k_with "call ref" => (k_here; (with_reducible show wpAny _ _ (call (Value.ref 438) [Value.ref _]) _ _ _); k_dflt (refine' kft_use ?H ?F ?N ?lv ?ha ?hi ?hl ?_; (case H => assumption); (case F => k_asm); (case N => k_asm); (case lv => decide); (case ha => k_mem); (case hi => first | assumption | exact IntsAre.append (by assumption) (by assumption)); (case hl => first | exact len_le2 (by assumption) | exact len_app (by assumption) (by assumption))); intro h'ᵣ tk'ᵣ c'ᵣ F'ᵣ N'ᵣ; (try k_sweep))
  k_with "call ref" => (k_here; (with_reducible show wpAny _ _ (call (Value.ref 438) [Value.ref _]) _ _ _); k_dflt (refine' kfl1_use ?H ?F ?N ?lv ?ha ?_ ?_; (case H => assumption); (case F => k_asm); (case N => k_asm); (case lv => decide); (case ha => k_mem)); all_goals (intro hkf h'ᵣ tk'ᵣ c'ᵣ F'ᵣ N'ᵣ; (try k_sweep)))
  trivial
set_option maxHeartbeats 8000000 in
theorem cell_fault_ok {a : Addr} {k mu : Int} {tk t : Tok} {T : List (Addr × Obj)} (C : At 80 w mean mg mb A base outer G s.heap) (hT : ∀ p ∈ T, s.heap.get? p.1 = some p.2 ∧ G.get? p.1 = none)
    (ha : (a, tupO #[.int k tk, .int mu t]) ∈ T) (h : ∀ h' tk' c, Ext s.heap h' → Q (.str (cellT (k, mu)) c) { s with heap := h', toks := tk' }) :
    wpAny (model PySem.Challenge.pw_nm0133_01 w) A (call (.ref 466) [.ref a]) Q E s := by
  obtain ⟨hd0, dp, fr, gd, un⟩ := A
  obtain rfl : hd0 = none := C.hand
  obtain rfl : fr = some outer := C.B.stack
  refine wpAny_call ?_
  refine' enter T [(Str.ofString "about", .ref a)] C (by decide) hT ?k6 ?k7 ?k9 ?kB ?c2 ?c3 ?c4 ?c5 ?_
  walk_at "m_in"
  intro g L' h₁ hg hlt F' N' X' T' H hd hu hA
  have B' := H.B
  clear C
  replace N' := news_dup N' ha
  walk_at "m_go"
  all_goals first
    | exact str_q (by rw [cellT, if_pos (by assumption), if_pos (zero_one (by assumption))]) (h _ _ _ (by walk_at "m_ext"))
    | exact str_q (by rw [cellT, if_pos (by assumption), if_neg (not_zero_one (by assumption))]) (h _ _ _ (by walk_at "m_ext"))
    | exact str_q (by rw [cellT, if_neg (isK_no (by assumption))]) (h _ _ _ (by walk_at "m_ext"))
end
theorem rows_C23_1 : True := by
  k_with_none
  k_with "call ref" => (k_here; (with_reducible show wpAny _ _ (call (Value.ref 105) [Value.bool _, Value.str _ _]) _ _ _); k_dflt (refine' want_use ?H ?F ?N ?lv ?_ ?_; (case H => assumption); (case F => k_asm); (case N => k_asm); (case lv => decide)))
  k_with "leaving ref" => (k_here; k_dflt (refine' leave_thr (by exact Hr.frames (by assumption)) rfl (.inr rfl) ?R ?hE ?hL ?hin ?_; (case R => assumption); (case hE => walk_at "m_ext"); (case hL => exact frame_none (by assumption) (by assumption)); (case hin => assumption)); intro h'ᵣ R'ᵣ)
  k_with "call ref" => (k_here; (with_reducible show wpAny _ _ (call (Value.ref 445) [_, _, _, _]) _ _ _); k_dflt (refine' ef_use ?H ?F ?N ?lv ?hm ?_; (case H => assumption); (case F => k_asm); (case N => k_asm); (case lv => decide); (case hm => assumption)); intro h'ᵣ tk'ᵣ c'ᵣ F'ᵣ N'ᵣ; (try k_sweep))
  k_with "call builtin:len" => (k_here; (with_reducible show wpAny _ _ (call (Value.builtin _) [Value.ref _]) _ _ _); k_dflt (refine' my_len ?N ?m ?l ?_; (case N => k_asm); (case m => k_mem); (case l => ((have hLX := AllV.length (by assumption)); omega))))
  k_with "call ref" => (k_here; (with_reducible show wpAny _ _ (call (Value.ref 438) [Value.ref _]) _ _ _); k_dflt (refine' kft_use ?H ?F ?N ?lv ?ha ?hi ?hl ?_; (case H => assumption); (case F => k_asm); (case N => k_asm); (case lv => decide); (case ha => k_mem); (case hi => first | assumption | exact IntsAre.append (by assumption) (by assumption)); (case hl => first | exact len_le2 (by assumption) | exact len_app (by assumption) (by assumption))); intro h'ᵣ tk'ᵣ c'ᵣ F'ᵣ N'ᵣ; (try k_sweep))
  k_with "call ref" => (k_here; (with_reducible show wpAny _ _ (call (Value.ref 438) [Value.ref _]) _ _ _); k_dflt (refine' kfl1_use ?H ?F ?N ?lv ?ha ?_ ?_; (case H => assumption); (case F => k_asm); (case N => k_asm); (case lv => decide); (case ha => k_mem)); all_goals (intro hkf h'ᵣ tk'ᵣ c'ᵣ F'ᵣ N'ᵣ; (try k_sweep)))
  trivial
section
variable {w : World} {mean : ExcName → Option Value} {mg mb : Str → Option Value} {A A₀ : Around} {base G g : Heap} {outer l : List Env} {env : Env} {s : Shared} {Q E : Value → Shared → Prop} {L : Addr} {m : Str → Option Value} {led : List (Addr × Obj)} {o : Obj}
theorem tf_use {a : Addr} {k lo el : Int} {tk t c1 : Tok} {mv : Value} {mo : Option Int} {lv : Nat} (H : Hr lv w mean mg mb A₀ A base outer env g L) (F : Fr g L s.heap m) (N : News g L s.heap led) (hlv : 80 ≤ lv) (ha : (a, tupO #[.int k tk, .int lo t, mv]) ∈ led) (hm : MostIs mv mo) (he : 0 ≤ el ∧ el ≤ 100)
    (h : ∀ h' tk' c, Fr g L h' m → News g L h' led → Q (.str (tableT el (k, lo, mo)) c) { s with heap := h', toks := tk' }) :
    wpAny (model PySem.Challenge.pw_nm0133_01 w) A (call (.ref 452) [.ref a, .int el c1]) Q E s := table_fault_ok (H.at F N hlv) (led_T N) ha hm he fun h' tk' c x => h h' tk' c (fr_ext F x) (news_ext N x)
theorem mf_use {a : Addr} {lo pg : Int} {t c1 : Tok} {mv : Value} {mo : Option Int} {lv : Nat} (H : Hr lv w mean mg mb A₀ A base outer env g L) (F : Fr g L s.heap m) (N : News g L s.heap led) (hlv : 80 ≤ lv) (ha : (a, tupO #[.int lo t, mv]) ∈ led) (hm : MostIs mv mo) (he : 0 ≤ pg ∧ pg ≤ 100)
    (h : ∀ h' tk' c, Fr g L h' m → News g L h' led → Q (.str (memT pg (lo, mo)) c) { s with heap := h', toks := tk' }) :
    wpAny (model PySem.Challenge.pw_nm0133_01 w) A (call (.ref 459) [.ref a, .int pg c1]) Q E s := memory_fault_ok (H.at F N hlv) (led_T N) ha hm he fun h' tk' c x => h h' tk' c (fr_ext F x) (news_ext N x)
theorem cf_use {a : Addr} {k mu : Int} {tk t : Tok} {lv : Nat} (H : Hr lv w mean mg mb A₀ A base outer env g L) (F : Fr g L s.heap m) (N : News g L s.heap led) (hlv : 80 ≤ lv) (ha : (a, tupO #[.int k tk, .int mu t]) ∈ led)
    (h : ∀ h' tk' c, Fr g L h' m → News g L h' led → Q (.str (cellT (k, mu)) c) { s with heap := h', toks := tk' }) :
    wpAny (model PySem.Challenge.pw_nm0133_01 w) A (call (.ref 466) [.ref a]) Q E s := cell_fault_ok (H.at F N hlv) (led_T N) ha fun h' tk' c x => h h' tk' c (fr_ext F x) (news_ext N x)
theorem rows_C23_2 : True := by
  k_with "call ref" => (k_here; (with_reducible show wpAny _ _ (call (Value.ref 452) [Value.ref _, Value.int _ _]) _ _ _); k_dflt (refine' tf_use ?H ?F ?N ?lv ?ha ?hm ?he ?_; (case H => assumption); (case F => k_asm); (case N => k_asm); (case lv => decide); (case ha => k_mem); (case hm => assumption); (case he => assumption)); intro h'ᵣ tk'ᵣ c'ᵣ F'ᵣ N'ᵣ; (try k_sweep))
  k_with "call ref" => (k_here; (with_reducible show wpAny _ _ (call (Value.ref 459) [Value.ref _, Value.int _ _]) _ _ _); k_dflt (refine' mf_use ?H ?F ?N ?lv ?ha ?hm ?he ?_; (case H => assumption); (case F => k_asm); (case N => k_asm); (case lv => decide); (case ha => k_mem); (case hm => assumption); (case he => assumption)); intro h'ᵣ tk'ᵣ c'ᵣ F'ᵣ N'ᵣ; (try k_sweep))
  k_with "call ref" => (k_here; (with_reducible show wpAny _ _ (call (Value.ref 466) [Value.ref _]) _ _ _); k_dflt (refine' cf_use ?H ?F ?N ?lv ?ha ?_; (case H => assumption); (case F => k_asm); (case N => k_asm); (case lv => decide); (case ha => k_mem)); intro h'ᵣ tk'ᵣ c'ᵣ F'ᵣ N'ᵣ; (try k_sweep))
  trivial
set_option maxHeartbeats 8000000 in
theorem import_fault_ok {x y : Addr} {M : Mod} {i : Imp} {pg el : Int} {c1 c2 : Tok} {T : List (Addr × Obj)} (C : At 100 w mean mg mb A base outer G s.heap) (hT : ∀ p ∈ T, s.heap.get? p.1 = some p.2 ∧ G.get? p.1 = none)
    (hM : ModV (Mem T) x M) (hK : M.kinds.length ≤ 3) (hI : ImpV (Mem T) (.ref y) i) (hp : 0 ≤ pg ∧ pg ≤ 100) (he : 0 ≤ el ∧ el ≤ 100) (h : ∀ h' tk' c, Ext s.heap h' → Q (.str (importT M.kinds.length pg el i) c) { s with heap := h', toks := tk' }) :
    wpAny (model PySem.Challenge.pw_nm0133_01 w) A (call (.ref 473) [.ref x, .ref y, .int pg c1, .int el c2]) Q E s := by
  obtain ⟨hd0, dp, fr, gd, un⟩ := A
  obtain rfl : hd0 = none := C.hand
  obtain rfl : fr = some outer := C.B.stack
  refine wpAny_call ?_
  refine' enter T [(Str.ofString "module", .ref x), (Str.ofString "one", .ref y), (Str.ofString "pages", .int pg c1), (Str.ofString "elements", .int el c2)] C (by decide) hT ?k6 ?k7 ?k9 ?kB ?c2 ?c3 ?c4 ?c5 ?_
  walk_at "m_in"
  intro g L' h₁ hg hlt F' N' X' T' H hd hu hA
  have B' := H.B
  clear C
  obtain ⟨dx, h1, h2, h3, h4, h5, h6, h7, h8, h9, h10, h11, b1, b2, b3, b4, b5, b6, b7, b8, b9, b10, b11, K1, K2, a3, K4, K5, a6, a7, a8, a9, a10, ys, zs, vs, ts, ms, gs, n1, n2, n3, n4, n5, n6, q⟩ := hM
  have N2 := news_dup N' q.k1
  replace N' := news_dup (news_dup N2 (.tail _ q.di)) (.tail _ (.tail _ q.ob))
  clear N2
  have hv1 := q.v1
  have hlen := hv1.length
  obtain ⟨y', dy, ny, av, j1, j2, j3, j4, d1, d2, d3, d4, e1, e2, e3, so, ey, hso, py, pdy, hab⟩ := hI
  cases ey
  replace N' := news_from (more := [(y, instObj 199 dy), (dy, dictOf [En j1 "place" d1 (.str (Str.ofString "h") e1), En j2 "name" d2 (.str i.nm e2), En j3 "sort" d3 (.int so e3), En j4 "about" d4 av] ny)]) N' (T := T) (by walk_at "m_sub") (by intro r hr; simp only [List.mem_cons, List.not_mem_nil, or_false] at hr; rcases hr with rfl | rfl <;> assumption)
  simp only [List.cons_append, List.nil_append] at N'
  cases i with
  | fn i =>
    obtain ⟨hi0, t, rfl⟩ := hab
    replace hso : so = 0 := hso
    subst hso
    walk_at "m_go"
    all_goals first
      | exact str_q (by simp only [importT]; (repeat' split) <;> first | rfl | omega) (h _ _ _ (by walk_at "m_ext"))
  | tab k l mo =>
    obtain ⟨a, tk, t, mv, rfl, pa, hm, h0⟩ := hab
    replace hso : so = 1 := hso
    subst hso
    dsimp only at pa hm h0
    replace N' := news_from (more := [(a, tupO #[.int k tk, .int l t, mv])]) N' (T := T) (by walk_at "m_sub") (by intro r hr; rcases List.mem_singleton.mp hr with rfl; exact pa)
    simp only [List.cons_append, List.nil_append] at N'
    walk_at "m_go"
    all_goals first
      | exact h _ _ _ (by walk_at "m_ext")
  | mem l mo =>
    obtain ⟨a, t, mv, rfl, pa, hm, h0⟩ := hab
    replace hso : so = 2 := hso
    subst hso
    dsimp only at pa hm h0
    replace N' := news_from (more := [(a, tupO #[.int l t, mv])]) N' (T := T) (by walk_at "m_sub") (by intro r hr; rcases List.mem_singleton.mp hr with rfl; exact pa)
    simp only [List.cons_append, List.nil_append] at N'
    walk_at "m_go"
    all_goals first
      | exact h _ _ _ (by walk_at "m_ext")
  | cell k mu =>
    obtain ⟨a, tk, t, rfl, pa⟩ := hab
    replace hso : so = 3 := hso
    subst hso
    dsimp only at pa
    replace N' := news_from (more := [(a, tupO #[.int k tk, .int mu t])]) N' (T := T) (by walk_at "m_sub") (by intro r hr; rcases List.mem_singleton.mp hr with rfl; exact pa)
    simp only [List.cons_append, List.nil_append] at N'
    walk_at "m_go"
    all_goals first
      | exact h _ _ _ (by walk_at "m_ext")
  | odd i =>
    obtain ⟨t, rfl⟩ := hab
    replace hso : so = 4 := hso
    subst hso
    walk_at "m_go"
    all_goals first
      | exact h _ _ _ (by walk_at "m_ext")
end
theorem rows_C24_1 : True := by
  k_with_none
  k_with "call ref" => (k_here; (with_reducible show wpAny _ _ (call (Value.ref 105) [Value.bool _, Value.str _ _]) _ _ _); k_dflt (refine' want_use ?H ?F ?N ?lv ?_ ?_; (case H => assumption); (case F => k_asm); (case N => k_asm); (case lv => decide)))
  k_with "leaving ref" => (k_here; k_dflt (refine' leave_thr (by exact Hr.frames (by assumption)) rfl (.inr rfl) ?R ?hE ?hL ?hin ?_; (case R => assumption); (case hE => walk_at "m_ext"); (case hL => exact frame_none (by assumption) (by assumption)); (case hin => assumption)); intro h'ᵣ R'ᵣ)
  k_with "call ref" => (k_here; (with_reducible show wpAny _ _ (call (Value.ref 445) [_, _, _, _]) _ _ _); k_dflt (refine' ef_use ?H ?F ?N ?lv ?hm ?_; (case H => assumption); (case F => k_asm); (case N => k_asm); (case lv => decide); (case hm => assumption)); intro h'ᵣ tk'ᵣ c'ᵣ F'ᵣ N'ᵣ; (try k_sweep))
  k_with "call builtin:len" => (k_here; (with_reducible show wpAny _ _ (call (Value.builtin _) [Value.ref _]) _ _ _); k_dflt (refine' my_len ?N ?m ?l ?_; (case N => k_asm); (case m => k_mem); (case l => ((have hLX := AllV.length (by assumption)); omega))))
  k_with "call ref" => (k_here; (with_reducible show wpAny _ _ (call (Value.ref 438) [Value.ref _]) _ _ _); k_dflt (refine' kft_use ?H ?F ?N ?lv ?ha ?hi ?hl ?_; (case H => assumption); (case F => k_asm); (case N => k_asm); (case lv => decide); (case ha => k_mem); (case hi => first | assumption | exact IntsAre.append (by assumption) (by assumption)); (case hl => first | exact len_le2 (by assumption) | exact len_app (by assumption) (by assumption))); intro h'ᵣ tk'ᵣ c'ᵣ F'ᵣ N'ᵣ; (try k_sweep))
  k_with "call ref" => (k_here; (with_reducible show wpAny _ _ (call (Value.ref 438) [Value.ref _]) _ _ _); k_dflt (refine' kfl1_use ?H ?F ?N ?lv ?ha ?_ ?_; (case H => assumption); (case F => k_asm); (case N => k_asm); (case lv => decide); (case ha => k_mem)); all_goals (intro hkf h'ᵣ tk'ᵣ c'ᵣ F'ᵣ N'ᵣ; (try k_sweep)))
  k_with "call ref" => (k_here; (with_reducible show wpAny _ _ (call (Value.ref 452) [Value.ref _, Value.int _ _]) _ _ _); k_dflt (refine' tf_use ?H ?F ?N ?lv ?ha ?hm ?he ?_; (case H => assumption); (case F => k_asm); (case N => k_asm); (case lv => decide); (case ha => k_mem); (case hm => assumption); (case he => assumption)); intro h'ᵣ tk'ᵣ c'ᵣ F'ᵣ N'ᵣ; (try k_sweep))
  k_with "call ref" => (k_here; (with_reducible show wpAny _ _ (call (Value.ref 459) [Value.ref _, Value.int _ _]) _ _ _); k_dflt (refine' mf_use ?H ?F ?N ?lv ?ha ?hm ?he ?_; (case H => assumption); (case F => k_asm); (case N => k_asm); (case lv => decide); (case ha => k_mem); (case hm => assumption); (case he => assumption)); intro h'ᵣ tk'ᵣ c'ᵣ F'ᵣ N'ᵣ; (try k_sweep))
  k_with "call ref" => (k_here; (with_reducible show wpAny _ _ (call (Value.ref 466) [Value.ref _]) _ _ _); k_dflt (refine' cf_use ?H ?F ?N ?lv ?ha ?_; (case H => assumption); (case F => k_asm); (case N => k_asm); (case lv => decide); (case ha => k_mem)); intro h'ᵣ tk'ᵣ c'ᵣ F'ᵣ N'ᵣ; (try k_sweep))
  trivial
/-- the text of an element, for a comprehension that builds texts -/
inductive FJ {α : Type} (R : Value → α → Prop) (f : α → Str) : Prop
  | mk : FJ R f
theorem strs_snoc {ys : List Value} {ts : List Str} {x : Str} {t : Tok} (h : StrsAre ys ts) : StrsAre (ys ++ [.str x t]) (ts ++ [x]) := by
  induction h with
  | nil => exact .cons x t .nil
  | cons y u _ ih => exact .cons y u ih
section
variable {prog : Program} {w : World} {A : Around} {h₀ : Heap} {L : Addr} {m : Str → Option Value} {env : Env} {elt : Expr} {x x₂ : Str} {scope : Scope} {cl : List (Str × Addr)} {s : Shared} {S : List (Addr × Obj) → Prop} {Fin : List Value → List (Addr × Obj) → Prop} {news : List (Addr × Obj)} {α : Type} {R : Value → α → Prop} {f : α → Str} {vs : List Value} {xs : List α}
theorem comp_strs (_hF : FJ R f) (hv : AllV R vs xs)
    (turn : Later2 (∀ (i : Nat) ys v e IA oI C oC D m₂ h tk (E' : Value → Shared → Prop), xs[i]? = some e → R v e → LCg.NsObj oC m₂ → m₂ x = some v → Fr h₀ L h m → News h₀ L h ((IA, oI) :: (C, oC) :: (D, LCg.lst ys) :: news) → OffH IA C D news → ((@Ne Nat IA C) ∧ (@Ne Nat IA D) ∧ (@Ne Nat C D)) →
      wpAny (model prog w) A (eval elt (compEnvC scope cl C env)) (LCg.CompEnd h₀ L m { s with heap := h, toks := tk } IA oI C oC D (LCg.lst ys) S (fun y nw' => (∃ t, y = .str (f e) t) ∧ nw' = news)) E' { s with heap := h, toks := tk }))
    (fin : Later2 (∀ ys, StrsAre ys (xs.map f) → Fin ys news)) : LCg.CompRest prog w A h₀ L m env elt x scope cl s S (fun i v => vs.toArray[i]? = some v) Fin vs.toArray.size 0 [] news := by
  have hl : vs.toArray.size = xs.length := by rw [List.size_toArray, hv.length]
  rw [hl]
  have key : ∀ (j i : Nat) (ys : List Value), i + j = xs.length → StrsAre ys ((xs.take i).map f) → LCg.CompRest prog w A h₀ L m env elt x scope cl s S (fun i v => vs.toArray[i]? = some v) Fin j i ys news := by
    intro j
    induction j with
    | zero =>
      intro i ys hi hI
      refine LCg.CompRest.zero (fin ys ?_)
      rwa [List.take_of_length_le (by omega)] at hI
    | succ j ih =>
      intro i ys hi hI
      refine LCg.CompRest.succ ?_
      intro v IA oI C oC D m₂ h tk E' hvi hC hx F N off ne
      obtain ⟨e, he, hr⟩ := allV_at hv hvi
      refine wpAny_mono (turn i ys v e IA oI C oC D m₂ h tk E' he hr hC hx F N off ne) (fun y s₂ hq => ?_) fun _ _ e => e
      obtain ⟨h', tk', nw', e', F', N', off', hS, ⟨t, rfl⟩, rfl⟩ := hq
      exact ⟨h', tk', _, e', F', N', off', hS, ih (i + 1) _ (by omega) (by rw [List.take_add_one, he, List.map_append]; exact strs_snoc hI)⟩
  exact key xs.length 0 [] (by omega) (by simpa using StrsAre.nil)
theorem comp_strsP {R₂ : Value → Value → α → Prop} (_hF : FJ R f) (hv : AllV R vs xs)
    (pair : Later2 (∀ v e, R v e → ∃ (t : Addr) (ot : Obj) (v₁ v₂ : Value) (nt : Nat), v = .ref t ∧ (t, ot) ∈ news ∧ ot.cls = .type "tuple" ∧ ot.data = .seq #[v₁, v₂] nt ∧ R₂ v₁ v₂ e))
    (turn : Later2 (∀ (i : Nat) ys v₁ v₂ e IA oI C oC D m₂ h tk (E' : Value → Shared → Prop), xs[i]? = some e → R₂ v₁ v₂ e → LCg.NsObj oC m₂ → m₂ x = some v₁ → m₂ x₂ = some v₂ → Fr h₀ L h m → News h₀ L h ((IA, oI) :: (C, oC) :: (D, LCg.lst ys) :: news) → OffH IA C D news → ((@Ne Nat IA C) ∧ (@Ne Nat IA D) ∧ (@Ne Nat C D)) →
      wpAny (model prog w) A (eval elt (compEnvC scope cl C env)) (LCg.CompEnd h₀ L m { s with heap := h, toks := tk } IA oI C oC D (LCg.lst ys) S (fun y nw' => (∃ t, y = .str (f e) t) ∧ nw' = news)) E' { s with heap := h, toks := tk }))
    (fin : Later2 (∀ ys, StrsAre ys (xs.map f) → Fin ys news)) : LCp.CompRestP prog w A h₀ L m env elt x x₂ scope cl s S (fun i v => vs.toArray[i]? = some v) Fin vs.toArray.size 0 [] news := by
  have hl : vs.toArray.size = xs.length := by rw [List.size_toArray, hv.length]
  rw [hl]
  have key : ∀ (j i : Nat) (ys : List Value), i + j = xs.length → StrsAre ys ((xs.take i).map f) → LCp.CompRestP prog w A h₀ L m env elt x x₂ scope cl s S (fun i v => vs.toArray[i]? = some v) Fin j i ys news := by
    intro j
    induction j with
    | zero =>
      intro i ys hi hI
      refine LCp.CompRestP.zero (fin ys ?_)
      rwa [List.take_of_length_le (by omega)] at hI
    | succ j ih =>
      intro i ys hi hI
      refine LCp.CompRestP.succ ?_
      intro v hvi
      obtain ⟨e, he, hr⟩ := allV_at hv hvi
      obtain ⟨t, ot, v₁, v₂, nt, rfl, hm, hc, hd, h2⟩ := pair v e hr
      refine ⟨t, ot, v₁, v₂, nt, rfl, hm, hc, hd, ?_⟩
      intro IA oI C oC D m₂ h tk E' hC hx hx2 F N off ne
      refine wpAny_mono (turn i ys v₁ v₂ e IA oI C oC D m₂ h tk E' he h2 hC hx hx2 F N off ne) (fun y s₂ hq => ?_) fun _ _ e => e
      obtain ⟨h', tk', nw', e', F', N', off', hS, ⟨t, rfl⟩, rfl⟩ := hq
      exact ⟨h', tk', _, e', F', N', off', hS, ih (i + 1) _ (by omega) (by rw [List.take_add_one, he, List.map_append]; exact strs_snoc hI)⟩
  exact key xs.length 0 [] (by omega) (by simpa using StrsAre.nil)
end
theorem rows_C24X_1 : True := by
  k_with_none
  k_with "call ref" => (k_here; (with_reducible show wpAny _ _ (call (Value.ref 105) [Value.bool _, Value.str _ _]) _ _ _); k_dflt (refine' want_use ?H ?F ?N ?lv ?_ ?_; (case H => assumption); (case F => k_asm); (case N => k_asm); (case lv => decide)))
  k_with "leaving ref" => (k_here; k_dflt (refine' leave_thr (by exact Hr.frames (by assumption)) rfl (.inr rfl) ?R ?hE ?hL ?hin ?_; (case R => assumption); (case hE => walk_at "m_ext"); (case hL => exact frame_none (by assumption) (by assumption)); (case hin => assumption)); intro h'ᵣ R'ᵣ)
  k_with "call ref" => (k_here; (with_reducible show wpAny _ _ (call (Value.ref 445) [_, _, _, _]) _ _ _); k_dflt (refine' ef_use ?H ?F ?N ?lv ?hm ?_; (case H => assumption); (case F => k_asm); (case N => k_asm); (case lv => decide); (case hm => assumption)); intro h'ᵣ tk'ᵣ c'ᵣ F'ᵣ N'ᵣ; (try k_sweep))
  k_with "call builtin:len" => (k_here; (with_reducible show wpAny _ _ (call (Value.builtin _) [Value.ref _]) _ _ _); k_dflt (refine' my_len ?N ?m ?l ?_; (case N => k_asm); (case m => k_mem); (case l => ((have hLX := AllV.length (by assumption)); omega))))
  k_with "call ref" => (k_here; (with_reducible show wpAny _ _ (call (Value.ref 438) [Value.ref _]) _ _ _); k_dflt (refine' kft_use ?H ?F ?N ?lv ?ha ?hi ?hl ?_; (case H => assumption); (case F => k_asm); (case N => k_asm); (case lv => decide); (case ha => k_mem); (case hi => first | assumption | exact IntsAre.append (by assumption) (by assumption)); (case hl => first | exact len_le2 (by assumption) | exact len_app (by assumption) (by assumption))); intro h'ᵣ tk'ᵣ c'ᵣ F'ᵣ N'ᵣ; (try k_sweep))
  k_with "call ref" => (k_here; (with_reducible show wpAny _ _ (call (Value.ref 438) [Value.ref _]) _ _ _); k_dflt (refine' kfl1_use ?H ?F ?N ?lv ?ha ?_ ?_; (case H => assumption); (case F => k_asm); (case N => k_asm); (case lv => decide); (case ha => k_mem)); all_goals (intro hkf h'ᵣ tk'ᵣ c'ᵣ F'ᵣ N'ᵣ; (try k_sweep)))
  k_with "call ref" => (k_here; (with_reducible show wpAny _ _ (call (Value.ref 452) [Value.ref _, Value.int _ _]) _ _ _); k_dflt (refine' tf_use ?H ?F ?N ?lv ?ha ?hm ?he ?_; (case H => assumption); (case F => k_asm); (case N => k_asm); (case lv => decide); (case ha => k_mem); (case hm => assumption); (case he => assumption)); intro h'ᵣ tk'ᵣ c'ᵣ F'ᵣ N'ᵣ; (try k_sweep))
  k_with "call ref" => (k_here; (with_reducible show wpAny _ _ (call (Value.ref 459) [Value.ref _, Value.int _ _]) _ _ _); k_dflt (refine' mf_use ?H ?F ?N ?lv ?ha ?hm ?he ?_; (case H => assumption); (case F => k_asm); (case N => k_asm); (case lv => decide); (case ha => k_mem); (case hm => assumption); (case he => assumption)); intro h'ᵣ tk'ᵣ c'ᵣ F'ᵣ N'ᵣ; (try k_sweep))
  k_with "call ref" => (k_here; (with_reducible show wpAny _ _ (call (Value.ref 466) [Value.ref _]) _ _ _); k_dflt (refine' cf_use ?H ?F ?N ?lv ?ha ?_; (case H => assumption); (case F => k_asm); (case N => k_asm); (case lv => decide); (case ha => k_mem)); intro h'ᵣ tk'ᵣ c'ᵣ F'ᵣ N'ᵣ; (try k_sweep))
  trivial
/-- the cells that a comprehension takes along -/
def closL (cells : List (Str × Addr)) : List (Str × NameKind) → List (Str × Addr) → Option (List (Str × Addr))
  | [], acc => some acc
  | (n, k) :: r, acc => if k == .free then (match cells.lookup n with | some c => closL cells r ((n, c) :: acc) | none => none) else closL cells r acc
theorem clos_eq {scope : Scope} {env : Env} {cl : List (Str × Addr)} (h : closL env.cells scope.names [] = some cl) : closureFor scope env = pure cl := by
  unfold closureFor
  generalize scope.names = names at h ⊢
  generalize ([] : List (Str × Addr)) = acc at h ⊢
  induction names generalizing acc with
  | nil => cases h; rfl
  | cons p r ih =>
    obtain ⟨n, k⟩ := p
    rw [closL] at h
    dsimp only at ih ⊢
    rw [List.forIn_cons]
    cases hk : (k == NameKind.free) with
    | false =>
      rw [hk] at h
      simp only [Bool.false_eq_true, if_false] at h ⊢
      exact ih _ h
    | true =>
      rw [hk] at h
      simp only [if_true] at h
      cases hc : env.cells.lookup n with
      | none => rw [hc] at h; cases h
      | some c =>
        rw [hc] at h
        have := ih _ h
        simp only [if_true, cellOf, hc]
        exact this
/-- a list that grows, off the rest of the ledger -/
def OffD (D : Addr) (l : List (Addr × Obj)) : Prop := ∀ p ∈ l, @Ne Nat p.1 D
theorem offD_of {D : Addr} {l : List (Addr × Obj)} (h : LCg.Off1 D l) : OffD D l := off1_mem h
theorem updD {D : Addr} {o o' : Obj} {rest : List (Addr × Obj)} (h : OffD D rest) : Upd D o o' ((D, o) :: rest) ((D, o') :: rest) := .head h
theorem strs_app {ys zs : List Value} {ts us : List Str} (h : StrsAre ys ts) (h' : StrsAre zs us) : StrsAre (ys ++ zs) (ts ++ us) := by
  induction h with
  | nil => exact h'
  | cons y u _ ih => exact .cons y u ih
theorem strs_len {ys : List Value} {ts : List Str} (h : StrsAre ys ts) : ys.length = ts.length := by
  induction h with
  | nil => rfl
  | cons y u _ ih => simp [ih]
section
variable {prog : Program} {w : World} {A : Around} {E : Value → Shared → Prop} {s : Shared} {h₀ : Heap} {L D b : Addr} {m : Str → Option Value} {led rest : List (Addr × Obj)} {us ts : List Value} {n k : Nat}
theorem news_cut {g h : Heap} {o : Obj} (N : News g L h led) (hm : (D, o) ∈ led) (hs : ∀ p ∈ rest, p ∈ led) : News g L h ((D, o) :: rest) := fun p hp => (List.mem_cons.mp hp).elim (fun e => e ▸ N _ hm) fun hp => N _ (hs p hp)
theorem tup_add {c : Addr} {Q : Value → Shared → Prop} (F : Fr h₀ L s.heap m) (N : News h₀ L s.heap led) (hb : (b, tupO us.toArray) ∈ led) (hc : (c, tupO ts.toArray) ∈ led) (hz : us.length ≤ 1000) (hz2 : ts.length ≤ 1000)
    (h : ∀ t h', Fr h₀ L h' m → News h₀ L h' ((t, tupO (us ++ ts).toArray) :: led) → Q (.ref t) { s with heap := h' }) : wpAny (model prog w) A (binaryOp .Add (.ref b) (.ref c)) Q E s := by
  have tb : IsTup s.heap b us.toArray := News.isTup N hb
  have tc : IsTup s.heap c ts.toArray := News.isTup N hc
  have hl : us.toArray.toList.length + ts.toArray.toList.length ≤ 16384 := by show us.length + ts.length ≤ _; omega
  cases us with
  | nil => exact kde_addT0 F N tb tc rfl hl (h c s.heap F (news_dup N hc))
  | cons u us =>
    cases ts with
    | nil =>
      refine kde_addT1 F N tb tc (by simp) rfl hl (h b s.heap F (news_dup N ?_))
      rw [List.append_nil]; exact hb
    | cons v vs => exact kde_addT (zs := u :: us ++ v :: vs) F N tb tc (by simp) (by simp) hl rfl fun D h' F' N' _ => h D h' F' N'
theorem d_append {x : Value} {Q : Value → Shared → Prop} (F : Fr h₀ L s.heap m) (N : News h₀ L s.heap led) (hoff : OffD D rest) (hm : (D, listOf us.toArray n) ∈ led) (hs : ∀ p ∈ rest, p ∈ led) (hz : us.length ≤ 1000)
    (h : ∀ h', Fr h₀ L h' m → News h₀ L h' ((D, listOf (us ++ [x]).toArray (n + 1)) :: rest) → Q .none { s with heap := h' }) : wpAny (model prog w) A (call (.builtin "list.append") [.ref D, x]) Q E s := by
  refine append_K F (news_cut N hm hs) (updD hoff) (fun h' F' N' => h h' F' ?_) (by rw [List.size_toArray, PySem.sizeLine_eq]; omega)
  rwa [List.push_toArray] at N'
theorem d_extend {Q : Value → Shared → Prop} (F : Fr h₀ L s.heap m) (N : News h₀ L s.heap led) (hoff : OffD D rest) (hm : (D, listOf us.toArray n) ∈ led) (hb : (b, listOf ts.toArray k) ∈ led) (hne : @Ne Nat b D) (hs : ∀ p ∈ rest, p ∈ led) (hz : us.length ≤ 1000) (hz2 : ts.length ≤ 1000)
    (h : ∀ h' n', Fr h₀ L h' m → News h₀ L h' ((D, listOf (us ++ ts).toArray n') :: rest) → Q .none { s with heap := h' }) : wpAny (model prog w) A (call (.builtin "list.extend") [.ref D, .ref b]) Q E s := by
  have N2 : News h₀ L s.heap ((D, listOf us.toArray n) :: (b, listOf ts.toArray k) :: rest) := fun p hp => by
    rcases List.mem_cons.mp hp with rfl | hp
    · exact N _ hm
    · rcases List.mem_cons.mp hp with rfl | hp
      · exact N _ hb
      · exact N _ (hs p hp)
  have off2 : OffD D ((b, listOf ts.toArray k) :: rest) := fun p hp => (List.mem_cons.mp hp).elim (fun e => e ▸ hne) (hoff p)
  have cut : ∀ {h' : Heap} {o' : Obj}, News h₀ L h' ((D, o') :: (b, listOf ts.toArray k) :: rest) → News h₀ L h' ((D, o') :: rest) := fun N' p hp => (List.mem_cons.mp hp).elim (fun e => e ▸ N' _ (.head _)) fun hp => N' _ (.tail _ (.tail _ hp))
  have hbig : ¬(!(us.toArray).isEmpty && Builtin.List.listTooLong ((us.toArray).size + (ts.toArray).size)) = true := by
    have : Builtin.List.listTooLong ((us.toArray).size + (ts.toArray).size) = false := by
      simp only [Builtin.List.listTooLong, List.size_toArray, decide_eq_false_iff_not, PySem.sizeLine_eq]
      omega
    rw [this, Bool.and_false]; exact Bool.false_ne_true
  have e1 : us.toArray.toList.length ≤ sizeLine := by rw [PySem.sizeLine_eq]; show us.length ≤ _; omega
  have e2 : us.toArray.size + ts.toArray.size ≤ sizeLine + 1 := by rw [PySem.sizeLine_eq, List.size_toArray, List.size_toArray]; omega
  cases ts with
  | nil =>
    refine kxn_extend F N2 (.tail _ (.head _)) rfl (updD off2) hbig e1 e2 fun h' F' N' => h h' n F' ?_
    rw [List.append_nil]; exact cut N'
  | cons t r =>
    exact kl_extend (l := us ++ t :: r) F N2 (.tail _ (.head _)) rfl (by simp) (updD off2) hbig e1 e2 fun h' F' N' => h h' _ F' (cut N')
end
theorem rows_C24X_2 : True := by
  k_with "binaryOp Add ref ref" => (k_here; (with_reducible show wpAny _ _ (binaryOp Operator.Add (Value.ref _) (Value.ref _)) _ _ _); k_dflt (refine' tup_add ?F ?N ?b ?c ?z ?z2 ?_; (case F => k_asm); (case N => k_asm); (case b => k_mem); (case c => k_mem); (case z => omega); (case z2 => omega)); intro t'ᵣ h'ᵣ F'ᵣ N'ᵣ; (try k_sweep))
  trivial
theorem rows_C24X_3 : True := by
  k_with "call builtin:list.append" => (k_here; (with_reducible show wpAny _ _ (call (Value.builtin _) [Value.ref _, _]) _ _ _); k_dflt (refine' d_append ?F ?N ?o ?m ?s ?z ?_; (case F => k_asm); (case N => k_asm); (case o => assumption); (case m => k_mem); (case s => walk_at "m_sub"); (case z => first | omega | (simp only [List.length_append, List.length_cons, List.length_nil]; omega))); intro h'ᵣ F'ᵣ N'ᵣ; (try k_sweep))
  k_with "call builtin:list.extend" => (k_here; (with_reducible show wpAny _ _ (call (Value.builtin _) [Value.ref _, Value.ref _]) _ _ _); k_dflt (refine' d_extend ?F ?N ?o ?m ?b ?ne ?s ?z ?z2 ?_; (case F => k_asm); (case N => k_asm); (case o => assumption); (case m => k_mem); (case b => k_mem); (case ne => assumption); (case s => walk_at "m_sub"); (case z => first | omega | (simp only [List.length_append, List.length_cons, List.length_nil]; omega)); (case z2 => omega)); intro h'ᵣ n'ᵣ F'ᵣ N'ᵣ; (try k_sweep))
  trivial
/-- a loop over a list whose turns grow a list of the call's own -/
def EJ1 (_D : Addr) (_x : Str) (_J : Nat → List Value → Prop) : Prop := True
def Each1E (h₀ : Heap) (L D : Addr) (x : Str) (m : Str → Option Value) (J : List Value → Prop) (R : List (Addr × Obj)) (s₁ : Shared) (Q : Flow → Shared → Prop) (f : Flow) (s₂ : Shared) : Prop :=
  match f with
  | .ret v => Q (.ret v) s₂
  | .brk => Q .next s₂
  | _ => ∃ h' tk m' all us n, s₂ = { s₁ with heap := h', toks := tk } ∧ Fr h₀ L h' m' ∧ News h₀ L h' all ∧ (D, listOf (List.toArray us) n) ∈ all ∧ (∀ p ∈ R, p ∈ all) ∧ (∀ z, z ≠ x → m' z = m z) ∧ J us
theorem each1_end {h₀ h' : Heap} {L D : Addr} {x : Str} {m m' : Str → Option Value} {J : List Value → Prop} {R all : List (Addr × Obj)} {s₁ s' : Shared} {Q : Flow → Shared → Prop} {us : List Value} {n : Nat} (e : s' = { s₁ with heap := h', toks := s'.toks }) (F : Fr h₀ L h' m') (N : News h₀ L h' all) (hm : (D, listOf (List.toArray us) n) ∈ all) (hs : ∀ p ∈ R, p ∈ all) (hz : ∀ z, z ≠ x → m' z = m z) (hJ : J us) : Each1E h₀ L D x m J R s₁ Q .next s' :=
  ⟨h', s'.toks, m', all, us, n, e, F, N, hm, hs, hz, hJ⟩
section
variable {prog : Program} {w : World} {A : Around} {E : Value → Shared → Prop} {s : Shared} {env : Env} {g : Heap} {target : Expr} {body : List Stmt} {Q : Flow → Shared → Prop} {items : Array Value} {led rest : List (Addr × Obj)} {m : Str → Option Value} {a D : Addr} {x : Str} {J : Nat → List Value → Prop} {us : List Value} {n : Nat}
def Each1T (prog : Program) (w : World) (A : Around) (E : Value → Shared → Prop) (s : Shared) (env : Env) (g : Heap) (target : Expr) (body : List Stmt) (Q : Flow → Shared → Prop) (items : Array Value) (rest : List (Addr × Obj)) (D : Addr) (x : Str) (m : Str → Option Value) (J : Nat → List Value → Prop) : Prop :=
  ∀ i v u us n own h tk, items[i]? = some v → J i us → OffD D (rest ++ own) → Fr g env.locals h (fun z => if z = x then u else m z) → News g env.locals h ((D, listOf (List.toArray us) n) :: (rest ++ own)) →
    wpAny (model prog w) A (assign target env v) (fun _ s₂ => wpAny (model prog w) A (execs body env) (Each1E g env.locals D x m (J (i + 1)) (rest ++ own) { s with heap := h, toks := tk } Q) E s₂) E { s with heap := h, toks := tk }
theorem map_eta {m₁ m : Str → Option Value} (h : ∀ z, z ≠ x → m₁ z = m z) : m₁ = fun z => if z = x then m₁ x else m z := funext fun z => by
  by_cases e : z = x
  · rw [if_pos e, e]
  · rw [if_neg e]; exact h z e
theorem each1_unr {fp : List Addr} {s : Shared} (hfp : ∀ b ∈ fp, @Ne Nat b D) (hoff : OffD D rest) (turn : Each1T prog w A E s env g target body Q items rest D x m J)
    (done : ∀ u us n h tk, J items.size us → Fr g env.locals h (fun z => if z = x then u else m z) → News g env.locals h ((D, listOf (List.toArray us) n) :: rest) → Q .next { s with heap := h, toks := tk }) :
    ∀ k i m₁ us n, i + k = items.size → J i us → (∀ z, z ≠ x → m₁ z = m z) → Unr prog w A E g env target body Q (fun i v => items[i]? = some v) fp s k i m₁ ((D, listOf (List.toArray us) n) :: rest) := by
  intro k
  induction k with
  | zero =>
    intro i m₁ us n hi hJ hm
    have e : i = items.size := by omega
    subst e
    exact Unr.zero fun h' tk F N => done (m₁ x) us n h' tk hJ (map_eta hm ▸ F) N
  | succ k ih =>
    intro i m₁ us n hi hJ hm
    refine Unr.succ fun v h₁ tk₁ own hP hown F N => ?_
    have off : OffD D (rest ++ own) := fun p hp => (List.mem_append.mp hp).elim (hoff p) fun hp => hfp _ (hown p hp)
    refine wpAny_mono (turn i v (m₁ x) us n own h₁ tk₁ hP hJ off (map_eta hm ▸ F) fun p hp => N p ?_) (fun _ s₂ h₂ => wpAny_mono h₂ (fun f s₃ h₃ => ?_) fun _ _ e => e) fun _ _ e => e
    · simp only [List.mem_cons, List.mem_append] at hp ⊢
      rcases hp with hp | hp | hp
      · exact .inr (.inl hp)
      · exact .inr (.inr hp)
      · exact .inl hp
    have fin : (∃ h' tk m' all us n, s₃ = { s with heap := h', toks := tk } ∧ Fr g env.locals h' m' ∧ News g env.locals h' all ∧ (D, listOf (List.toArray us) n) ∈ all ∧ (∀ p ∈ rest ++ own, p ∈ all) ∧ (∀ z, z ≠ x → m' z = m z) ∧ J (i + 1) us) →
        LoopStep2 g env.locals own ((D, listOf (List.toArray us) n) :: rest) (Unr prog w A E g env target body Q (fun i v => items[i]? = some v) fp s k (i + 1)) { s with heap := h₁, toks := tk₁ } .next s₃ := by
      rintro ⟨h', tk, m', all, us', n', rfl, F', N', hD, hs, hm', hJ'⟩
      refine ⟨rfl, h', tk, m', (D, listOf (List.toArray us') n') :: rest, rfl, F', fun p hp => N' p ?_, rfl, ih (i + 1) m' us' n' (by omega) hJ' hm'⟩
      rcases List.mem_append.mp hp with hp | hp
      · exact hs p (List.mem_append_right _ hp)
      · rcases List.mem_cons.mp hp with rfl | hp
        · exact hD
        · exact hs p (List.mem_append_left _ hp)
    cases f with
    | ret v => exact .ret h₃
    | brk => exact .brk h₃
    | next => exact .next (fin h₃)
    | cont => exact .cont (fin h₃)
theorem each1_list (_ : EJ1 D x J) (hh : A.handled = none) (ht : s.heap.IsList a items) (F : Fr g env.locals s.heap m) (N : News g env.locals s.heap led) (hD : (D, listOf (List.toArray us) n) ∈ led) (hs : ∀ p ∈ rest, p ∈ led) (ha : ∃ oa, (a, oa) ∈ rest) (hoff : OffD D rest) (hJ : Later2 (J 0 us))
    (turn : Later2 (Each1T prog w A E { s with heap := s.heap.push { cls := .type "list_iterator", data := .fields #[.ref a, .int 0 0] } } env g target body Q items rest D x m J))
    (done : Later2 (∀ u us n h tk, J items.size us → Fr g env.locals h (fun z => if z = x then u else m z) → News g env.locals h ((D, listOf (List.toArray us) n) :: rest) → Q .next { s with heap := h, toks := tk })) :
    wpAny (model prog w) A (pyIter (.ref a)) (fun it s₂ => UnrAt prog w A g env target body Q E it s₂) E s := by
  refine Iter_list_unr hh ht F (news_cut N hD hs) (fun z => ?_) (each1_unr (fun b hb => ?_) hoff turn done _ _ _ _ _ (by simp) hJ fun _ _ => rfl)
  · subst z
    obtain ⟨o, es, ep, ho, hd, _⟩ := F.ns
    obtain ⟨o', ho', _, n, hd'⟩ := ht
    rw [ho] at ho'; cases ho'; rw [hd] at hd'; cases hd'
  · rcases List.mem_cons.mp hb with rfl | hb
    · intro e
      exact absurd (Heap.lt_size (N _ hD).1) (e ▸ Nat.lt_irrefl _)
    · rw [List.mem_singleton.mp hb]
      obtain ⟨oa, ha⟩ := ha
      exact hoff _ ha
end
theorem rows_C24X_4 : True := by
  k_with "pyIter ref" => ((with_reducible show wpAny _ _ (pyIter (Value.ref _)) (fun it s₂ => UnrAt _ _ _ _ _ _ _ _ _ it s₂) _ _); k_dflt (
  (refine' each1_list ?kJ (by exact rfl) ?k1 ?k3 ?k4 ?k5 ?k6 ?k7 ?k8 ?ea0 ?eaT ?eaF; (case kJ => assumption); (case k3 => k_asm); (case k4 => k_asm); (case k1 => exact News.isList (by assumption) (by k_mem)); (case k8 => assumption); (case k5 => k_mem); (case k6 => walk_at "m_sub"); (case k7 => exact ⟨_, by k_mem⟩))))
  trivial
/-- what holds between the turns of a comprehension with a test, the ledger as it was -/
def CJ (_J : Nat → List Value → Prop) : Prop := True
section
variable {prog : Program} {w : World} {A : Around} {h₀ : Heap} {L : Addr} {m : Str → Option Value} {env : Env} {ct elt : Expr} {x : Str} {scope : Scope} {cl : List (Str × Addr)} {s : Shared} {S : List (Addr × Obj) → Prop} {P : Nat → Value → Prop} {Fin : List Value → List (Addr × Obj) → Prop} {news : List (Addr × Obj)} {n : Nat}
theorem comp_fixT {J : Nat → List Value → Prop} (_hCJ : CJ J) (h0 : Later2 (J 0 []))
    (turn : Later2 (∀ i ys v IA oI C oC D m₂ h tk (E' : Value → Shared → Prop), i < n → J i ys → P i v → LCg.NsObj oC m₂ → m₂ x = some v → Fr h₀ L h m → News h₀ L h ((IA, oI) :: (C, oC) :: (D, LCg.lst ys) :: news) → OffH IA C D news → ((@Ne Nat IA C) ∧ (@Ne Nat IA D) ∧ (@Ne Nat C D)) →
      wpAny (model prog w) A (isTrue ct (compEnvC scope cl C env) (eval ct (compEnvC scope cl C env))) (fun ok s' => if ok = true then
        wpAny (model prog w) A (eval elt (compEnvC scope cl C env)) (LCg.CompEnd h₀ L m { s with heap := h, toks := tk } IA oI C oC D (LCg.lst ys) S (fun y nw' => J (i + 1) (ys ++ [y]) ∧ nw' = news)) E' s'
        else LCg.CompEnd h₀ L m { s with heap := h, toks := tk } IA oI C oC D (LCg.lst ys) S (fun _ nw' => J (i + 1) ys ∧ nw' = news) Value.none s') E' { s with heap := h, toks := tk }))
    (fin : Later2 (∀ ys, J n ys → Fin ys news)) : LCt.CompRestT prog w A h₀ L m env ct elt x scope cl s S P Fin n 0 [] news := by
  refine comp_invT (I := fun i ys nw => J i ys ∧ nw = news) trivial ⟨h0, rfl⟩ ?_ ?_
  · rintro i ys nw v IA oI C oC D m₂ h tk E' hi ⟨hJ, rfl⟩ hv hC hx F N off ne
    exact turn i ys v IA oI C oC D m₂ h tk E' hi hJ hv hC hx F N off ne
  · rintro ys nw ⟨hJ, rfl⟩
    exact fin ys hJ
end
theorem strs_at {vs : List Value} {ts : List Str} (h : StrsAre vs ts) : ∀ {i : Nat} {v : Value}, vs.toArray[i]? = some v → ∃ x t, v = .str x t ∧ ts[i]? = some x := by
  induction h with
  | nil => intro i v e; simp at e
  | cons y u _ ih =>
    intro i v e
    cases i with
    | zero => simp at e; subst e; exact ⟨_, _, rfl, by simp⟩
    | succ i => simpa using ih (by simpa using e)
theorem rows_C24X_5 : True := by
  k_with "CompSrcT" => (k_here; k_dflt (refine LCt.CompSrcT.ledger (by rfl) (by k_asm) (by k_asm) (by k_mem) (by simp only [List.size_toArray]; rw [PySem.sizeLine_eq]; first | omega | (simp only [List.length_append, List.length_cons, List.length_nil]; omega)) ?_; intro g'ᵣ; refine' comp_fixT (by assumption) ?ct0 ?ctT ?ctF))
  trivial
theorem strs_step {α : Type} {A : List Str} {fs : List α} {f : α → Str} {i : Nat} {e : α} {x : Str} {u : Tok} {us : List Value} (hJ : StrsAre us (A ++ (fs.take i).map f)) (hk : fs[i]? = some e) (hx : f e = x) : StrsAre (us ++ [.str x u]) (A ++ (fs.take (i + 1)).map f) := by
  subst hx
  rw [List.take_add_one, hk, List.map_append, ← List.append_assoc]
  exact strs_snoc hJ
theorem filt_keep {ts : List Str} {i : Nat} {x : Str} {u : Tok} {us : List Value} {q : Str → Bool} (hJ : StrsAre us ((ts.take i).filter q)) (hk : ts[i]? = some x) (hx : q x = true) : StrsAre (us ++ [.str x u]) ((ts.take (i + 1)).filter q) := by
  rw [List.take_add_one, hk, List.filter_append]
  simp only [Option.toList_some, List.filter_cons, hx, if_true, List.filter_nil]
  exact strs_snoc hJ
theorem filt_drop {ts : List Str} {i : Nat} {x : Str} {us : List Value} {q : Str → Bool} (hJ : StrsAre us ((ts.take i).filter q)) (hk : ts[i]? = some x) (hx : q x = false) : StrsAre us ((ts.take (i + 1)).filter q) := by
  rw [List.take_add_one, hk, List.filter_append]
  simp only [Option.toList_some, List.filter_cons, hx, Bool.false_eq_true, if_false, List.filter_nil, List.append_nil]
  exact hJ
theorem rows_C25_1 : True := by
  k_with_none
  k_with "call ref" => (k_here; (with_reducible show wpAny _ _ (call (Value.ref 105) [Value.bool _, Value.str _ _]) _ _ _); k_dflt (refine' want_use ?H ?F ?N ?lv ?_ ?_; (case H => assumption); (case F => k_asm); (case N => k_asm); (case lv => decide)))
  k_with "leaving ref" => (k_here; k_dflt (refine' leave_thr (by exact Hr.frames (by assumption)) rfl (.inr rfl) ?R ?hE ?hL ?hin ?_; (case R => assumption); (case hE => walk_at "m_ext"); (case hL => exact frame_none (by assumption) (by assumption)); (case hin => assumption)); intro h'ᵣ R'ᵣ)
  k_with "exec For Name Name cons nil" => (k_here; (rename Fr _ _ _ _ => lF'ᵣ); k_dflt (refine' For_unrF lF'ᵣ ?_ ?hs; (case hs => (intro _; rfl))))
  k_with "exec For Name Attribute cons nil" => (k_here; (rename Fr _ _ _ _ => lF'ᵣ); k_dflt (refine' For_unrF lF'ᵣ ?_ ?hs; (case hs => (intro _; rfl))))
  k_with "exec For Tuple Attribute cons nil" => (k_here; (rename Fr _ _ _ _ => lF'ᵣ); k_dflt (refine' For_unrF lF'ᵣ ?_ ?hs; (case hs => (intro _; rfl))))
  k_with "pyIter ref" => ((with_reducible show wpAny _ _ (pyIter (Value.ref _)) (fun it s₂ => UnrAt _ _ _ _ _ _ _ _ _ it s₂) _ _); k_dflt (first
  | (refine' each_tuple ?kJ (by exact rfl) ?k1 ?k3 ?k4 ?ea0 ?eaT ?eaF; (case kJ => assumption); (case k3 => k_asm); (case k4 => k_asm); (case k1 => exact News.isTup (by assumption) (by k_mem)))
  | (refine' each_list ?kJ (by exact rfl) ?k1 ?k3 ?k4 ?ea0 ?eaT ?eaF; (case kJ => assumption); (case k3 => k_asm); (case k4 => k_asm); (case k1 => exact News.isList (by assumption) (by k_mem)))))
  k_with "call ref" => (k_here; (with_reducible show wpAny _ _ (call (Value.ref 445) [_, _, _, _]) _ _ _); k_dflt (refine' ef_use ?H ?F ?N ?lv ?hm ?_; (case H => assumption); (case F => k_asm); (case N => k_asm); (case lv => decide); (case hm => assumption)); intro h'ᵣ tk'ᵣ c'ᵣ F'ᵣ N'ᵣ; (try k_sweep))
  k_with "call builtin:len" => (k_here; (with_reducible show wpAny _ _ (call (Value.builtin _) [Value.ref _]) _ _ _); k_dflt (refine' my_len ?N ?m ?l ?_; (case N => k_asm); (case m => k_mem); (case l => ((have hLX := AllV.length (by assumption)); omega))))
  k_with "call ref" => (k_here; (with_reducible show wpAny _ _ (call (Value.ref 438) [Value.ref _]) _ _ _); k_dflt (refine' kft_use ?H ?F ?N ?lv ?ha ?hi ?hl ?_; (case H => assumption); (case F => k_asm); (case N => k_asm); (case lv => decide); (case ha => k_mem); (case hi => first | assumption | exact IntsAre.append (by assumption) (by assumption)); (case hl => first | exact len_le2 (by assumption) | exact len_app (by assumption) (by assumption))); intro h'ᵣ tk'ᵣ c'ᵣ F'ᵣ N'ᵣ; (try k_sweep))
  k_with "call ref" => (k_here; (with_reducible show wpAny _ _ (call (Value.ref 438) [Value.ref _]) _ _ _); k_dflt (refine' kfl1_use ?H ?F ?N ?lv ?ha ?_ ?_; (case H => assumption); (case F => k_asm); (case N => k_asm); (case lv => decide); (case ha => k_mem)); all_goals (intro hkf h'ᵣ tk'ᵣ c'ᵣ F'ᵣ N'ᵣ; (try k_sweep)))
  k_with "call ref" => (k_here; (with_reducible show wpAny _ _ (call (Value.ref 452) [Value.ref _, Value.int _ _]) _ _ _); k_dflt (refine' tf_use ?H ?F ?N ?lv ?ha ?hm ?he ?_; (case H => assumption); (case F => k_asm); (case N => k_asm); (case lv => decide); (case ha => k_mem); (case hm => assumption); (case he => assumption)); intro h'ᵣ tk'ᵣ c'ᵣ F'ᵣ N'ᵣ; (try k_sweep))
  k_with "call ref" => (k_here; (with_reducible show wpAny _ _ (call (Value.ref 459) [Value.ref _, Value.int _ _]) _ _ _); k_dflt (refine' mf_use ?H ?F ?N ?lv ?ha ?hm ?he ?_; (case H => assumption); (case F => k_asm); (case N => k_asm); (case lv => decide); (case ha => k_mem); (case hm => assumption); (case he => assumption)); intro h'ᵣ tk'ᵣ c'ᵣ F'ᵣ N'ᵣ; (try k_sweep))
  k_with "call ref" => (k_here; (with_reducible show wpAny _ _ (call (Value.ref 466) [Value.ref _]) _ _ _); k_dflt (refine' cf_use ?H ?F ?N ?lv ?ha ?_; (case H => assumption); (case F => k_asm); (case N => k_asm); (case lv => decide); (case ha => k_mem)); intro h'ᵣ tk'ᵣ c'ᵣ F'ᵣ N'ᵣ; (try k_sweep))
  k_with "binaryOp Add ref ref" => (k_here; (with_reducible show wpAny _ _ (binaryOp Operator.Add (Value.ref _) (Value.ref _)) _ _ _); k_dflt (refine' tup_add ?F ?N ?b ?c ?z ?z2 ?_; (case F => k_asm); (case N => k_asm); (case b => k_mem); (case c => k_mem); (case z => omega); (case z2 => omega)); intro t'ᵣ h'ᵣ F'ᵣ N'ᵣ; (try k_sweep))
  k_with "call builtin:list.append" => (k_here; (with_reducible show wpAny _ _ (call (Value.builtin _) [Value.ref _, _]) _ _ _); k_dflt (refine' d_append ?F ?N ?o ?m ?s ?z ?_; (case F => k_asm); (case N => k_asm); (case o => assumption); (case m => k_mem); (case s => walk_at "m_sub"); (case z => first | omega | (simp only [List.length_append, List.length_cons, List.length_nil]; omega))); intro h'ᵣ F'ᵣ N'ᵣ; (try k_sweep))
  k_with "call builtin:list.extend" => (k_here; (with_reducible show wpAny _ _ (call (Value.builtin _) [Value.ref _, Value.ref _]) _ _ _); k_dflt (refine' d_extend ?F ?N ?o ?m ?b ?ne ?s ?z ?z2 ?_; (case F => k_asm); (case N => k_asm); (case o => assumption); (case m => k_mem); (case b => k_mem); (case ne => assumption); (case s => walk_at "m_sub"); (case z => first | omega | (simp only [List.length_append, List.length_cons, List.length_nil]; omega)); (case z2 => omega)); intro h'ᵣ n'ᵣ F'ᵣ N'ᵣ; (try k_sweep))
  k_with "pyIter ref" => ((with_reducible show wpAny _ _ (pyIter (Value.ref _)) (fun it s₂ => UnrAt _ _ _ _ _ _ _ _ _ it s₂) _ _); k_dflt (
  (refine' each1_list ?kJ (by exact rfl) ?k1 ?k3 ?k4 ?k5 ?k6 ?k7 ?k8 ?ea0 ?eaT ?eaF; (case kJ => assumption); (case k3 => k_asm); (case k4 => k_asm); (case k1 => exact News.isList (by assumption) (by k_mem)); (case k8 => assumption); (case k5 => k_mem); (case k6 => walk_at "m_sub"); (case k7 => exact ⟨_, by k_mem⟩))))
  k_with "CompSrcT" => (k_here; k_dflt (refine LCt.CompSrcT.ledger (by rfl) (by k_asm) (by k_asm) (by k_mem) (by simp only [List.size_toArray]; rw [PySem.sizeLine_eq]; first | omega | (simp only [List.length_append, List.length_cons, List.length_nil]; omega)) ?_; intro g'ᵣ; refine' comp_fixT (by assumption) ?ct0 ?ctT ?ctF))
  trivial
def Kind2 (P : PO) (v₁ v₂ : Value) (e : List Int × List Int) : Prop := ∃ b c vs us, v₁ = .ref b ∧ v₂ = .ref c ∧ P b (tupO (List.toArray vs)) ∧ IntsAre vs e.1 ∧ e.1.length ≤ 2 ∧ P c (tupO (List.toArray us)) ∧ IntsAre us e.2 ∧ e.2.length ≤ 2
theorem kind2 {T led : List (Addr × Obj)} (hs : ∀ p ∈ T, p ∈ led) (v : Value) (e : List Int × List Int) (h : KindV (Mem T) v e) : ∃ (t : Addr) (ot : Obj) (v₁ v₂ : Value) (nt : Nat), v = .ref t ∧ (t, ot) ∈ led ∧ ot.cls = .type "tuple" ∧ ot.data = .seq #[v₁, v₂] nt ∧ Kind2 (Mem T) v₁ v₂ e := by
  obtain ⟨a, b, c, vs, us, rfl, p1, p2, i1, l1, p3, i2, l2⟩ := h
  exact ⟨a, _, _, _, 0, rfl, hs _ p1, rfl, rfl, b, c, vs, us, rfl, rfl, p2, i1, l1, p3, i2, l2⟩
def funcT (n : Int) (x : Int × List Int) : Str := if x.1 ≥ n then Str.ofString "unknown type" else kfText x.2
def manyT (M : Mod) : Str := if memImps M.imps + M.mems.length > 1 then Str.ofString "multiple memories" else Str.ofString ""
def faultsT (M : Mod) (pg el : Int) : List Str :=
  M.kinds.map (fun p => kfText (p.1 ++ p.2)) ++ M.imps.map (fun i => importT M.kinds.length pg el i) ++ M.funcs.map (funcT M.kinds.length) ++ M.tabs.map (fun p => tableT el p) ++ M.mems.map (fun p => memT pg p) ++ [manyT M] ++ M.globs.map (fun p => cellT p)
theorem funcT_no {fk : Int} {fks : List Int} {a n : Nat} (hl : a = n) (h : (a : Int) ≤ fk) : funcT n (fk, fks) = Str.ofString "unknown type" := by
  subst hl; rw [funcT, if_pos h]
theorem funcT_ok {fk : Int} {fks : List Int} {a n : Nat} (hl : a = n) (h : ¬ (a : Int) ≤ fk) : funcT n (fk, fks) = kfText fks := by
  subst hl; rw [funcT, if_neg h]
theorem many_t1 {M : Mod} {us ms : List Value} {u : Tok} (h : ms.length = M.mems.length) (h2 : us.length = memImps M.imps) (h3 : 1 < ms.length + us.length) : StrsAre [.str (Str.ofString "multiple memories") u] [manyT M] := by
  rw [manyT, if_pos (by omega)]; exact .cons _ _ .nil
theorem many_t0 {M : Mod} {us ms : List Value} {u : Tok} (h : ms.length = M.mems.length) (h2 : us.length = memImps M.imps) (h3 : 1 ≥ ms.length + us.length) : StrsAre [.str (Str.ofString "") u] [manyT M] := by
  rw [manyT, if_neg (by omega)]; exact .cons _ _ .nil
section
variable {w : World} {mean : ExcName → Option Value} {mg mb : Str → Option Value} {A A₀ : Around} {base G g : Heap} {outer l : List Env} {env : Env} {s : Shared} {Q E : Value → Shared → Prop} {L : Addr} {m : Str → Option Value} {led : List (Addr × Obj)} {o : Obj}
theorem imf_use {x y : Addr} {M : Mod} {i : Imp} {pg el : Int} {c1 c2 : Tok} {lv : Nat} (H : Hr lv w mean mg mb A₀ A base outer env g L) (F : Fr g L s.heap m) (N : News g L s.heap led) (hlv : 100 ≤ lv) (hM : ModV (Mem led) x M) (hK : M.kinds.length ≤ 3) (hI : ImpV (Mem led) (.ref y) i) (hp : 0 ≤ pg ∧ pg ≤ 100) (he : 0 ≤ el ∧ el ≤ 100)
    (h : ∀ h' tk' c, Fr g L h' m → News g L h' led → Q (.str (importT M.kinds.length pg el i) c) { s with heap := h', toks := tk' }) :
    wpAny (model PySem.Challenge.pw_nm0133_01 w) A (call (.ref 473) [.ref x, .ref y, .int pg c1, .int el c2]) Q E s := import_fault_ok (H.at F N hlv) (led_T N) hM hK hI hp he fun h' tk' c x => h h' tk' c (fr_ext F x) (news_ext N x)
theorem rows_C25_2 : True := by
  k_with "call ref" => (k_here; (with_reducible show wpAny _ _ (call (Value.ref 473) [Value.ref _, Value.ref _, Value.int _ _, Value.int _ _]) _ _ _); k_dflt (refine' imf_use ?H ?F ?N ?lv ?M ?K ?I ?hp ?he ?_; (case H => assumption); (case F => k_asm); (case N => k_asm); (case lv => decide); (case M => exact mod_up (by assumption) (by walk_at "m_sub")); (case K => assumption); (case I => exact imp_up (by assumption) (by walk_at "m_sub")); (case hp => assumption); (case he => assumption)); intro h'ᵣ tk'ᵣ c'ᵣ F'ᵣ N'ᵣ; (try k_sweep))
  trivial
theorem rows_C25_3 : True := by
  k_with "exec Assign cons ListComp" => (k_here; k_dflt (refine LCp.Assign_ListComp_P (F₀ := by k_asm) (by rfl) (by with_unfolding_all rfl) (by with_unfolding_all rfl) (by decide) (by rfl) (by decide) (by rfl) (by rfl) (by decide) (by rfl) (by rfl) ?_))
  k_with "eval ListComp" => (k_here; k_dflt (first
  | (with_reducible show wpAny _ _ (eval (Expr.ListComp _ [⟨Expr.Tuple _ _ _, _, _, _⟩] _ _) _) _ _ _); refine LCp.ListComp_P (F₀ := by k_asm) (clos_eq rfl) (by decide) (by rfl) (by decide) (by rfl) (by rfl) (by decide) ?_
  | (with_reducible show wpAny _ _ (eval (Expr.ListComp _ [⟨Expr.Name _ _, _, [], _⟩] _ _) _) _ _ _); refine LCg.ListComp_U (F₀ := by k_asm) (clos_eq rfl) (by decide) (by rfl) (by decide) (by rfl) ?_
  | (with_reducible show wpAny _ _ (eval (Expr.ListComp _ [⟨Expr.Name _ _, _, [_], _⟩] _ _) _) _ _ _); refine LCt.ListComp_T (F₀ := by k_asm) (clos_eq rfl) (by decide) (by rfl) (by decide) (by rfl) ?_))
  k_with "SrcLP" => (k_here; k_dflt (refine LCp.SrcLP.ledger (by rfl) (by k_asm) (by k_asm) (by k_mem) (by simp only [List.size_toArray]; rw [PySem.sizeLine_eq]; omega) ?_; intro g'ᵣ; refine' comp_strsP (R₂ := Kind2 (Mem _)) ?hF ?hv ?csp ?csT ?csF; (case hv => assumption); (case hF => assumption); (case csp => (unfold Later2; refine' kind2 ?_; walk_at "m_sub"))))
  k_with "CompSrc" => (k_here; k_dflt (refine LCg.CompSrc.ledger (by rfl) (by k_asm) (by k_asm) (by k_mem) (by simp only [List.size_toArray]; rw [PySem.sizeLine_eq]; omega) ?_; intro g'ᵣ; refine' comp_strs ?hF ?hv ?csT ?csF; (case hv => assumption); (case hF => assumption)))
  trivial
set_option maxHeartbeats 16000000 in
theorem faults_ok {x : Addr} {M : Mod} {pg el : Int} {c1 c2 : Tok} {T : List (Addr × Obj)} (C : At 140 w mean mg mb A base outer G s.heap) (hT : ∀ p ∈ T, s.heap.get? p.1 = some p.2 ∧ G.get? p.1 = none)
    (hM : ModV (Mem T) x M) (hO : M.Ok) (hp : 0 ≤ pg ∧ pg ≤ 100) (he : 0 ≤ el ∧ el ≤ 100) (h : ∀ r us n h' tk', Ext s.heap h' → h'.get? r = some (listOf (List.toArray us) n) → StrsAre us ((faultsT M pg el).filter (fun t => t != Str.ofString "")) → s.heap.get? r = none → Q (.ref r) { s with heap := h', toks := tk' }) :
    wpAny (model PySem.Challenge.pw_nm0133_01 w) A (call (.ref 478) [.ref x, .int pg c1, .int el c2]) Q E s := by
  obtain ⟨hd0, dp, fr, gd, un⟩ := A
  obtain rfl : hd0 = none := C.hand
  obtain rfl : fr = some outer := C.B.stack
  refine wpAny_call ?_
  refine' enterC T [(Str.ofString "module", .ref x), (Str.ofString "pages", .int pg c1), (Str.ofString "elements", .int el c2)] C (by decide) hT ?k6 ?k7 ?k9 ?kB ?c2 ?c3 ?c4 ?c5 ?_
  case k6 => k_is
  case k7 => k_is
  case k9 => exact BindsTo.of_eq rfl
  case kB => exact rfl
  case c2 => exact rfl
  case c3 => exact rfl
  case c4 => exact rfl
  case c5 => decide +kernel
  intro g L' h₁ tkc cells hg hlt F' N' Y X' T' H hd hu hA
  have B' := H.B
  clear C
  have hcell := CellsAre.three Y
  obtain ⟨oc1, oc2, oc3, hce, hoc1, hoc2, hoc3⟩ := hcell
  subst hce
  clear Y
  replace hoc3 : oc3.data = .cell (some (.ref x)) := hoc3
  replace hoc2 : oc2.data = .cell (some (.int pg c1)) := hoc2
  replace hoc1 : oc1.data = .cell (some (.int el c2)) := hoc1
  have hM₀ := hM
  have hK := hO.k
  obtain ⟨dx, h1, h2, h3, h4, h5, h6, h7, h8, h9, h10, h11, b1, b2, b3, b4, b5, b6, b7, b8, b9, b10, b11, K1, K2, a3, K4, K5, a6, a7, a8, a9, a10, ys, zs, vs, ts, ms, gs, n1, n2, n3, n4, n5, n6, q⟩ := hM
  simp only [List.cons_append, List.nil_append] at N'
  replace N' := news_from (more := [(x, instObj 372 dx), (dx, dictOf [En h1 "kinds" b1 (.ref K1), En h2 "imports" b2 (.ref K2), En h3 "funcs" b3 (.ref a3), En h4 "tables" b4 (.ref K4), En h5 "memories" b5 (.ref K5), En h6 "globals" b6 (.ref a6), En h7 "exports" b7 (.ref a7), En h8 "start" b8 .none, En h9 "elems" b9 (.ref a8), En h10 "datas" b10 (.ref a9), En h11 "customs" b11 (.ref a10)] 11), (K1, listOf (List.toArray ys) n1), (K2, listOf (List.toArray zs) n2), (a3, listOf (List.toArray vs) n3), (K4, listOf (List.toArray ts) n4), (K5, listOf (List.toArray ms) n5), (a6, listOf (List.toArray gs) n6)]) N' (T := T) (by walk_at "m_sub") (by intro r hr; simp only [List.mem_cons, List.not_mem_nil, or_false] at hr; rcases hr with rfl | rfl | rfl | rfl | rfl | rfl | rfl | rfl <;> first | exact q.ob | exact q.di | exact q.k1 | exact q.k2 | exact q.k3 | exact q.k4 | exact q.k5 | exact q.k6)
  simp only [List.cons_append, List.nil_append] at N'
  have hv1 := q.v1
  have hv2 := q.v2
  have hv3 := q.v3
  have hv4 := q.v4
  have hv5 := q.v5
  have hv6 := q.v6
  have hl1 := hv1.length
  have hl2 := hv2.length
  have hl3 := hv3.length
  have hl4 := hv4.length
  have hl5 := hv5.length
  have hl6 := hv6.length
  have ho2 := hO.i
  have ho3 := hO.f
  have ho4 := hO.t
  have ho5 := hO.m
  have ho6 := hO.g
  have hF1 : FJ (KindV (Mem T)) (fun p : List Int × List Int => kfText (p.1 ++ p.2)) := .mk
  have hF2 : FJ (ImpV (Mem T)) (fun i => importT M.kinds.length pg el i) := .mk
  have hF4 : FJ (TabV (Mem T)) (fun p => tableT el p) := .mk
  have hF5 : FJ (MemV (Mem T)) (fun p => memT pg p) := .mk
  have hF6 : FJ (GlobV (Mem T)) (fun p => cellT p) := .mk
  walk_at "m_go"
  case csT =>
    unfold Later2
    intro i us v₁ v₂ e IA oI C oC Da m₂ h₃ tk E' hk hR hC hx hx2 F' N' off ne
    obtain ⟨b, c, ws, rs, rfl, rfl, p2, i1, l1, p3, i2, l2⟩ := hR
    have hx1 := i1.length
    have hx3 := i2.length
    replace N' := news_from (more := [(b, tupO (List.toArray ws)), (c, tupO (List.toArray rs))]) N' (T := T) (by walk_at "m_sub") (by intro r hr; simp only [List.mem_cons, List.not_mem_nil, or_false] at hr; rcases hr with rfl | rfl <;> assumption)
    simp only [List.cons_append, List.nil_append] at N'
    (try k_unmd)
    k_fold
    k_steps
    all_goals (first | exact comp_turn (offH off) (by exact rfl) (by assumption) (by assumption) (by walk_at "m_sub") (.inr ⟨_, by k_mem, rfl, _, rfl⟩) ⟨⟨_, rfl⟩, rfl⟩)
  case csF =>
    unfold Later2
    (with_reducible rename News _ _ _ _ => NK; rename Fr _ _ _ _ => FK; clear FK NK)
    intro us1 hs1
    have hle1 := strs_len hs1
    simp only [List.length_map] at hle1
    unfold LCg.FinA
    intro D h₃ tk₃ F' N' q2
    have hoffD := offD_of q2
    clear q2
    dsimp only
    k_steps
    case csT =>
      unfold Later2
      (with_reducible rename News _ _ _ _ => NK; rename Fr _ _ _ _ => FK; clear FK NK)
      intro i us v e IA oI C oC Da m₂ h₃ tk E' hk hR hC hx F' N' off ne
      obtain ⟨y, rfl⟩ := imp_ref hR
      (try k_unmd)
      k_fold
      k_steps
      all_goals (first | exact comp_turn (offH off) (by exact rfl) (by assumption) (by assumption) (by walk_at "m_sub") (.inr ⟨_, by k_mem, rfl, _, rfl⟩) ⟨⟨_, rfl⟩, rfl⟩)
    case csF =>
      unfold Later2
      (with_reducible rename News _ _ _ _ => NK; rename Fr _ _ _ _ => FK; clear FK NK)
      intro us2 hs2
      have hle2 := strs_len hs2
      simp only [List.length_map] at hle2
      unfold LCg.FinE
      intro b2 h₄ tk₄ F' N' q2
      have hneb2 : @Ne Nat b2 D := Ne.symm q2.1
      clear q2
      have hEJ : EJ1 D (Str.ofString "func") (fun i us => StrsAre us (M.kinds.map (fun p => kfText (p.1 ++ p.2)) ++ M.imps.map (fun i => importT M.kinds.length pg el i) ++ (M.funcs.take i).map (funcT M.kinds.length))) := trivial
      dsimp only
      k_steps
      case ea0 =>
        unfold Later2
        rw [List.take_zero, List.map_nil, List.append_nil]
        exact strs_app hs1 hs2
      case eaT =>
        unfold Later2 Each1T
        (with_reducible rename News _ _ _ _ => NK; rename Fr _ _ _ _ => FK; clear FK NK)
        clear hEJ hoffD
        intro i v u us n own h₅ tk₅ hv hJ hoffD F' N'
        have hle := strs_len hJ
        simp only [List.length_append, List.length_map, List.length_take] at hle
        obtain ⟨⟨fk, fks⟩, hk, hq⟩ := allV_at hv3 hv
        obtain ⟨fa, fd, fn, fb, fc, fv, fe, j1, j2, j3, d1, d2, d3, e1, rfl, p1, p2, p3, hiv, hfl, p4, hk0⟩ := hq
        dsimp only at p1 p2 p3 hiv hfl hk0
        replace F' : Fr g L' h₅ _ := F'
        replace N' : News g L' h₅ _ := N'
        replace N' := news_from (more := [(fa, instObj 227 fd), (fd, dictOf [En j1 "kind" d1 (.int fk e1), En j2 "locals" d2 (.ref fb), En j3 "body" d3 (.ref fc)] fn), (fb, tupO (List.toArray fv))]) N' (T := T) (by walk_at "m_sub") (by intro r hr; simp only [List.mem_cons, List.not_mem_nil, or_false] at hr; rcases hr with rfl | rfl | rfl <;> assumption)
        simp only [List.cons_append, List.nil_append] at N'
        simp only [List.cons_append, List.nil_append] at hoffD
        k_steps
        all_goals first
          | exact each1_end (by exact rfl) (by assumption) (by assumption) (by k_mem) (by walk_at "m_sub") (by walk_at "m_map") (strs_step hJ hk (funcT_no hl1 (by assumption)))
          | exact each1_end (by exact rfl) (by assumption) (by assumption) (by k_mem) (by walk_at "m_sub") (by walk_at "m_map") (strs_step hJ hk (funcT_ok hl1 (by assumption)))
      case eaF =>
        unfold Later2
        (with_reducible rename News _ _ _ _ => NK; rename Fr _ _ _ _ => FK; clear FK NK)
        clear hEJ
        intro u us3 n₃ h₅ tk₅ hs13 F' N'
        rw [List.take_of_length_le (by simp; omega)] at hs13
        have hl13 := strs_len hs13
        simp only [List.length_append, List.length_map] at hl13
        replace F' : Fr g L' h₅ _ := F'
        replace N' : News g L' h₅ _ := N'
        dsimp only
        k_steps
        case csT =>
          unfold Later2
          (with_reducible rename News _ _ _ _ => NK; rename Fr _ _ _ _ => FK; clear FK NK)
          intro i us v e IA oI C oC Da m₂ h₃ tk E' hk hR hC hx F' N' off ne
          obtain ⟨fk, fl, fo⟩ := e
          obtain ⟨fa, tk, t, mv, rfl, p1, hmo, h0⟩ := hR
          dsimp only at p1 hmo h0
          replace N' := news_from (more := [(fa, tupO #[.int fk tk, .int fl t, mv])]) N' (T := T) (by walk_at "m_sub") (by intro r hr; rcases List.mem_singleton.mp hr with rfl; exact p1)
          simp only [List.cons_append, List.nil_append] at N'
          (try k_unmd)
          k_fold
          k_steps
          all_goals (first | exact comp_turn (offH off) (by exact rfl) (by assumption) (by assumption) (by walk_at "m_sub") (.inr ⟨_, by k_mem, rfl, _, rfl⟩) ⟨⟨_, rfl⟩, rfl⟩)
        case csF =>
          unfold Later2
          (with_reducible rename News _ _ _ _ => NK; rename Fr _ _ _ _ => FK; clear FK NK)
          intro us4 hs4
          have hle4 := strs_len hs4
          simp only [List.length_map] at hle4
          unfold LCg.FinE
          intro b4 hh4 tkk4 F' N' q2
          have hneb4 : @Ne Nat b4 D := Ne.symm q2.1
          clear q2
          have hs14 := strs_app hs13 hs4
          dsimp only
          k_steps
          case csT =>
            unfold Later2
            (with_reducible rename News _ _ _ _ => NK; rename Fr _ _ _ _ => FK; clear FK NK)
            intro i us v e IA oI C oC Da m₂ h₃ tk E' hk hR hC hx F' N' off ne
            obtain ⟨fk, fo⟩ := e
            obtain ⟨fa, t, mv, rfl, p1, hmo, h0⟩ := hR
            dsimp only at p1 hmo h0
            replace N' := news_from (more := [(fa, tupO #[.int fk t, mv])]) N' (T := T) (by walk_at "m_sub") (by intro r hr; rcases List.mem_singleton.mp hr with rfl; exact p1)
            simp only [List.cons_append, List.nil_append] at N'
            (try k_unmd)
            k_fold
            k_steps
            all_goals (first | exact comp_turn (offH off) (by exact rfl) (by assumption) (by assumption) (by walk_at "m_sub") (.inr ⟨_, by k_mem, rfl, _, rfl⟩) ⟨⟨_, rfl⟩, rfl⟩)
          case csF =>
            unfold Later2
            (with_reducible rename News _ _ _ _ => NK; rename Fr _ _ _ _ => FK; clear FK NK)
            intro us5 hs5
            have hle5 := strs_len hs5
            simp only [List.length_map] at hle5
            unfold LCg.FinE
            intro b5 hh5 tkk5 F' N' q2
            have hneb5 : @Ne Nat b5 D := Ne.symm q2.1
            clear q2
            have hs15 := strs_app hs14 hs5
            have hl15 := strs_len hs15
            simp only [List.length_append, List.length_map] at hl15
            have hCJ : CJ (fun i us => us.length = memImps (M.imps.take i)) := trivial
            dsimp only
            k_steps
            case ct0 => (unfold Later2; simp [memImps])
            case ctT =>
              unfold Later2
              (with_reducible rename News _ _ _ _ => NK; rename Fr _ _ _ _ => FK; clear FK NK)
              clear hCJ
              intro i us v IA oI C oC Da m₂ h₃ tk E' hin hus hv hC hx F' N' off ne
              obtain ⟨im, him, hq⟩ := allV_at hv2 hv
              obtain ⟨y, dy, ny, av, j1, j2, j3, j4, d1, d2, d3, d4, e1, e2, e3, rfl, hab, hmem⟩ := mem_imp hq
              replace N' := news_from N' (T := T) (by walk_at "m_sub") hmem
              simp only [List.cons_append, List.nil_append] at N'
              (try k_unmd)
              k_fold
              k_steps
              all_goals first
                | exact comp_turn (offH off) (by exact rfl) (by assumption) (by assumption) (by walk_at "m_sub") (.inr ⟨_, by k_mem, rfl, _, rfl⟩) ⟨by rw [memImps_take him, if_pos (by assumption)]; simp [hus], rfl⟩
                | exact comp_turn (offH off) (by exact rfl) (by assumption) (by assumption) (by walk_at "m_sub") (.inr ⟨_, by k_mem, rfl, _, rfl⟩) ⟨by rw [memImps_take him, if_neg (by assumption)]; simp [hus], rfl⟩
            case ctF =>
              unfold Later2
              (with_reducible rename News _ _ _ _ => NK; rename Fr _ _ _ _ => FK; clear FK NK)
              clear hCJ
              intro usm husm
              rw [List.take_of_length_le (by simp; omega)] at husm
              have hmi := memImps_le (is := M.imps)
              unfold LCg.FinE
              intro bm hhm tkm F' N' q2
              clear q2
              rcases Nat.lt_or_ge 1 (ms.length + usm.length) with hmn | hmn
              · have hmany := fun u => strs_app hs15 (many_t1 (u := u) hl5 husm hmn)
                k_steps
                case csT =>
                  unfold Later2
                  (with_reducible rename News _ _ _ _ => NK; rename Fr _ _ _ _ => FK; clear FK NK)
                  intro i us v e IA oI C oC Da m₂ h₃ tk E' hk hR hC hx F' N' off ne
                  obtain ⟨fk, fl⟩ := e
                  obtain ⟨fa, fd, fn, fc, f2, fe, ft, j1, j2, j3, d1, d2, d3, e1, e2, rfl, p1, p2, p3, p4⟩ := hR
                  dsimp only at p1 p2
                  replace N' := news_from (more := [(fa, instObj 255 fd), (fd, dictOf [En j1 "kind" d1 (.int fk e1), En j2 "mutable" d2 (.int fl e2), En j3 "body" d3 (.ref fc)] fn)]) N' (T := T) (by walk_at "m_sub") (by intro r hr; simp only [List.mem_cons, List.not_mem_nil, or_false] at hr; rcases hr with rfl | rfl <;> assumption)
                  simp only [List.cons_append, List.nil_append] at N'
                  (try k_unmd)
                  k_fold
                  k_steps
                  all_goals (first | exact comp_turn (offH off) (by exact rfl) (by assumption) (by assumption) (by walk_at "m_sub") (.inr ⟨_, by k_mem, rfl, _, rfl⟩) ⟨⟨_, rfl⟩, rfl⟩)
                case csF =>
                  unfold Later2
                  (with_reducible rename News _ _ _ _ => NK; rename Fr _ _ _ _ => FK; clear FK NK)
                  intro us6 hs6
                  have hle6 := strs_len hs6
                  simp only [List.length_map] at hle6
                  unfold LCg.FinE
                  intro b6 hh6 tkk6 F' N' q2
                  have hneb6 : @Ne Nat b6 D := Ne.symm q2.1
                  clear q2
                  have hall := fun u => strs_app (hmany u) hs6
                  have hlall := strs_len (hall 0)
                  simp only [List.length_append, List.length_map, List.length_cons, List.length_nil] at hlall
                  have hCJ2 : CJ (fun i us => StrsAre us ((((M.kinds.map (fun p => kfText (p.1 ++ p.2)) ++ M.imps.map (fun i => importT M.kinds.length pg el i) ++ M.funcs.map (funcT M.kinds.length) ++ M.tabs.map (fun p => tableT el p) ++ M.mems.map (fun p => memT pg p) ++ [manyT M]) ++ M.globs.map (fun p => cellT p)).take i).filter (fun t => t != Str.ofString ""))) := trivial
                  dsimp only
                  k_steps
                  case ct0 => exact StrsAre.nil
                  case ctT =>
                    unfold Later2
                    (with_reducible rename News _ _ _ _ => NK; rename Fr _ _ _ _ => FK; clear FK NK)
                    clear hCJ2
                    intro i us v IA oI C oC Da m₂ h₃ tk E' hin hus hv hC hx F' N' off ne
                    obtain ⟨wy, wt, rfl, hk⟩ := strs_at (hall _) hv
                    (try k_unmd)
                    k_fold
                    k_steps
                    all_goals first
                      | exact comp_turn (offH off) (by exact rfl) (by assumption) (by assumption) (by walk_at "m_sub") (.inr ⟨_, by k_mem, rfl, _, rfl⟩) ⟨filt_keep hus hk (by assumption), rfl⟩
                      | exact comp_turn (offH off) (by exact rfl) (by assumption) (by assumption) (by walk_at "m_sub") (.inr ⟨_, by k_mem, rfl, _, rfl⟩) ⟨filt_drop hus hk (by assumption), rfl⟩
                  case ctF =>
                    unfold Later2
                    (with_reducible rename News _ _ _ _ => NK; rename Fr _ _ _ _ => FK; clear FK NK)
                    intro us hus
                    unfold LCg.FinE
                    intro r h₃ tk₃ F' N' q2
                    have ho := off1_mem q2
                    clear q2
                    rw [List.take_of_length_le (by rw [← strs_len (hall 0)]; simp)] at hus
                    k_steps
                    dsimp only
                    k_steps
                    exact h r _ _ _ _ (by walk_at "m_ext") (N' _ (.head _)).1 hus (fresh_T hg (N' _ (.head _)).2.2 fun p hp => ho p (by repeat (first | exact hp | refine List.mem_cons_of_mem _ ?_)))
              · have hmany := fun u => strs_app hs15 (many_t0 (u := u) hl5 husm hmn)
                k_steps
                case csT =>
                  unfold Later2
                  (with_reducible rename News _ _ _ _ => NK; rename Fr _ _ _ _ => FK; clear FK NK)
                  intro i us v e IA oI C oC Da m₂ h₃ tk E' hk hR hC hx F' N' off ne
                  obtain ⟨fk, fl⟩ := e
                  obtain ⟨fa, fd, fn, fc, f2, fe, ft, j1, j2, j3, d1, d2, d3, e1, e2, rfl, p1, p2, p3, p4⟩ := hR
                  dsimp only at p1 p2
                  replace N' := news_from (more := [(fa, instObj 255 fd), (fd, dictOf [En j1 "kind" d1 (.int fk e1), En j2 "mutable" d2 (.int fl e2), En j3 "body" d3 (.ref fc)] fn)]) N' (T := T) (by walk_at "m_sub") (by intro r hr; simp only [List.mem_cons, List.not_mem_nil, or_false] at hr; rcases hr with rfl | rfl <;> assumption)
                  simp only [List.cons_append, List.nil_append] at N'
                  (try k_unmd)
                  k_fold
                  k_steps
                  all_goals (first | exact comp_turn (offH off) (by exact rfl) (by assumption) (by assumption) (by walk_at "m_sub") (.inr ⟨_, by k_mem, rfl, _, rfl⟩) ⟨⟨_, rfl⟩, rfl⟩)
                case csF =>
                  unfold Later2
                  (with_reducible rename News _ _ _ _ => NK; rename Fr _ _ _ _ => FK; clear FK NK)
                  intro us6 hs6
                  have hle6 := strs_len hs6
                  simp only [List.length_map] at hle6
                  unfold LCg.FinE
                  intro b6 hh6 tkk6 F' N' q2
                  have hneb6 : @Ne Nat b6 D := Ne.symm q2.1
                  clear q2
                  have hall := fun u => strs_app (hmany u) hs6
                  have hlall := strs_len (hall 0)
                  simp only [List.length_append, List.length_map, List.length_cons, List.length_nil] at hlall
                  have hCJ2 : CJ (fun i us => StrsAre us ((((M.kinds.map (fun p => kfText (p.1 ++ p.2)) ++ M.imps.map (fun i => importT M.kinds.length pg el i) ++ M.funcs.map (funcT M.kinds.length) ++ M.tabs.map (fun p => tableT el p) ++ M.mems.map (fun p => memT pg p) ++ [manyT M]) ++ M.globs.map (fun p => cellT p)).take i).filter (fun t => t != Str.ofString ""))) := trivial
                  dsimp only
                  k_steps
                  case ct0 => exact StrsAre.nil
                  case ctT =>
                    unfold Later2
                    (with_reducible rename News _ _ _ _ => NK; rename Fr _ _ _ _ => FK; clear FK NK)
                    clear hCJ2
                    intro i us v IA oI C oC Da m₂ h₃ tk E' hin hus hv hC hx F' N' off ne
                    obtain ⟨wy, wt, rfl, hk⟩ := strs_at (hall _) hv
                    (try k_unmd)
                    k_fold
                    k_steps
                    all_goals first
                      | exact comp_turn (offH off) (by exact rfl) (by assumption) (by assumption) (by walk_at "m_sub") (.inr ⟨_, by k_mem, rfl, _, rfl⟩) ⟨filt_keep hus hk (by assumption), rfl⟩
                      | exact comp_turn (offH off) (by exact rfl) (by assumption) (by assumption) (by walk_at "m_sub") (.inr ⟨_, by k_mem, rfl, _, rfl⟩) ⟨filt_drop hus hk (by assumption), rfl⟩
                  case ctF =>
                    unfold Later2
                    (with_reducible rename News _ _ _ _ => NK; rename Fr _ _ _ _ => FK; clear FK NK)
                    intro us hus
                    unfold LCg.FinE
                    intro r h₃ tk₃ F' N' q2
                    have ho := off1_mem q2
                    clear q2
                    rw [List.take_of_length_le (by rw [← strs_len (hall 0)]; simp)] at hus
                    k_steps
                    dsimp only
                    k_steps
                    exact h r _ _ _ _ (by walk_at "m_ext") (N' _ (.head _)).1 hus (fresh_T hg (N' _ (.head _)).2.2 fun p hp => ho p (by repeat (first | exact hp | refine List.mem_cons_of_mem _ ?_)))
end
theorem rows_CH_1 : True := by
  k_with_none
  trivial
/-! the same ground, while an exception is being handled -/
/-- the exception that is being handled, if any, stands at the ground and has no context -/
def HandF (hd : Option Value) (g : Heap) : Prop := hd = none ∨ ∃ e oe vs, hd = some (.ref e) ∧ g.get? e = some oe ∧ oe.data = .fields vs ∧ vs[2]? = some .none
theorem HandF.keeps {hd : Option Value} {g g' : Heap} (h : HandF hd g) (k : ∀ b o, g.get? b = some o → g'.get? b = some o) : HandF hd g' := h.imp_right fun ⟨e, oe, vs, h1, h2, h3⟩ => ⟨e, oe, vs, h1, k _ _ h2, h3⟩
theorem entry_unchain : entryFor table "proto.unchain" = some Builtin.«proto.unchain» := entryFor_of_fast (by kernel_rfl)
section
variable {prog : Program} {w : World} {A : Around} {E : Value → Shared → Prop} {s : Shared}
theorem raise_h {α : Type} {e a : Addr} {oe oa : Obj} {vs us : Array Value} {Q : α → Shared → Prop} (hh : A.handled = some (.ref e)) (he : s.heap.get? e = some oe) (hd : oe.data = .fields vs) (h2 : vs[2]? = some .none) (hne : e ≠ a) (ha : s.heap.get? a = some oa) (hda : oa.data = .fields us) (hsz : 2 < us.size)
    (h : E (.ref a) { s with heap := s.heap.update a (Obj.mapFields (·.setIfInBounds 2 (.ref e))) }) : wpAny (model prog w) A (raiseNew (.ref a) : Sem α) Q E s := by
  simp only [raiseNew]
  refine wpAny_bind (wpAny_handled ?_)
  rw [hh]
  dsimp only
  rw [if_pos (show (Value.ref e != Value.ref a) = true from by simpa using hne)]
  refine wpAny_bind (wpAny_holding (wpAny_runValue (codeAny_builtin entry_unchain ?_)))
  show wpAny _ _ (field (.ref e) 2 >>= _) _ _ s
  refine wpAny_bind (wpAny_field he hd h2 ?_)
  rw [if_pos (show (Value.none == Value.none) = true from rfl)]
  refine wpAny_pure (wpAny_bind ?_)
  show wpAny _ _ (setField (.ref a) 2 (.ref e)) _ _ s
  exact wpAny_setField (i := 2) ha hda hsz (wpAny_throw h)
theorem pn_end_h {e : Addr} {oe : Obj} {vs : Array Value} {it l : Addr} {i : Nat} {items : Array Value} {Q : Option Value → Shared → Prop} (hh : A.handled = some (.ref e)) (he : s.heap.get? e = some oe) (hde : oe.data = .fields vs) (h2 : vs[2]? = some .none) (hei : e ≠ it)
    (hit : s.heap.IsListIter it l i) (hl : s.heap.IsList l items) (hx : items[i]? = none)
    (hQ : ∀ h', Heap.ExtBut it s.heap h' → Q none { s with heap := h' }) : wpAny (model prog w) A (pyNext (.ref it)) Q E s := by
  obtain ⟨o, ho, hc, hd⟩ := id hit
  obtain ⟨ol, hol, _, nl, hdl⟩ := hl
  unfold pyNext
  refine wpAny_bind (wpAny_attempt (wpAny_callSpecial?_slot (name := Str.ofString "__next__") hit.typeIs slot_listiter_next
    (wpAny_call_entry slot_listiter_next hit.typeIs entry_listiter_next ?_ (args_listiter_next _))))
  show wpAny _ _ (field (.ref it) 0 >>= _) _ _ s
  refine wpAny_bind (wpAny_field ho hd (x := .ref l) rfl ?_)
  show wpAny _ _ (if (Value.ref l == Value.none) = true then _ else _) _ _ s
  rw [if_neg (show ¬ ((Value.ref l == Value.none) = true) from Bool.false_ne_true)]
  show wpAny _ _ (field (.ref it) 1 >>= _) _ _ s
  refine wpAny_bind (wpAny_field ho hd (x := .int i 0) rfl ?_)
  show wpAny _ _ (seqItems? (.ref l) >>= _) _ _ s
  refine wpAny_bind (wpAny_seqItems hol hdl ?_)
  simp only [Int.toNat_natCast, hx]
  refine wpAny_bind (wpAny_rule (wpAny_bind (wpAny_setField ho hd (by simp) ?_)))
  show wpAny _ _ (newExc (.type "StopIteration") [] >>= _) _ _ _
  refine wpAny_bind ?_
  simp only [newExc, newTuple]
  refine wpAny_bind (wpAny_newObj_type ?_ (by size_fits))
  refine wpAny_bind (m := firstArgMember _ _) (wpAny_of_eq (a := Value.none) (by first | rfl | (simp only [firstArgMember]; rfl)) ?_)
  refine wpAny_newObj_type ?_ (by size_fits)
  have up1 : ∀ {b : Addr} {o : Obj}, b ≠ it → s.heap.get? b = some o → ((s.heap.update it (Obj.mapFields (·.setIfInBounds 0 Value.none))).push { cls := .type "tuple", data := .seq ([] : List Value).toArray }).get? b = some o := fun hb hg =>
    Heap.get?_push_of_some _ ((Heap.get?_update_other _ _ (Ne.symm hb)).trans hg)
  refine raise_h (e := e) (oe := oe) (vs := vs) (show A.in1.handled = _ from hh) (Heap.get?_push_of_some _ (up1 hei he)) hde h2 (Nat.ne_of_lt (Heap.lt_size (up1 hei he))) (Heap.get?_push_size _ rfl) rfl (by rw [Array.size_append]; exact Nat.lt_of_lt_of_le (show 2 < 6 by decide) (Nat.le_add_right _ _)) ?_
  refine wpAny_bind (wpAny_isInstance (T := "StopIteration") (b := true) ⟨_, Heap.get?_update_self _ (Heap.get?_push_size _ rfl) rfl, rfl⟩ isSubtype_stop ?_)
  refine wpAny_pure (hQ _ fun b o hb hg => ?_)
  exact (Heap.get?_update_other _ _ (Ne.symm (Nat.ne_of_lt (Heap.lt_size (up1 hb hg))))).trans (Heap.get?_push_of_some _ (up1 hb hg))
theorem walks_h {e I ax : Addr} {oe : Obj} {vs : Array Value} (hh : A.handled = some (.ref e)) (hde : oe.data = .fields vs) (h2 : vs[2]? = some .none) (hne : ax ≠ I) (hei : e ≠ I) (items : Array Value) :
    Walks prog w A I [I, ax, e] [I] items.size (fun i v => items[i]? = some v) (fun i h => h.IsListIter I ax i ∧ h.IsList ax items ∧ h.get? e = some oe) where
  sub := fun b hb => by simp at hb; simp [hb]
  frame := fun _ _ _ st hk => ⟨st.1.at fun o e => hk I (by simp) o e, st.2.1.at fun o e => hk ax (by simp) o e, hk e (by simp) _ st.2.2⟩
  item := fun i s Q E hi st hQ => by
    refine wpAny_pyNext_list_item st.1 st.2.1 (x := items[i]) (by simp [hi]) fun h' hit' hs' => ?_
    exact hQ _ h' s.toks (by simp [hi]) ⟨hit', st.2.1.extBut hs'.extBut hne, hs'.extBut e _ hei st.2.2⟩ fun b o hb e => hs'.extBut b o (fun h => hb (by simp [h])) e
  done := fun s Q E st hQ => pn_end_h hh st.2.2 hde h2 hei st.1 st.2.1 (by simp) fun h' he' => hQ h' s.toks fun b o hb e => he' b o (fun h => hb (by simp [h])) e
  self := fun _ _ _ _ st hQ => wpAny_pyIter_listiter st.1 hQ
end
section
variable {prog : Program} {w : World} {A : Around} {E : Value → Shared → Prop} {s : Shared} {h₀ : Heap} {L : Addr} {m : Str → Option Value} {env : Env} {elt iter : Expr} {x : Str} {px : Pos} {scope : Scope} {cl : List (Str × Addr)} {pos : Pos}
def CompSrcH (prog : Program) (w : World) (A : Around) (h₀ : Heap) (L : Addr) (m : Str → Option Value) (env : Env) (elt : Expr) (x : Str) (scope : Scope) (cl : List (Str × Addr)) (Fin : Shared → List Value → List (Addr × Obj) → Prop) (xv : Value) (s₁ : Shared) : Prop :=
  ∃ ax its k news, xv = .ref ax ∧ HandF A.handled h₀ ∧ Fr h₀ L s₁.heap m ∧ News h₀ L s₁.heap news ∧ (ax, listOf its k) ∈ news ∧ its.size ≤ sizeLine ∧
    ∀ s₂ : Shared, (∃ h, s₂ = { s₁ with heap := h }) → LCg.CompRest prog w A h₀ L m env elt x scope cl s₂ (LCg.SrcAt h₀ ax its) (fun i v => its[i]? = some v) (Fin s₂) its.size 0 [] news
theorem CompSrcH.mk {Fin : Shared → List Value → List (Addr × Obj) → Prop} {ax : Addr} {its : Array Value} {k : Nat} {news : List (Addr × Obj)} {s₁ : Shared} (hh : HandF A.handled h₀) (F : Fr h₀ L s₁.heap m) (N : News h₀ L s₁.heap news) (hm : (ax, listOf its k) ∈ news) (hsz : its.size ≤ sizeLine)
    (h : ∀ g, LCg.CompRest prog w A h₀ L m env elt x scope cl { s₁ with heap := g } (LCg.SrcAt h₀ ax its) (fun i v => its[i]? = some v) (Fin { s₁ with heap := g }) its.size 0 [] news) :
    CompSrcH prog w A h₀ L m env elt x scope cl Fin (.ref ax) s₁ := ⟨ax, its, k, news, rfl, hh, F, N, hm, hsz, fun _ ⟨g, e⟩ => e ▸ h g⟩
theorem ListComp_H {Q : Value → Shared → Prop} (_F₀ : Fr h₀ L s.heap m) (hclos : closureFor scope env = pure cl) (hcell : ∀ y ∈ scope.names, y.2 ≠ .cell) (hkind : scope.kind = .function)
    (hnames : ∀ y ∈ scope.names, y.2 = .local → scope.names.lookup y.1 = some .local) (hx : scope.names.lookup x = some .local)
    (h : wpAny (model prog w) A (eval iter env) (CompSrcH prog w A h₀ L m env elt x scope cl (fun s₂ => LCg.FinE h₀ L m s₂ Q)) E s)
    (hs : ∀ x, foldedSetIterable iter env x = pure x := by intro _; rfl) :
    wpAny (model prog w) A (eval (.ListComp elt [⟨.Name x px, iter, [], 0⟩] scope pos) env) Q E s := by
  rw [eval_ListComp]
  refine wpAny_comprehension_free (use := none) rfl hs hclos hkind hnames (wpAny_mono h (fun xv s₁ h₁ => ?_) fun _ _ e => e)
  obtain ⟨ax, its, k, news, rfl, hH, F, N, hm, hsz, R⟩ := h₁
  have S : LCg.SrcAt h₀ ax its news := .inr ⟨_, hm, rfl, _, rfl⟩
  have hl := S.list F.keep N
  have hlt : ax < s₁.heap.objs.size := by obtain ⟨_, e, _⟩ := hl; exact Heap.lt_size e
  refine wpAny_pyIter_list hl ?_
  have up : ∀ b o, s₁.heap.get? b = some o → (s₁.heap.push { cls := .type "list_iterator", data := .fields #[.ref ax, .int 0 0] }).get? b = some o := fun b o e => Heap.get?_push_of_some _ e
  have fin : ∀ D C h tk m' ys news', Fr h₀ L h m → News h₀ L h ((D, LCg.lst ys) :: news') → LCg.Off1 D news' → h.Ns C m' → h₀.get? C = none → h₀.get? D = none → C ≠ L → D ≠ L → C ≠ D → (∀ p ∈ news', p.1 ≠ C) → LCg.FinE h₀ L m { s₁ with heap := s₁.heap.push { cls := .type "list_iterator", data := .fields #[.ref ax, .int 0 0] } } Q ys news' →
      ∃ m', h.Ns C m' ∧ ∀ h'', Heap.SameBut C h h'' → Q (.ref D) { s₁ with heap := h'', toks := tk } := by
    intro D C h tk m' ys news' F' N' o1 hn hC₀ hD₀ hCL hDL hCD offC fin
    refine ⟨m', hn, fun h'' hs'' => fin D h'' tk (F'.change hs'' hCL hC₀) (fun p hp => ?_) o1⟩
    refine ⟨hs''.extBut _ _ ?_ (N' p hp).1, (N' p hp).2⟩
    rcases List.mem_cons.mp hp with rfl | hp
    · exact Ne.symm hCD
    · exact offC p hp
  rcases hH with hh | ⟨e, oe, vs, hh, he, hde, h2⟩
  · refine LCg.block_U (Walks.list hh s₁.heap.objs.size ax (Nat.ne_of_lt hlt) its) hsz (fun i h st => by obtain ⟨o, e, _⟩ := st.1; exact ⟨o, e⟩) LCg.list_st hcell hkind hx ⟨⟨_, Heap.get?_push_size _ rfl, rfl, rfl⟩, hl.push _⟩ (fun b hb => ?_)
      (F.keeps up) (N.grown up) (Nat.ne_of_lt F.ns.lt) (next_is_new F) (fun p hp => Nat.ne_of_lt (Heap.lt_size (N p hp).1)) S (R _ ⟨_, rfl⟩) fin
    show b < (s₁.heap.push _).objs.size
    rw [Heap.size_push]
    rcases List.mem_cons.mp hb with rfl | hb
    · exact Nat.lt_succ_self _
    · rw [List.mem_singleton.mp hb]; exact Nat.lt_succ_of_lt hlt
  · have he₁ := F.keep _ _ he
    have hlte := Heap.lt_size he₁
    refine LCg.block_U (walks_h hh hde h2 (Nat.ne_of_lt hlt) (Nat.ne_of_lt hlte) its) hsz (fun i h st => by obtain ⟨o, e, _⟩ := st.1; exact ⟨o, e⟩)
      (fun i h h' o nw st e1 e2 k' N' S' => ⟨(LCg.list_st i h h' o nw ⟨st.1, st.2.1⟩ e1 e2 k' N' S').1, (LCg.list_st i h h' o nw ⟨st.1, st.2.1⟩ e1 e2 k' N' S').2, k' _ _ he⟩) hcell hkind hx ⟨⟨_, Heap.get?_push_size _ rfl, rfl, rfl⟩, hl.push _, up _ _ he₁⟩ (fun b hb => ?_)
      (F.keeps up) (N.grown up) (Nat.ne_of_lt F.ns.lt) (next_is_new F) (fun p hp => Nat.ne_of_lt (Heap.lt_size (N p hp).1)) S (R _ ⟨_, rfl⟩) fin
    show b < (s₁.heap.push _).objs.size
    rw [Heap.size_push]
    rcases List.mem_cons.mp hb with rfl | hb
    · exact Nat.lt_succ_self _
    · rcases List.mem_cons.mp hb with rfl | hb
      · exact Nat.lt_succ_of_lt hlt
      · rw [List.mem_singleton.mp hb]; exact Nat.lt_succ_of_lt hlte
end
/-- as At: the ground on which a call stands; lv: the room that is left -/
structure AtH (lv : Nat) (w : World) (mean : ExcName → Option Value) (mg mb : Str → Option Value) (A : Around) (base : Heap) (outer : List Env) (G h : Heap) : Prop where
  X : (Mine.heapK w.params).In base
  T : Top Mine.viewK (looseW Mine.viewK [Str.ofString "KIND_NAMES", Str.ofString "HEAP_NAMES"]) mean mg mb base
  B : Below A base outer G
  stays : G.StaysIn h
  hand : HandF A.handled G
  dep : A.depth + lv < 900
  un : A.units + 10 * lv < 9000

theorem AtH.ground {lv : Nat} {w : World} {mean : ExcName → Option Value} {mg mb : Str → Option Value} {A : Around} {base G h : Heap} {outer : List Env} (C : AtH lv w mean mg mb A base outer G h)
    {led : List (Addr × Obj)} (hl : ∀ q ∈ led, h.get? q.1 = some q.2 ∧ G.get? q.1 = none) : Below A base outer (hideAll h (led.map (·.1))) := by
  have nm : ∀ b o, G.get? b = some o → b ∉ led.map (·.1) := fun b o e q => by
    obtain ⟨p, hp, rfl⟩ := List.mem_map.mp q
    rw [(hl p hp).2] at e; cases e
  have st : G.StaysIn (hideAll h (led.map (·.1))) := fun b o e => hideAll_get _ (C.stays b o e) (nm b o e)
  exact ⟨C.B.stack, fun b o e => st b o (C.B.stays b o e), C.B.frames.of_keeps fun b o e _ => ⟨o, st b o e, rfl⟩⟩

/-- as Hr: within a def: what does not hang on the heap of the moment -/
structure HrH (lv : Nat) (w : World) (mean : ExcName → Option Value) (mg mb : Str → Option Value) (A₀ A : Around) (base : Heap) (outer : List Env) (env : Env) (g : Heap) (L : Addr) : Prop where
  X : (Mine.heapK w.params).In base
  T : Top Mine.viewK (looseW Mine.viewK [Str.ofString "KIND_NAMES", Str.ofString "HEAP_NAMES"]) mean mg mb base
  B : Below A₀ base outer g
  frames : A.frames = some (env :: outer)
  fr : env.frame = some L
  kind : env.scope.kind = .function
  hand : HandF A.handled g
  dep : A.depth + lv < 900
  un : A.units + 10 * lv < 9000

theorem HrH.at {lv k : Nat} {w : World} {mean : ExcName → Option Value} {mg mb : Str → Option Value} {A₀ A : Around} {base : Heap} {outer : List Env} {env : Env} {g h : Heap} {L : Addr} {m : Str → Option Value} {led : List (Addr × Obj)}
    (H : HrH lv w mean mg mb A₀ A base outer env g L) (F : Fr g L h m) (N : News g L h led) (hk : k ≤ lv) : AtH k w mean mg mb A base (env :: outer) (hideAll h (led.map (·.1))) h := by
  let s : Shared := { heap := h }
  obtain ⟨_, B, _⟩ := groundX (s := s) (R := fun _ _ => True) H.B F N H.frames H.fr H.kind
  exact ⟨H.X, H.T, B, fun b o e => of_hideAll _ e, H.hand.keeps (fun b o e => hideAll_get _ (F.keep b o e) (fun hm => by
    obtain ⟨p, hp, rfl⟩ := List.mem_map.mp hm
    rw [(N p hp).2.2] at e; cases e)), by have := H.dep; omega, by have := H.un; omega⟩

section
variable {lv : Nat} {w : World} {mean : ExcName → Option Value} {mg mb : Str → Option Value} {A : Around} {base G : Heap} {outer : List Env} {s : Shared} {led : List (Addr × Obj)} {R : Result → Shared → Prop}
  {name qual : Str} {params : Arguments} {body : List Stmt} {scope : Scope} {dV kV doc pm cdv ct oc : Value} {an od : Option Addr} {osl : Array (Option Value)} {f : Addr} {args : Args} {binds : List (Str × Value)}
theorem enterH (led : List (Addr × Obj)) (binds : List (Str × Value)) (C : AtH (lv + 1) w mean mg mb A base outer G s.heap) (hlv : 10 ≤ lv) (hl : ∀ q ∈ led, s.heap.get? q.1 = some q.2 ∧ G.get? q.1 = none)
    (ho : (Mine.heapK w.params).lookup f = some ⟨oc, od, .func (fnOf name qual params body scope dV kV doc pm an cdv ct), osl⟩) (hcd : codeIn (Mine.heapK w.params) cdv qual = true)
    (hbind : BindsTo s (fnOf name qual params body scope dV kV doc pm an cdv ct) args binds) (hloc : ∀ y ∈ binds, scope.names.lookup y.1 = some .local)
    (hco : scope.isCoroutine = false) (hgen : scope.isGenerator = false) (hk : scope.kind = .function) (hcell : ∀ x ∈ scope.names, x.2 ≠ .cell)
    (h : ∀ g L' h₁, g = hideAll s.heap (led.map (·.1)) → AllLt L' led → Fr g L' h₁ (fun y => binds.reverse.lookup y) → News g L' h₁ led → (Mine.heapK w.params).In g → Top Mine.viewK (looseW Mine.viewK [Str.ofString "KIND_NAMES", Str.ofString "HEAP_NAMES"]) mean mg mb g →
      HrH lv w mean mg mb A (A.deeper (envOf qual scope L' f cdv)) base outer (envOf qual scope L' f cdv) g L' → A.depth < 890 → A.units < 8900 → HandF A.handled g →
      wpAny (model PySem.Challenge.pw_nm0133_01 w) (A.deeper (envOf qual scope L' f cdv)) (execs body (envOf qual scope L' f cdv))
        (fun fl s' => R (.ok (.ret (match fl with | .ret v => v | _ => .none))) s')
        (fun e s' => wpAny (model PySem.Challenge.pw_nm0133_01 w) (A.deeper (envOf qual scope L' f cdv)) (leaving (envOf qual scope L' f cdv) e) (fun _ s'' => R (.error e) s'') (fun e' s'' => R (.error e') s'') s')
        { s with heap := h₁, toks := s.toks + binds.length }) : codeAny (model PySem.Challenge.pw_nm0133_01 w) A (.call (.ref f) args) R s := by
  have hB := C.ground hl
  have sb : base.StaysIn s.heap := fun b o e => C.stays b o (C.B.stays b o e)
  have hX : (Mine.heapK w.params).In s.heap := C.X.keeps sb
  have hH : HandF A.handled (hideAll s.heap (led.map (·.1))) := C.hand.keeps fun b o e => hideAll_get _ (C.stays b o e) fun hm => by
    obtain ⟨p, hp, rfl⟩ := List.mem_map.mp hm
    rw [(hl p hp).2] at e; cases e
  have hroom : A.depth < recursionLimit := by have := C.dep; simp only [recursionLimit]; omega
  refine codeAny_call_def (fd := fnOf name qual params body scope dV kV doc pm an cdv ct) (body := body) (binds := binds) hroom (hX _ _ ho) rfl (C.T.nolimit.keeps sb) (codeRec_of hX hcd) rfl hbind hcell hloc (fun h₁ hns hk₁ => ?_) hco hgen hk
  refine h _ s.heap.objs.size h₁ rfl (allLt_of fun p hp => Heap.lt_size (hl p hp).1) ⟨hns, fun b o e => hk₁ b o (of_hideAll _ e), Nat.le_of_eq (hideAll_size _ _)⟩
    (fun p hp => ⟨hk₁ _ _ (hl p hp).1, Nat.ne_of_lt (Heap.lt_size (hl p hp).1), hideAll_none _ (List.mem_map_of_mem hp)⟩) (C.X.keeps hB.stays) (C.T.keeps hB.stays)
    ⟨C.X, C.T, hB, Around.frames_deeper hB.stack, rfl, hk, hH, ?_, ?_⟩ (by have := C.dep; omega) (by have := C.un; omega) hH
  · have := C.dep; simp only [depth_deeper]; omega
  · have := C.un; simp only [Around.deeper_units]; omega
end
theorem At.toH {lv : Nat} {w : World} {mean : ExcName → Option Value} {mg mb : Str → Option Value} {A : Around} {base G h : Heap} {outer : List Env} (C : At lv w mean mg mb A base outer G h) : AtH lv w mean mg mb A base outer G h := ⟨C.X, C.T, C.B, C.stays, .inl C.hand, C.dep, C.un⟩
theorem Hr.toH {lv : Nat} {w : World} {mean : ExcName → Option Value} {mg mb : Str → Option Value} {A₀ A : Around} {base g : Heap} {outer : List Env} {env : Env} {L : Addr} (H : Hr lv w mean mg mb A₀ A base outer env g L) : HrH lv w mean mg mb A₀ A base outer env g L := ⟨H.X, H.T, H.B, H.frames, H.fr, H.kind, .inl H.hand, H.dep, H.un⟩
theorem rows_C26_1 : True := by
  k_with_none
  k_with "call ref" => (k_here; (with_reducible show wpAny _ _ (call (Value.ref 105) [Value.bool _, Value.str _ _]) _ _ _); k_dflt (refine' want_use ?H ?F ?N ?lv ?_ ?_; (case H => assumption); (case F => k_asm); (case N => k_asm); (case lv => decide)))
  k_with "leaving ref" => (k_here; k_dflt (refine' leave_thr (by exact Hr.frames (by assumption)) rfl (.inr rfl) ?R ?hE ?hL ?hin ?_; (case R => assumption); (case hE => walk_at "m_ext"); (case hL => exact frame_none (by assumption) (by assumption)); (case hin => assumption)); intro h'ᵣ R'ᵣ)
  k_with "call builtin:len" => (k_here; (with_reducible show wpAny _ _ (call (Value.builtin _) [Value.ref _]) _ _ _); k_dflt (refine' my_len ?N ?m ?l ?_; (case N => k_asm); (case m => k_mem); (case l => ((have hLX := AllV.length (by assumption)); omega))))
  trivial
/-! the plain form of a module, as data -/
abbrev intsD (ks : List Int) : Dat := .tuple (ks.map .int)
def kindD (x : List Int × List Int) : Dat := .tuple [intsD x.1, intsD x.2]
def optD : Option Int → Dat
  | none => .none
  | some k => .int k
def tabD (x : Int × Int × Option Int) : Dat := .tuple [.int x.1, .int x.2.1, optD x.2.2]
def memD (x : Int × Option Int) : Dat := .tuple [.int x.1, optD x.2]
def cellD (x : Int × Int) : Dat := .tuple [.int x.1, .int x.2]
def aboutD : Imp → Dat
  | .fn i => .int i
  | .odd i => .int i
  | .tab k l mo => tabD (k, l, mo)
  | .mem l mo => memD (l, mo)
  | .cell k mu => cellD (k, mu)
def impD (i : Imp) : Dat := .tuple [.str (Str.ofString "h"), .str i.nm, .int i.sort, aboutD i]
def funcD (x : Int × List Int) : Dat := .tuple [.int x.1, intsD x.2, .tuple []]
def globD (x : Int × Int) : Dat := .tuple [.int x.1, .int x.2, .tuple [.tuple [.int 11]]]
def modD (M : Mod) : Dat := .tuple [.tuple (M.kinds.map kindD), .tuple (M.imps.map impD), .tuple (M.funcs.map funcD), .tuple (M.tabs.map tabD), .tuple (M.mems.map memD), .tuple (M.globs.map globD), .tuple [], .none, .tuple [], .tuple [], .tuple []]
theorem ints_dat {T : List (Addr × Obj)} {vs : List Value} {ks : List Int} (h : IntsAre vs ks) : DatAll T vs (ks.map .int) := by
  induction h with
  | nil => exact .nil
  | cons k t _ ih => exact .cons (.int k t) ih
theorem most_dat {T : List (Addr × Obj)} {v : Value} {d : Option Int} (h : MostIs v d) : DatIn T v (optD d) := by
  rcases h with ⟨rfl, rfl⟩ | ⟨i, t, rfl, rfl, _⟩
  · exact .none
  · exact .int i t
theorem all_dat {α : Type} {T : List (Addr × Obj)} {R : Value → α → Prop} {f : α → Dat} (hR : ∀ v x, R v x → DatIn T v (f x)) {vs : List Value} {xs : List α} (h : AllV R vs xs) : DatAll T vs (xs.map f) := by
  induction h with
  | nil => exact .nil
  | cons r _ ih => exact .cons (hR _ _ r) ih
theorem kind_dat {T : List (Addr × Obj)} {v : Value} {x : List Int × List Int} (h : KindV (Mem T) v x) : DatIn T v (kindD x) := by
  obtain ⟨a, b, c, vs, us, rfl, p1, p2, i1, _, p3, i2, _⟩ := h
  exact .tuple (vs := [.ref b, .ref c]) p1 (.cons (.tuple p2 (ints_dat i1)) (.cons (.tuple p3 (ints_dat i2)) .nil))
theorem tab_dat {T : List (Addr × Obj)} {v : Value} {x : Int × Int × Option Int} (h : TabV (Mem T) v x) : DatIn T v (tabD x) := by
  obtain ⟨a, tk, t, mv, rfl, p1, hm, _⟩ := h
  exact .tuple (vs := [.int x.1 tk, .int x.2.1 t, mv]) p1 (.cons (.int _ _) (.cons (.int _ _) (.cons (most_dat hm) .nil)))
theorem mem_dat {T : List (Addr × Obj)} {v : Value} {x : Int × Option Int} (h : MemV (Mem T) v x) : DatIn T v (memD x) := by
  obtain ⟨a, t, mv, rfl, p1, hm, _⟩ := h
  exact .tuple (vs := [.int x.1 t, mv]) p1 (.cons (.int _ _) (.cons (most_dat hm) .nil))
theorem cell_dat {T : List (Addr × Obj)} {v : Value} {x : Int × Int} (h : CellV (Mem T) v x) : DatIn T v (cellD x) := by
  obtain ⟨a, tk, t, rfl, p1⟩ := h
  exact .tuple (vs := [.int x.1 tk, .int x.2 t]) p1 (.cons (.int _ _) (.cons (.int _ _) .nil))
theorem about_dat {T : List (Addr × Obj)} {v : Value} {i : Imp} (h : AbV (Mem T) v i) : DatIn T v (aboutD i) := by
  cases i with
  | fn i => obtain ⟨_, t, rfl⟩ := h; exact .int _ _
  | odd i => obtain ⟨t, rfl⟩ := h; exact .int _ _
  | tab k l mo => exact tab_dat h
  | mem l mo => exact mem_dat h
  | cell k mu => exact cell_dat h
/-- things of a call's own, or at the places that it was handed -/
def NewT (T : List (Addr × Obj)) (h h' : Heap) (nt : List (Addr × Obj)) : Prop := ∀ p ∈ nt, h'.get? p.1 = some p.2 ∧ (h.get? p.1 = none ∨ p.1 ∈ T.map (·.1))
theorem newT_of {g h h' : Heap} {L : Addr} {T led : List (Addr × Obj)} (hg : g = hideAll h (T.map (·.1))) (N : News g L h' led) : NewT T h h' led := fun p hp => by
  refine ⟨(N p hp).1, ?_⟩
  by_cases hm : p.1 ∈ T.map (·.1)
  · exact .inr hm
  · refine .inl ?_
    cases q : h.get? p.1 with
    | none => rfl
    | some o =>
      have z := (N p hp).2.2
      subst hg
      rw [hideAll_get _ q hm] at z; cases z
theorem newT_news {h h' g : Heap} {L : Addr} {m : Str → Option Value} {T led nt : List (Addr × Obj)} (F : Fr g L h m) (N : News g L h led) (x : Ext h h') (hn : NewT T h h' nt) (hs : ∀ p ∈ T, p ∈ led) : News g L h' (led ++ nt) := fun p hp => by
  rcases (List.mem_append.mp hp).symm with hp | hp
  · obtain ⟨h1, h2⟩ := hn p hp
    rcases h2 with h2 | h2
    · refine ⟨h1, fun e => ?_, ?_⟩
      · obtain ⟨oL, _, _, z, _⟩ := F.ns
        have e' : p.1 = L := e
        rw [e', z] at h2; cases h2
      · cases z : g.get? p.1 with
        | none => rfl
        | some o => have := F.keep _ _ z; rw [h2] at this; cases this
    · obtain ⟨q, hq, e⟩ := List.mem_map.mp h2
      have z := N q (hs q hq)
      have e' : q.1 = p.1 := e
      rw [e'] at z
      exact ⟨h1, z.2⟩
  · exact news_ext N x p hp
/-- the things lie off what the ledger holds beyond T -/
def NtOff (nt led T : List (Addr × Obj)) : Prop := ∀ p ∈ nt, ∀ q ∈ led, (∀ t ∈ T, @Ne Nat t.1 q.1) → @Ne Nat p.1 q.1
theorem newT_off {h h' g : Heap} {L : Addr} {T led nt : List (Addr × Obj)} (N : News g L h led) (hn : NewT T h h' nt) : NtOff nt led T := fun p hp q hq ht e => by
  have e' : p.1 = q.1 := e
  rcases (hn p hp).2 with h2 | h2
  · rw [e', (N q hq).1] at h2; cases h2
  · obtain ⟨t, h3, e3⟩ := List.mem_map.mp h2
    exact ht t h3 (e3.trans e')
local macro_rules | `(tactic| walk_at "m_sub") => `(tactic| (intro pX hX; repeat (first | exact hX | refine List.mem_cons_of_mem _ ?_ | exact List.mem_append_left _ hX | refine List.mem_append_right _ ?_)))
theorem rows_C26_3 : True := by
  k_with "call type:tuple" => (k_here; (with_reducible show wpAny _ _ (call (Value.type _) [Value.ref _]) _ _ _); k_dflt (refine' kde_tupleOf ?k1 ?k2 ?k3 ?k4 rfl ?_; (case k1 => k_asm); (case k2 => k_asm); (case k3 => exact News.isList (by k_asm) (by k_mem)); (case k4 => first | exact Nat.le_of_ble_eq_true rfl | (simp only [List.size_toArray]; omega))); intro D'ᵣ h'ᵣ F'ᵣ N'ᵣ l1; clear l1; (try k_sweep))
  k_with "call type:tuple" => (k_here; (with_reducible show wpAny _ _ (call (Value.type _) [Value.ref _]) _ _ _); k_dflt (refine' call_tuple_tup ?k3 ?_; (case k3 => exact News.isTup (by k_asm) (by k_mem))))
  trivial
section
variable {w : World} {mean : ExcName → Option Value} {mg mb : Str → Option Value} {A A₀ : Around} {base G g : Heap} {outer l : List Env} {env : Env} {s : Shared} {Q E : Value → Shared → Prop} {L : Addr} {m : Str → Option Value} {led : List (Addr × Obj)} {o : Obj}

theorem led_sub {T : List (Addr × Obj)} {h : Heap} (N : News g L h led) (hs : ∀ p ∈ T, p ∈ led) : ∀ p ∈ T, h.get? p.1 = some p.2 ∧ (hideAll h (led.map (·.1))).get? p.1 = none := fun p hp => led_T N p (hs p hp)
set_option maxHeartbeats 8000000 in
theorem ipl_ok {y : Addr} {i : Imp} {T : List (Addr × Obj)} (C : AtH 40 w mean mg mb A base outer G s.heap) (hT : ∀ p ∈ T, s.heap.get? p.1 = some p.2 ∧ G.get? p.1 = none)
    (hI : ImpV (Mem T) (.ref y) i) (h : ∀ r nt h' tk', Ext s.heap h' → NewT T s.heap h' nt → DatIn nt (.ref r) (impD i) → Q (.ref r) { s with heap := h', toks := tk' }) :
    wpAny (model PySem.Challenge.pw_nm0133_01 w) A (call (.ref 196) [.ref y]) Q E s := by
  obtain ⟨hd0, dp, fr, gd, un⟩ := A
  obtain rfl : fr = some outer := C.B.stack
  refine wpAny_call ?_
  refine' enterH T [(Str.ofString "self", .ref y)] C (by decide) hT ?k6 ?k7 ?k9 ?kB ?c2 ?c3 ?c4 ?c5 ?_
  walk_at "m_in"
  intro g L' h₁ hg hlt F' N' X' T' H hd hu hA
  have B' := H.B
  clear C
  obtain ⟨y', dy, ny, av, j1, j2, j3, j4, d1, d2, d3, d4, e1, e2, e3, ey, hab, hmem⟩ := mem_imp hI
  cases ey
  replace N' := news_from N' (T := T) (by walk_at "m_sub") hmem
  simp only [List.cons_append, List.nil_append] at N'
  rcases abV_shape hab with ⟨av, rfl⟩ | ⟨av, at', rfl⟩
  all_goals (walk_at "m_go")
  all_goals (with_reducible rename News _ _ _ _ => NF)
  all_goals (refine h _ _ _ _ (by walk_at "m_ext") (newT_of hg NF) ?_)
  all_goals exact .tuple (vs := [_, _, _, _]) (by k_mem) (.cons (.str _ _) (.cons (.str _ _) (.cons (.int _ _) (.cons ((about_dat hab).mono (by walk_at "m_sub")) .nil))))
theorem ipl_use {y : Addr} {i : Imp} {lv : Nat} {T : List (Addr × Obj)} (H : HrH lv w mean mg mb A₀ A base outer env g L) (F : Fr g L s.heap m) (N : News g L s.heap led) (hlv : 40 ≤ lv) (hI : ImpV (Mem T) (.ref y) i) (hs : ∀ p ∈ T, p ∈ led)
    (h : ∀ r nt h' tk', DatIn nt (.ref r) (impD i) → NtOff nt led T → Fr g L h' m → News g L h' (led ++ nt) → Q (.ref r) { s with heap := h', toks := tk' }) :
    wpAny (model PySem.Challenge.pw_nm0133_01 w) A (call (.ref 196) [.ref y]) Q E s :=
  ipl_ok (H.at F N hlv) (led_sub N hs) hI fun r nt h' tk' x hn hd => h r nt h' tk' hd (newT_off N hn) (fr_ext F x) (newT_news F N x hn hs)
set_option maxHeartbeats 8000000 in
theorem fpl_ok {y : Addr} {x : Int × List Int} {T : List (Addr × Obj)} (C : AtH 40 w mean mg mb A base outer G s.heap) (hT : ∀ p ∈ T, s.heap.get? p.1 = some p.2 ∧ G.get? p.1 = none)
    (hI : FuncV (Mem T) (.ref y) x) (h : ∀ r nt h' tk', Ext s.heap h' → NewT T s.heap h' nt → DatIn nt (.ref r) (funcD x) → Q (.ref r) { s with heap := h', toks := tk' }) :
    wpAny (model PySem.Challenge.pw_nm0133_01 w) A (call (.ref 224) [.ref y]) Q E s := by
  obtain ⟨hd0, dp, fr, gd, un⟩ := A
  obtain rfl : fr = some outer := C.B.stack
  refine wpAny_call ?_
  refine' enterH T [(Str.ofString "self", .ref y)] C (by decide) hT ?k6 ?k7 ?k9 ?kB ?c2 ?c3 ?c4 ?c5 ?_
  walk_at "m_in"
  intro g L' h₁ hg hlt F' N' X' T' H hd hu hA
  have B' := H.B
  clear C
  obtain ⟨fk, fks⟩ := x
  obtain ⟨fa, fd, fn, fb, fc, fv, fe, j1, j2, j3, d1, d2, d3, e1, ey, p1, p2, p3, hiv, hfl, p4, hk0⟩ := hI
  cases ey
  dsimp only at p1 p2 p3 p4 hiv hfl
  replace N' := news_from (more := [(y, instObj 227 fd), (fd, dictOf [En j1 "kind" d1 (.int fk e1), En j2 "locals" d2 (.ref fb), En j3 "body" d3 (.ref fc)] fn), (fb, tupO (List.toArray fv)), (fc, listOf #[] fe)]) N' (T := T) (by walk_at "m_sub") (by intro r hr; simp only [List.mem_cons, List.not_mem_nil, or_false] at hr; rcases hr with rfl | rfl | rfl | rfl <;> assumption)
  simp only [List.cons_append, List.nil_append] at N'
  walk_at "m_go"
  (with_reducible rename News _ _ _ _ => NF)
  refine h _ _ _ _ (by walk_at "m_ext") (newT_of hg NF) ?_
  exact .tuple (vs := [_, _, _]) (by k_mem) (.cons (.int _ _) (.cons (.tuple (by k_mem) (ints_dat hiv)) (.cons (.tuple (vs := []) (by k_mem) .nil) .nil)))
theorem fpl_use {y : Addr} {x : Int × List Int} {lv : Nat} {T : List (Addr × Obj)} (H : HrH lv w mean mg mb A₀ A base outer env g L) (F : Fr g L s.heap m) (N : News g L s.heap led) (hlv : 40 ≤ lv) (hI : FuncV (Mem T) (.ref y) x) (hs : ∀ p ∈ T, p ∈ led)
    (h : ∀ r nt h' tk', DatIn nt (.ref r) (funcD x) → NtOff nt led T → Fr g L h' m → News g L h' (led ++ nt) → Q (.ref r) { s with heap := h', toks := tk' }) :
    wpAny (model PySem.Challenge.pw_nm0133_01 w) A (call (.ref 224) [.ref y]) Q E s :=
  fpl_ok (H.at F N hlv) (led_sub N hs) hI fun r nt h' tk' x hn hd => h r nt h' tk' hd (newT_off N hn) (fr_ext F x) (newT_news F N x hn hs)
set_option maxHeartbeats 8000000 in
theorem gpl_ok {y : Addr} {x : Int × Int} {T : List (Addr × Obj)} (C : AtH 40 w mean mg mb A base outer G s.heap) (hT : ∀ p ∈ T, s.heap.get? p.1 = some p.2 ∧ G.get? p.1 = none)
    (hI : GlobV (Mem T) (.ref y) x) (h : ∀ r nt h' tk', Ext s.heap h' → NewT T s.heap h' nt → DatIn nt (.ref r) (globD x) → Q (.ref r) { s with heap := h', toks := tk' }) :
    wpAny (model PySem.Challenge.pw_nm0133_01 w) A (call (.ref 252) [.ref y]) Q E s := by
  obtain ⟨hd0, dp, fr, gd, un⟩ := A
  obtain rfl : fr = some outer := C.B.stack
  refine wpAny_call ?_
  refine' enterH T [(Str.ofString "self", .ref y)] C (by decide) hT ?k6 ?k7 ?k9 ?kB ?c2 ?c3 ?c4 ?c5 ?_
  walk_at "m_in"
  intro g L' h₁ hg hlt F' N' X' T' H hd hu hA
  have B' := H.B
  clear C
  obtain ⟨fk, fl⟩ := x
  obtain ⟨fa, fd, fn, fc, f2, fe, ft, j1, j2, j3, d1, d2, d3, e1, e2, ey, p1, p2, p3, p4⟩ := hI
  cases ey
  dsimp only at p1 p2 p3 p4
  replace N' := news_from (more := [(y, instObj 255 fd), (fd, dictOf [En j1 "kind" d1 (.int fk e1), En j2 "mutable" d2 (.int fl e2), En j3 "body" d3 (.ref fc)] fn), (fc, listOf #[.ref f2] fe)]) N' (T := T) (by walk_at "m_sub") (by intro r hr; simp only [List.mem_cons, List.not_mem_nil, or_false] at hr; rcases hr with rfl | rfl | rfl <;> assumption)
  simp only [List.cons_append, List.nil_append] at N'
  walk_at "m_go"
  (with_reducible rename News _ _ _ _ => NF)
  refine h _ _ _ _ (by walk_at "m_ext") (newT_of hg NF) ?_
  exact .tuple (vs := [_, _, _]) (by k_mem) (.cons (.int _ _) (.cons (.int _ _) (.cons (.tuple (vs := [_]) (by k_mem) (.cons (.tuple (vs := [_]) ((by walk_at "m_sub" : ∀ p ∈ T, p ∈ _) _ p4) (.cons (.int _ _) .nil)) .nil)) .nil)))
theorem gpl_use {y : Addr} {x : Int × Int} {lv : Nat} {T : List (Addr × Obj)} (H : HrH lv w mean mg mb A₀ A base outer env g L) (F : Fr g L s.heap m) (N : News g L s.heap led) (hlv : 40 ≤ lv) (hI : GlobV (Mem T) (.ref y) x) (hs : ∀ p ∈ T, p ∈ led)
    (h : ∀ r nt h' tk', DatIn nt (.ref r) (globD x) → NtOff nt led T → Fr g L h' m → News g L h' (led ++ nt) → Q (.ref r) { s with heap := h', toks := tk' }) :
    wpAny (model PySem.Challenge.pw_nm0133_01 w) A (call (.ref 252) [.ref y]) Q E s :=
  gpl_ok (H.at F N hlv) (led_sub N hs) hI fun r nt h' tk' x hn hd => h r nt h' tk' hd (newT_off N hn) (fr_ext F x) (newT_news F N x hn hs)
theorem rows_C26_4 : True := by
  k_with "call ref" => (k_here; (with_reducible show wpAny _ _ (call (Value.ref 196) _) _ _ _); k_dflt (refine' ipl_use ?H ?F ?N ?lv ?hI ?hs ?_; (case H => assumption); (case F => k_asm); (case N => k_asm); (case lv => decide); (case hI => assumption); (case hs => walk_at "m_sub")); intro r'ᵣ nt'ᵣ h'ᵣ tk'ᵣ hdt'ᵣ hoff'ᵣ F'ᵣ N'ᵣ; (try simp only [List.cons_append, List.nil_append, List.append_assoc] at N'ᵣ); (try k_sweep))
  k_with "call ref" => (k_here; (with_reducible show wpAny _ _ (call (Value.ref 224) _) _ _ _); k_dflt (refine' fpl_use ?H ?F ?N ?lv ?hI ?hs ?_; (case H => assumption); (case F => k_asm); (case N => k_asm); (case lv => decide); (case hI => assumption); (case hs => walk_at "m_sub")); intro r'ᵣ nt'ᵣ h'ᵣ tk'ᵣ hdt'ᵣ hoff'ᵣ F'ᵣ N'ᵣ; (try simp only [List.cons_append, List.nil_append, List.append_assoc] at N'ᵣ); (try k_sweep))
  k_with "call ref" => (k_here; (with_reducible show wpAny _ _ (call (Value.ref 252) _) _ _ _); k_dflt (refine' gpl_use ?H ?F ?N ?lv ?hI ?hs ?_; (case H => assumption); (case F => k_asm); (case N => k_asm); (case lv => decide); (case hI => assumption); (case hs => walk_at "m_sub")); intro r'ᵣ nt'ᵣ h'ᵣ tk'ᵣ hdt'ᵣ hoff'ᵣ F'ᵣ N'ᵣ; (try simp only [List.cons_append, List.nil_append, List.append_assoc] at N'ᵣ); (try k_sweep))
  trivial
end
theorem rows_C27_1 : True := by
  k_with_none
  k_with "call ref" => (k_here; (with_reducible show wpAny _ _ (call (Value.ref 105) [Value.bool _, Value.str _ _]) _ _ _); k_dflt (refine' want_use ?H ?F ?N ?lv ?_ ?_; (case H => assumption); (case F => k_asm); (case N => k_asm); (case lv => decide)))
  k_with "leaving ref" => (k_here; k_dflt (refine' leave_thr (by exact Hr.frames (by assumption)) rfl (.inr rfl) ?R ?hE ?hL ?hin ?_; (case R => assumption); (case hE => walk_at "m_ext"); (case hL => exact frame_none (by assumption) (by assumption)); (case hin => assumption)); intro h'ᵣ R'ᵣ)
  k_with "call builtin:len" => (k_here; (with_reducible show wpAny _ _ (call (Value.builtin _) [Value.ref _]) _ _ _); k_dflt (refine' my_len ?N ?m ?l ?_; (case N => k_asm); (case m => k_mem); (case l => ((have hLX := AllV.length (by assumption)); omega))))
  k_with "binaryOp Add ref ref" => (k_here; (with_reducible show wpAny _ _ (binaryOp Operator.Add (Value.ref _) (Value.ref _)) _ _ _); k_dflt (refine' tup_add ?F ?N ?b ?c ?z ?z2 ?_; (case F => k_asm); (case N => k_asm); (case b => k_mem); (case c => k_mem); (case z => omega); (case z2 => omega)); intro t'ᵣ h'ᵣ F'ᵣ N'ᵣ; (try k_sweep))
  k_with "call type:tuple" => (k_here; (with_reducible show wpAny _ _ (call (Value.type _) [Value.ref _]) _ _ _); k_dflt (refine' kde_tupleOf ?k1 ?k2 ?k3 ?k4 rfl ?_; (case k1 => k_asm); (case k2 => k_asm); (case k3 => exact News.isList (by k_asm) (by k_mem)); (case k4 => first | exact Nat.le_of_ble_eq_true rfl | (simp only [List.size_toArray]; omega))); intro D'ᵣ h'ᵣ F'ᵣ N'ᵣ l1; clear l1; (try k_sweep))
  k_with "call type:tuple" => (k_here; (with_reducible show wpAny _ _ (call (Value.type _) [Value.ref _]) _ _ _); k_dflt (refine' call_tuple_tup ?k3 ?_; (case k3 => exact News.isTup (by k_asm) (by k_mem))))
  k_with "call ref" => (k_here; (with_reducible show wpAny _ _ (call (Value.ref 196) _) _ _ _); k_dflt (refine' ipl_use ?H ?F ?N ?lv ?hI ?hs ?_; (case H => assumption); (case F => k_asm); (case N => k_asm); (case lv => decide); (case hI => assumption); (case hs => walk_at "m_sub")); intro r'ᵣ nt'ᵣ h'ᵣ tk'ᵣ hdt'ᵣ hoff'ᵣ F'ᵣ N'ᵣ; (try simp only [List.cons_append, List.nil_append, List.append_assoc] at N'ᵣ); (try k_sweep))
  k_with "call ref" => (k_here; (with_reducible show wpAny _ _ (call (Value.ref 224) _) _ _ _); k_dflt (refine' fpl_use ?H ?F ?N ?lv ?hI ?hs ?_; (case H => assumption); (case F => k_asm); (case N => k_asm); (case lv => decide); (case hI => assumption); (case hs => walk_at "m_sub")); intro r'ᵣ nt'ᵣ h'ᵣ tk'ᵣ hdt'ᵣ hoff'ᵣ F'ᵣ N'ᵣ; (try simp only [List.cons_append, List.nil_append, List.append_assoc] at N'ᵣ); (try k_sweep))
  k_with "call ref" => (k_here; (with_reducible show wpAny _ _ (call (Value.ref 252) _) _ _ _); k_dflt (refine' gpl_use ?H ?F ?N ?lv ?hI ?hs ?_; (case H => assumption); (case F => k_asm); (case N => k_asm); (case lv => decide); (case hI => assumption); (case hs => walk_at "m_sub")); intro r'ᵣ nt'ᵣ h'ᵣ tk'ᵣ hdt'ᵣ hoff'ᵣ F'ᵣ N'ᵣ; (try simp only [List.cons_append, List.nil_append, List.append_assoc] at N'ᵣ); (try k_sweep))
  trivial
inductive Part where
  | imp (i : Imp)
  | func (x : Int × List Int)
  | glob (x : Int × Int)
def partD : Part → Dat
  | .imp i => impD i
  | .func x => funcD x
  | .glob x => globD x
def PartV (P : PO) (v : Value) : Part → Prop
  | .imp i => ImpV P v i
  | .func x => FuncV P v x
  | .glob x => GlobV P v x
theorem AllV.map {α β : Type} {R : Value → α → Prop} {R' : Value → β → Prop} {f : α → β} (h : ∀ v x, R v x → R' v (f x)) {vs : List Value} {xs : List α} (a : AllV R vs xs) : AllV R' vs (xs.map f) := by
  induction a with
  | nil => exact .nil
  | cons r _ ih => exact .cons (h _ _ r) ih
theorem parts_end {h₀ : Heap} {L IA C D a : Addr} {m : Str → Option Value} {s₁ s₂ : Shared} {oI oC oD la : Obj} {S : List (Addr × Obj) → Prop} {y : Value} {tl nt led₀ all T : List (Addr × Obj)} {ys : List Value} {ps : List Part} {p : Part} {i : Nat} (off : OffH IA C D ((a, la) :: tl)) (hoff : NtOff nt led₀ tl)
    (mI : (IA, oI) ∈ led₀) (mC : (C, oC) ∈ led₀) (mD : (D, oD) ∈ led₀) (e : s₂ = { s₁ with heap := s₂.heap, toks := s₂.toks }) (F : Fr h₀ L s₂.heap m) (N : News h₀ L s₂.heap all) (sI : (IA, oI) ∈ all) (sC : (C, oC) ∈ all) (sD : (D, oD) ∈ all) (sa : (a, la) ∈ all) (snt : ∀ p ∈ nt, p ∈ all) (stl : ∀ p ∈ tl, p ∈ all)
    (hS : ∀ l, S ((a, la) :: l)) (hs : ∀ p ∈ T, p ∈ tl) (hd : DatAll tl ys ((ps.take i).map partD)) (hk : ps[i]? = some p) (hr : DatIn nt y (partD p)) :
    LCg.CompEnd h₀ L m s₁ IA oI C oC D oD S (fun y nw' => ∃ tl, nw' = (a, la) :: tl ∧ (∀ p ∈ T, p ∈ tl) ∧ DatAll tl (ys ++ [y]) ((ps.take (i + 1)).map partD)) y s₂ := by
  have o := off.out
  have om := o.mem
  refine ⟨s₂.heap, s₂.toks, (a, la) :: (nt ++ tl), e, F, fun q hq => N q ?_, LCg.Off3.of fun q hq => ?_, hS _, nt ++ tl, rfl, fun q hq => List.mem_append_right _ (hs q hq), ?_⟩
  · simp only [List.mem_cons, List.mem_append] at hq
    rcases hq with rfl | rfl | rfl | rfl | hq | hq
    · exact sI
    · exact sC
    · exact sD
    · exact sa
    · exact snt q hq
    · exact stl q hq
  · simp only [List.mem_cons, List.mem_append] at hq
    rcases hq with rfl | hq | hq
    · exact om _ (.head _)
    · exact ⟨hoff q hq _ mI fun t ht => (om t (.tail _ ht)).1, hoff q hq _ mC fun t ht => (om t (.tail _ ht)).2.1, hoff q hq _ mD fun t ht => (om t (.tail _ ht)).2.2⟩
    · exact om _ (.tail _ hq)
  · rw [List.take_add_one, hk, List.map_append]
    exact DatAll.append (hd.mono fun q hq => List.mem_append_right _ hq) (.one (hr.mono fun q hq => List.mem_append_left _ hq))
theorem rows_C27_2 : True := by
  k_with "eval ListComp" => (k_here; (with_reducible show wpAny _ _ (eval (Expr.ListComp _ [⟨Expr.Name _ _, _, [], _⟩] _ _) _) _ _ _); k_dflt (refine ListComp_H (by k_asm) (clos_eq rfl) (by decide) (by rfl) (by decide) (by rfl) ?_))
  k_with "CompSrcH" => (k_here; k_dflt (refine CompSrcH.mk (by assumption) (by k_asm) (by k_asm) (by k_mem) (by simp only [List.size_toArray]; rw [PySem.sizeLine_eq]; omega) ?_; intro g'ᵣ; refine' comp_inv ?hCI ?ci0 ?ciT ?ciF; (case hCI => assumption)))
  trivial
section
variable {w : World} {mean : ExcName → Option Value} {mg mb : Str → Option Value} {A A₀ : Around} {base G g : Heap} {outer l : List Env} {env : Env} {s : Shared} {Q E : Value → Shared → Prop} {L : Addr} {m : Str → Option Value} {led : List (Addr × Obj)} {o : Obj}
set_option maxHeartbeats 8000000 in
theorem parts_ok {a : Addr} {vs : List Value} {ps : List Part} {ds : List Dat} {n : Nat} {T : List (Addr × Obj)} (C : AtH 60 w mean mg mb A base outer G s.heap) (hT : ∀ p ∈ T, s.heap.get? p.1 = some p.2 ∧ G.get? p.1 = none)
    (ha : (a, listOf (List.toArray vs) n) ∈ T) (hv : AllV (PartV (Mem T)) vs ps) (hl : ps.length ≤ 4) (hds : ps.map partD = ds) (h : ∀ r nt h' tk', Ext s.heap h' → NewT T s.heap h' nt → DatIn nt (.ref r) (.tuple ds) → Q (.ref r) { s with heap := h', toks := tk' }) :
    wpAny (model PySem.Challenge.pw_nm0133_01 w) A (call (.ref 381) [.ref a]) Q E s := by
  obtain ⟨hd0, dp, fr, gd, un⟩ := A
  obtain rfl : fr = some outer := C.B.stack
  refine wpAny_call ?_
  refine' enterH T [(Str.ofString "things", .ref a)] C (by decide) hT ?k6 ?k7 ?k9 ?kB ?c2 ?c3 ?c4 ?c5 ?_
  walk_at "m_in"
  intro g L' h₁ hg hlt F' N' X' T' H hd hu hA
  have B' := H.B
  clear C
  replace N' := news_dup N' ha
  have hvl := hv.length
  have hCI : CI (fun i ys nw => ∃ tl, nw = (a, listOf (List.toArray vs) n) :: tl ∧ (∀ p ∈ T, p ∈ tl) ∧ DatAll tl ys ((ps.take i).map partD)) := trivial
  walk_at "m_go"
  case ci0 => exact ⟨T, rfl, fun _ hp => hp, .nil⟩
  case ciT =>
    unfold Later
    (with_reducible rename News _ _ _ _ => NK; rename Fr _ _ _ _ => FK; clear FK NK)
    clear hCI
    intro i ys nw v IA oI C oC Da m₂ h₃ tk E' hin hI hv' hC hx F' N' off ne
    obtain ⟨tl, rfl, hs, hd⟩ := hI
    obtain ⟨p, hp, hq⟩ := allV_at hv hv'
    cases p with
    | imp i' =>
      obtain ⟨y, dy, ny, av, j1, j2, j3, j4, d1, d2, d3, d4, e1, e2, e3, rfl, hab, hmem⟩ := mem_imp hq
      have hI : ImpV (Mem tl) (.ref y) i' := ImpV.mono (fun a o z => hs _ z) hq
      replace N' := news_from N' (T := tl) (by walk_at "m_sub") fun p hp => hs p (hmem p hp)
      simp only [List.cons_append, List.nil_append] at N'
      (try k_unmd)
      k_fold
      k_steps
      exact parts_end (offH off) (by assumption) (by k_mem) (by k_mem) (by k_mem) (by exact rfl) (by assumption) (by assumption) (by k_mem) (by k_mem) (by k_mem) (by k_mem) (by walk_at "m_sub") (by walk_at "m_sub") (fun _ => .inr ⟨_, .head _, rfl, _, rfl⟩) hs hd hp (by assumption)
    | func x =>
      obtain ⟨fk, fks⟩ := x
      have hI : FuncV (Mem tl) v (fk, fks) := FuncV.mono (fun a o z => hs _ z) hq
      obtain ⟨fa, fd, fn, fb, fc, fv, fe, j1, j2, j3, d1, d2, d3, e1, rfl, p1, p2, p3, hiv, hfl, p4, hk0⟩ := hq
      dsimp only at p1 p2 p3 p4 hiv hfl
      replace N' := news_from (more := [(fa, instObj 227 fd), (fd, dictOf [En j1 "kind" d1 (.int fk e1), En j2 "locals" d2 (.ref fb), En j3 "body" d3 (.ref fc)] fn)]) N' (T := tl) (by walk_at "m_sub") (by intro r hr; simp only [List.mem_cons, List.not_mem_nil, or_false] at hr; rcases hr with rfl | rfl <;> apply hs <;> assumption)
      simp only [List.cons_append, List.nil_append] at N'
      (try k_unmd)
      k_fold
      k_steps
      exact parts_end (offH off) (by assumption) (by k_mem) (by k_mem) (by k_mem) (by exact rfl) (by assumption) (by assumption) (by k_mem) (by k_mem) (by k_mem) (by k_mem) (by walk_at "m_sub") (by walk_at "m_sub") (fun _ => .inr ⟨_, .head _, rfl, _, rfl⟩) hs hd hp (by assumption)
    | glob x =>
      obtain ⟨fk, fl⟩ := x
      have hI : GlobV (Mem tl) v (fk, fl) := GlobV.mono (fun a o z => hs _ z) hq
      obtain ⟨fa, fd, fn, fc, f2, fe, ft, j1, j2, j3, d1, d2, d3, e1, e2, rfl, p1, p2, p3, p4⟩ := hq
      dsimp only at p1 p2 p3 p4
      replace N' := news_from (more := [(fa, instObj 255 fd), (fd, dictOf [En j1 "kind" d1 (.int fk e1), En j2 "mutable" d2 (.int fl e2), En j3 "body" d3 (.ref fc)] fn)]) N' (T := tl) (by walk_at "m_sub") (by intro r hr; simp only [List.mem_cons, List.not_mem_nil, or_false] at hr; rcases hr with rfl | rfl <;> apply hs <;> assumption)
      simp only [List.cons_append, List.nil_append] at N'
      (try k_unmd)
      k_fold
      k_steps
      exact parts_end (offH off) (by assumption) (by k_mem) (by k_mem) (by k_mem) (by exact rfl) (by assumption) (by assumption) (by k_mem) (by k_mem) (by k_mem) (by k_mem) (by walk_at "m_sub") (by walk_at "m_sub") (fun _ => .inr ⟨_, .head _, rfl, _, rfl⟩) hs hd hp (by assumption)
  case ciF =>
    unfold Later
    (with_reducible rename News _ _ _ _ => NK; rename Fr _ _ _ _ => FK; clear FK NK)
    clear hCI
    intro ys nw hI
    obtain ⟨tl, rfl, hs, hd⟩ := hI
    unfold LCg.FinE
    intro D h₃ tk₃ F' N' q2
    clear q2
    rw [List.take_of_length_le (by simp; omega), hds] at hd
    have hdl := hd.length
    rw [← hds, List.length_map] at hdl
    k_steps
    (with_reducible rename News _ _ _ _ => NF)
    (with_reducible rename Fr _ _ _ _ => FF)
    exact h _ _ _ _ (ext_led hg hT FF NF fun p hp => (by walk_at "m_sub" : ∀ p ∈ tl, p ∈ _) p (hs p hp)) (newT_of hg NF) (.tuple (by k_mem) (hd.mono (by walk_at "m_sub")))
theorem parts_use {a : Addr} {vs : List Value} {ps : List Part} {ds : List Dat} {n lv : Nat} {T : List (Addr × Obj)} (H : HrH lv w mean mg mb A₀ A base outer env g L) (F : Fr g L s.heap m) (N : News g L s.heap led) (hlv : 60 ≤ lv) (ha : (a, listOf (List.toArray vs) n) ∈ T) (hv : AllV (PartV (Mem T)) vs ps) (hl : ps.length ≤ 4) (hds : ps.map partD = ds) (hs : ∀ p ∈ T, p ∈ led)
    (h : ∀ r nt h' tk', DatIn nt (.ref r) (.tuple ds) → Fr g L h' m → News g L h' (led ++ nt) → Q (.ref r) { s with heap := h', toks := tk' }) :
    wpAny (model PySem.Challenge.pw_nm0133_01 w) A (call (.ref 381) [.ref a]) Q E s :=
  parts_ok (H.at F N hlv) (led_sub N hs) ha hv hl hds fun r nt h' tk' x hn hd => h r nt h' tk' hd (fr_ext F x) (newT_news F N x hn hs)
theorem rows_C27_3 : True := by
  k_with "call ref" => (k_here; (with_reducible show wpAny _ _ (call (Value.ref 381) _) _ _ _); k_dflt (refine' parts_use ?H ?F ?N ?lv ?ha ?hv ?hl ?hds ?hs ?_; (case H => assumption); (case F => k_asm); (case N => k_asm); (case lv => decide); (case ha => assumption); (case hv => assumption); (case hl => assumption); (case hds => assumption); (case hs => walk_at "m_sub")); intro r'ᵣ nt'ᵣ h'ᵣ tk'ᵣ hdt'ᵣ F'ᵣ N'ᵣ; (try simp only [List.cons_append, List.nil_append, List.append_assoc] at N'ᵣ); (try k_sweep))
  trivial
end
theorem rows_C28_1 : True := by
  k_with_none
  k_with "call ref" => (k_here; (with_reducible show wpAny _ _ (call (Value.ref 105) [Value.bool _, Value.str _ _]) _ _ _); k_dflt (refine' want_use ?H ?F ?N ?lv ?_ ?_; (case H => assumption); (case F => k_asm); (case N => k_asm); (case lv => decide)))
  k_with "leaving ref" => (k_here; k_dflt (refine' leave_thr (by exact Hr.frames (by assumption)) rfl (.inr rfl) ?R ?hE ?hL ?hin ?_; (case R => assumption); (case hE => walk_at "m_ext"); (case hL => exact frame_none (by assumption) (by assumption)); (case hin => assumption)); intro h'ᵣ R'ᵣ)
  k_with "call builtin:len" => (k_here; (with_reducible show wpAny _ _ (call (Value.builtin _) [Value.ref _]) _ _ _); k_dflt (refine' my_len ?N ?m ?l ?_; (case N => k_asm); (case m => k_mem); (case l => ((have hLX := AllV.length (by assumption)); omega))))
  k_with "binaryOp Add ref ref" => (k_here; (with_reducible show wpAny _ _ (binaryOp Operator.Add (Value.ref _) (Value.ref _)) _ _ _); k_dflt (refine' tup_add ?F ?N ?b ?c ?z ?z2 ?_; (case F => k_asm); (case N => k_asm); (case b => k_mem); (case c => k_mem); (case z => omega); (case z2 => omega)); intro t'ᵣ h'ᵣ F'ᵣ N'ᵣ; (try k_sweep))
  k_with "call type:tuple" => (k_here; (with_reducible show wpAny _ _ (call (Value.type _) [Value.ref _]) _ _ _); k_dflt (refine' kde_tupleOf ?k1 ?k2 ?k3 ?k4 rfl ?_; (case k1 => k_asm); (case k2 => k_asm); (case k3 => exact News.isList (by k_asm) (by k_mem)); (case k4 => first | exact Nat.le_of_ble_eq_true rfl | (simp only [List.size_toArray]; omega))); intro D'ᵣ h'ᵣ F'ᵣ N'ᵣ l1; clear l1; (try k_sweep))
  k_with "call type:tuple" => (k_here; (with_reducible show wpAny _ _ (call (Value.type _) [Value.ref _]) _ _ _); k_dflt (refine' call_tuple_tup ?k3 ?_; (case k3 => exact News.isTup (by k_asm) (by k_mem))))
  k_with "call ref" => (k_here; (with_reducible show wpAny _ _ (call (Value.ref 381) _) _ _ _); k_dflt (refine' parts_use ?H ?F ?N ?lv ?ha ?hv ?hl ?hds ?hs ?_; (case H => assumption); (case F => k_asm); (case N => k_asm); (case lv => decide); (case ha => assumption); (case hv => assumption); (case hl => assumption); (case hds => assumption); (case hs => walk_at "m_sub")); intro r'ᵣ nt'ᵣ h'ᵣ tk'ᵣ hdt'ᵣ F'ᵣ N'ᵣ; (try simp only [List.cons_append, List.nil_append, List.append_assoc] at N'ᵣ); (try k_sweep))
  trivial
theorem dat_up {nt led : List (Addr × Obj)} {v : Value} {d : Dat} (hd : DatIn nt v d) (hs : ∀ p ∈ nt, p ∈ led) : DatIn led v d := hd.mono hs
section
variable {w : World} {mean : ExcName → Option Value} {mg mb : Str → Option Value} {A A₀ : Around} {base G g : Heap} {outer l : List Env} {env : Env} {s : Shared} {Q E : Value → Shared → Prop} {L : Addr} {m : Str → Option Value} {led : List (Addr × Obj)} {o : Obj}
set_option maxHeartbeats 8000000 in
theorem mpl_ok {x : Addr} {M : Mod} {T : List (Addr × Obj)} (C : AtH 90 w mean mg mb A base outer G s.heap) (hT : ∀ p ∈ T, s.heap.get? p.1 = some p.2 ∧ G.get? p.1 = none)
    (hM : ModV (Mem T) x M) (hO : M.Ok) (h : ∀ r nt h' tk', Ext s.heap h' → NewT T s.heap h' nt → DatIn nt (.ref r) (modD M) → Q (.ref r) { s with heap := h', toks := tk' }) :
    wpAny (model PySem.Challenge.pw_nm0133_01 w) A (call (.ref 348) [.ref x]) Q E s := by
  obtain ⟨hd0, dp, fr, gd, un⟩ := A
  obtain rfl : fr = some outer := C.B.stack
  refine wpAny_call ?_
  refine' enterH T [(Str.ofString "self", .ref x)] C (by decide) hT ?k6 ?k7 ?k9 ?kB ?c2 ?c3 ?c4 ?c5 ?_
  walk_at "m_in"
  intro g L' h₁ hg hlt F' N' X' T' H hd hu hA
  have B' := H.B
  clear C
  obtain ⟨dx, h1, h2, h3, h4, h5, h6, h7, h8, h9, h10, h11, b1, b2, b3, b4, b5, b6, b7, b8, b9, b10, b11, K1, K2, a3, K4, K5, a6, a7, a8, a9, a10, ys, zs, vs, ts, ms, gs, n1, n2, n3, n4, n5, n6, q⟩ := hM
  replace N' := news_from (more := [(x, instObj 372 dx), (dx, dictOf [En h1 "kinds" b1 (.ref K1), En h2 "imports" b2 (.ref K2), En h3 "funcs" b3 (.ref a3), En h4 "tables" b4 (.ref K4), En h5 "memories" b5 (.ref K5), En h6 "globals" b6 (.ref a6), En h7 "exports" b7 (.ref a7), En h8 "start" b8 .none, En h9 "elems" b9 (.ref a8), En h10 "datas" b10 (.ref a9), En h11 "customs" b11 (.ref a10)] 11), (K1, listOf (List.toArray ys) n1), (K4, listOf (List.toArray ts) n4), (K5, listOf (List.toArray ms) n5), (a7, listOf #[] 0)]) N' (T := T) (fun _ hX => hX) (by intro r hr; simp only [List.mem_cons, List.not_mem_nil, or_false] at hr; rcases hr with rfl | rfl | rfl | rfl | rfl | rfl <;> first | exact q.ob | exact q.di | exact q.k1 | exact q.k4 | exact q.k5 | exact q.e7)
  simp only [List.cons_append, List.nil_append] at N'
  have hk2 : (K2, listOf (List.toArray zs) n2) ∈ T := q.k2
  have hk3 : (a3, listOf (List.toArray vs) n3) ∈ T := q.k3
  have hk6 : (a6, listOf (List.toArray gs) n6) ∈ T := q.k6
  have hk8 : (a8, listOf (List.toArray []) 0) ∈ T := q.e8
  have hk9 : (a9, listOf (List.toArray []) 0) ∈ T := q.e9
  have hk10 : (a10, listOf (List.toArray []) 0) ∈ T := q.e10
  have hp0 : AllV (PartV (Mem T)) [] [] := .nil
  have hp2 : AllV (PartV (Mem T)) zs (M.imps.map .imp) := AllV.map (R' := PartV (Mem T)) (f := Part.imp) (fun _ _ z => z) q.v2
  have hp3 : AllV (PartV (Mem T)) vs (M.funcs.map .func) := AllV.map (R' := PartV (Mem T)) (f := Part.func) (fun _ _ z => z) q.v3
  have hp6 : AllV (PartV (Mem T)) gs (M.globs.map .glob) := AllV.map (R' := PartV (Mem T)) (f := Part.glob) (fun _ _ z => z) q.v6
  have hl0 : ([] : List Part).length ≤ 4 := by decide
  have hl2 : (M.imps.map Part.imp).length ≤ 4 := by rw [List.length_map]; exact hO.i
  have hl3 : (M.funcs.map Part.func).length ≤ 4 := by rw [List.length_map]; have := hO.f; omega
  have hl6 : (M.globs.map Part.glob).length ≤ 4 := by rw [List.length_map]; have := hO.g; omega
  have hd0 : ([] : List Part).map partD = [] := rfl
  have hd2 : (M.imps.map Part.imp).map partD = M.imps.map impD := by rw [List.map_map]; rfl
  have hd3 : (M.funcs.map Part.func).map partD = M.funcs.map funcD := by rw [List.map_map]; rfl
  have hd6 : (M.globs.map Part.glob).map partD = M.globs.map globD := by rw [List.map_map]; rfl
  have dk1 : DatAll T ys (M.kinds.map kindD) := all_dat (fun _ _ z => kind_dat z) q.v1
  have dk4 : DatAll T ts (M.tabs.map tabD) := all_dat (fun _ _ z => tab_dat z) q.v4
  have dk5 : DatAll T ms (M.mems.map memD) := all_dat (fun _ _ z => mem_dat z) q.v5
  have hx1 := q.v1.length
  have hx4 := q.v4.length
  have hx5 := q.v5.length
  have ho1 := hO.k
  have ho4 := hO.t
  have ho5 := hO.m
  walk_at "m_go"
  (with_reducible rename News _ _ _ _ => NF)
  (with_reducible rename Fr _ _ _ _ => FF)
  refine h _ _ _ _ (ext_led hg hT FF NF (by walk_at "m_sub")) (newT_of hg NF) ?_
  exact .tuple (vs := [_, _, _, _, _, _, _, _, _, _, _]) (by k_mem) (.cons (.tuple (by k_mem) (dk1.mono (by walk_at "m_sub"))) (.cons (dat_up (by assumption) (by walk_at "m_sub")) (.cons (dat_up (by assumption) (by walk_at "m_sub")) (.cons (.tuple (by k_mem) (dk4.mono (by walk_at "m_sub"))) (.cons (.tuple (by k_mem) (dk5.mono (by walk_at "m_sub"))) (.cons (dat_up (by assumption) (by walk_at "m_sub")) (.cons (.tuple (vs := []) (by k_mem) .nil) (.cons .none (.cons (dat_up (by assumption) (by walk_at "m_sub")) (.cons (dat_up (by assumption) (by walk_at "m_sub")) (.cons (dat_up (by assumption) (by walk_at "m_sub")) .nil)))))))))))
theorem mpl_use {x : Addr} {M : Mod} {lv : Nat} {T : List (Addr × Obj)} (H : HrH lv w mean mg mb A₀ A base outer env g L) (F : Fr g L s.heap m) (N : News g L s.heap led) (hlv : 90 ≤ lv) (hM : ModV (Mem T) x M) (hO : M.Ok) (hs : ∀ p ∈ T, p ∈ led)
    (h : ∀ r nt h' tk', DatIn nt (.ref r) (modD M) → Fr g L h' m → News g L h' (led ++ nt) → Q (.ref r) { s with heap := h', toks := tk' }) :
    wpAny (model PySem.Challenge.pw_nm0133_01 w) A (call (.ref 348) [.ref x]) Q E s :=
  mpl_ok (H.at F N hlv) (led_sub N hs) hM hO fun r nt h' tk' x hn hd => h r nt h' tk' hd (fr_ext F x) (newT_news F N x hn hs)
/-- the same within a handler: e is the exception that is being handled -/
theorem mplm_use {x e : Addr} {oe : Obj} {es : Array Value} {M : Mod} {lv : Nat} {T : List (Addr × Obj)} (H : Hr lv w mean mg mb A₀ A base outer env g L) (F : Fr g L s.heap m) (N : News g L s.heap led) (he : (e, oe) ∈ led) (hde : oe.data = .fields es) (h2 : es[2]? = some .none) (hTe : ∀ p ∈ T, @Ne Nat p.1 e) (hlv : 90 ≤ lv) (hM : ModV (Mem T) x M) (hO : M.Ok) (hs : ∀ p ∈ T, p ∈ led)
    (h : ∀ r nt h' tk', DatIn nt (.ref r) (modD M) → Fr g L h' m → News g L h' (led ++ nt) → Q (.ref r) { s with heap := h', toks := tk' }) :
    wpAny (model PySem.Challenge.pw_nm0133_01 w) (A.mark (some (.ref e))) (call (.ref 348) [.ref x]) Q E s := by
  have NT : News g L s.heap T := fun p hp => N p (hs p hp)
  have C := H.at F NT hlv
  refine mpl_ok (base := base) (G := hideAll s.heap (T.map (·.1))) (outer := env :: outer) ⟨C.X, C.T, ⟨C.B.stack, C.B.stays, C.B.frames⟩, C.stays, .inr ⟨e, oe, es, rfl, ?_, hde, h2⟩, C.dep, ?_⟩ (fun p hp => ⟨(N p (hs p hp)).1, none_in hp⟩) hM hO fun r nt h' tk' x hn hd => h r nt h' tk' hd (fr_ext F x) (newT_news F N x hn hs)
  · refine hideAll_get _ (N _ he).1 fun hm => ?_
    obtain ⟨p, hp, e1⟩ := List.mem_map.mp hm
    exact hTe p hp e1
  · exact C.un
theorem rows_C28_2 : True := by
  k_with "call ref" => (k_here; (with_reducible show wpAny _ _ (call (Value.ref 348) _) _ _ _); k_dflt (refine' mpl_use ?H ?F ?N ?lv ?hM ?hO ?hs ?_; (case H => assumption); (case F => k_asm); (case N => k_asm); (case lv => decide); (case hM => assumption); (case hO => assumption); (case hs => walk_at "m_sub")); intro r'ᵣ nt'ᵣ h'ᵣ tk'ᵣ hdt'ᵣ F'ᵣ N'ᵣ; (try simp only [List.cons_append, List.nil_append, List.append_assoc] at N'ᵣ); (try k_sweep))
  trivial
end
/-! the plain law: the first text that is not empty is the first fault -/
def tx : Option Str → Str
  | none => Str.ofString ""
  | some w => w
def Full (o : Option Str) : Prop := ∀ w, o = some w → w ≠ Str.ofString "" ∧ PyData.strOk w = true
theorem first_tx : ∀ (os : List (Option Str)), (∀ o ∈ os, Full o) → (((os.map tx).filter (fun t => t != Str.ofString "")).take 1) = (match os.findSome? id with | none => [] | some w => [w])
  | [], _ => rfl
  | none :: os, h => by
    rw [List.map_cons, tx, List.filter_cons, if_neg (by simp), List.findSome?_cons]
    exact first_tx os fun o ho => h o (.tail _ ho)
  | some w :: os, h => by
    rw [List.map_cons, tx, List.filter_cons, if_pos (by simpa using (h _ (.head _) w rfl).1), List.findSome?_cons]
    rfl
theorem str_ok (s : String) : PyData.strOk (Str.ofString s) = true := by
  rw [PySem.Str.ofString_eq_toList, PyData.strOk]
  simp only [Array.all_toList.symm, List.all_eq_true, List.mem_map, decide_eq_true_eq]
  rintro x ⟨c, _, rfl⟩
  have := c.valid
  simp only [UInt32.isValidChar, Nat.isValidChar] at this
  show c.val.toNat < _
  omega
theorem str_ok_app {a b : Str} (ha : PyData.strOk a = true) (hb : PyData.strOk b = true) : PyData.strOk (a ++ b) = true := by
  show ((a.cps ++ b.cps).all _) = true
  rw [Array.all_append]
  exact Bool.and_eq_true_iff.mpr ⟨ha, hb⟩
theorem tab_text (el : Int) : tabText el = tabW el := by
  rw [tabText, tabW]
  congr 2
theorem mem_text (pg : Int) : memText pg = memW pg := by
  rw [memText, memW]
  show Str.mk _ = Str.mk _
  congr 1
theorem app_full {a b : Str} (h : a.cps.size ≠ 0) : a ++ b ≠ Str.ofString "" := fun e => by
  have q : (a ++ b).cps.size = (Str.ofString "").cps.size := congrArg (fun s : Str => s.cps.size) e
  have z : (Str.ofString "").cps.size = 0 := by decide +kernel
  rw [z] at q
  have y : (a ++ b).cps.size = a.cps.size + b.cps.size := Array.size_append
  omega
theorem app_size {a b : Str} (h : a.cps.size ≠ 0) : (a ++ b).cps.size ≠ 0 := by
  have y : (a ++ b).cps.size = a.cps.size + b.cps.size := Array.size_append
  omega
def Fw (w : Str) : Prop := w ≠ Str.ofString "" ∧ PyData.strOk w = true
theorem tabW_full (el : Int) : Fw (tabW el) :=
  ⟨app_full (app_size (by decide +kernel)), str_ok_app (str_ok_app (str_ok _) (str_ok _)) (str_ok _)⟩
theorem memW_full (pg : Int) : Fw (memW pg) :=
  ⟨app_full (app_size (by decide +kernel)), str_ok_app (str_ok_app (str_ok _) (str_ok _)) (str_ok _)⟩
theorem lit_full (s : String) (h : (Str.ofString s == Str.ofString "") = false) : Fw (Str.ofString s) := ⟨by simpa using h, str_ok s⟩
theorem full_none : Full none := fun _ e => nomatch e
theorem full_some {w : Str} (h : Fw w) : Full (some w) := fun _ e => by cases e; exact h
theorem f1 : Fw (Str.ofString "unknown value kind") := lit_full _ (by decide +kernel)
theorem f2 : Fw (Str.ofString "unknown type") := lit_full _ (by decide +kernel)
theorem f3 : Fw (Str.ofString "unknown reference kind") := lit_full _ (by decide +kernel)
theorem f4 : Fw (Str.ofString "size minimum must not be greater than maximum") := lit_full _ (by decide +kernel)
theorem f5 : Fw (Str.ofString "malformed mutability") := lit_full _ (by decide +kernel)
theorem f6 : Fw (Str.ofString "malformed \u0069mport kind") := lit_full _ (by decide +kernel)
theorem f7 : Fw (Str.ofString "multiple memories") := lit_full _ (by decide +kernel)
theorem kinds_full (ks : List Int) : Full (kindsF ks) := by
  rw [kindsF]; split
  · exact full_none
  · exact full_some f1
theorem pair_full (p : List Int × List Int) : Full (pairF p) := by
  rw [pairF]
  have := kinds_full p.1
  split
  · rename_i w e; rw [e] at this; exact this
  · exact kinds_full p.2
theorem limits_full (l : Int) (mo : Option Int) (g : Int) {why : Str} (h : Fw why) : Full (limitsF l mo g why) := by
  rw [limitsF.eq_def]
  split
  · exact full_some h
  · cases mo with
    | none => exact full_none
    | some k =>
      dsimp only
      split
      · exact full_some h
      · split
        · exact full_some f4
        · exact full_none
theorem table_full (el : Int) (x : Int × Int × Option Int) : Full (tableF el x) := by
  rw [tableF]; split
  · exact limits_full _ _ _ (tab_text el ▸ tabW_full el)
  · exact full_some f3
theorem mem_full (pg : Int) (x : Int × Option Int) : Full (memF pg x) := limits_full _ _ _ (mem_text pg ▸ memW_full pg)
theorem cell_full (x : Int × Int) : Full (cellF x) := by
  rw [cellF]; split
  · split
    · exact full_none
    · exact full_some f5
  · exact full_some f1
theorem type_full (n i : Int) : Full (typeF n i) := by
  rw [typeF]; split
  · exact full_none
  · exact full_some f2
theorem import_full (n pg el : Int) (i : Imp) : Full (importF n pg el i) := by
  cases i with
  | fn i => exact type_full n i
  | tab k l mo => exact table_full el _
  | mem l mo => exact mem_full pg _
  | cell k m => exact cell_full _
  | odd i => exact full_some f6
theorem func_full (n : Int) (x : Int × List Int) : Full (funcF n x) := by
  rw [funcF]
  have := type_full n x.1
  split
  · rename_i w e; rw [e] at this; exact this
  · exact kinds_full x.2
theorem many_full (M : Mod) : Full (manyF M) := by
  rw [manyF]; split
  · exact full_none
  · exact full_some f7
/-- what the module's numbers are known to be -/
def MoOk : Option Int → Prop
  | none => True
  | some k => 0 ≤ k
def ImpOk : Imp → Prop
  | .fn i => 0 ≤ i
  | .tab _ l mo => 0 ≤ l ∧ MoOk mo
  | .mem l mo => 0 ≤ l ∧ MoOk mo
  | _ => True
structure Mod.Nums (M : Mod) : Prop where
  i : ∀ x ∈ M.imps, ImpOk x
  f : ∀ x ∈ M.funcs, 0 ≤ x.1
  t : ∀ x ∈ M.tabs, 0 ≤ x.2.1 ∧ MoOk x.2.2
  m : ∀ x ∈ M.mems, 0 ≤ x.1 ∧ MoOk x.2
theorem AllV.every {α : Type} {R : Value → α → Prop} {p : α → Prop} (h : ∀ v x, R v x → p x) {vs : List Value} {xs : List α} (a : AllV R vs xs) : ∀ x ∈ xs, p x := by
  induction a with
  | nil => intro x hx; exact (nomatch hx)
  | cons r _ ih => intro x hx; exact (List.mem_cons.mp hx).elim (fun e => e ▸ h _ _ r) (ih x)
theorem most_ok {v : Value} {d : Option Int} (h : MostIs v d) : MoOk d := by
  rcases h with ⟨_, rfl⟩ | ⟨i, t, _, rfl, h⟩
  · trivial
  · exact h
theorem mod_nums {P : PO} {x : Addr} {M : Mod} (h : ModV P x M) : M.Nums := by
  obtain ⟨dx, h1, h2, h3, h4, h5, h6, h7, h8, h9, h10, h11, b1, b2, b3, b4, b5, b6, b7, b8, b9, b10, b11, K1, K2, a3, K4, K5, a6, a7, a8, a9, a10, ys, zs, vs, ts, ms, gs, n1, n2, n3, n4, n5, n6, q⟩ := h
  refine ⟨q.v2.every fun v i z => ?_, q.v3.every fun v i z => ?_, q.v4.every fun v i z => ?_, q.v5.every fun v i z => ?_⟩
  · obtain ⟨_, _, _, _, _, _, _, _, _, _, _, _, _, _, _, _, _, _, _, _, r⟩ := z
    cases i with
    | fn i => exact r.1
    | tab k l mo => obtain ⟨_, _, _, _, _, _, hm, h0⟩ := r; exact ⟨h0, most_ok hm⟩
    | mem l mo => obtain ⟨_, _, _, _, _, hm, h0⟩ := r; exact ⟨h0, most_ok hm⟩
    | cell k m => trivial
    | odd i => trivial
  · obtain ⟨_, _, _, _, _, _, _, _, _, _, _, _, _, _, _, _, _, _, _, _, _, h0⟩ := z; exact h0
  · obtain ⟨_, _, _, _, _, _, hm, h0⟩ := z; exact ⟨h0, most_ok hm⟩
  · obtain ⟨_, _, _, _, _, hm, h0⟩ := z; exact ⟨h0, most_ok hm⟩
theorem kinds_tx (ks : List Int) : kfText ks = tx (kindsF ks) := by
  rw [kfText, kindsF]; split <;> rfl
theorem pair_tx (p : List Int × List Int) : kfText (p.1 ++ p.2) = tx (pairF p) := by
  rw [kfText, pairF, kindsF, kindsF, List.all_append]
  cases p.1.all isKind <;> cases p.2.all isKind <;> rfl
theorem ends_tx {l : Int} {mo : Option Int} {g : Int} {why : Str} (h0 : 0 ≤ l) (h1 : MoOk mo) : endsT l mo g why = tx (limitsF l mo g why) := by
  rw [endsT.eq_def, limitsF.eq_def]
  by_cases h : l > g
  · rw [if_pos h, if_pos (by omega)]; rfl
  · rw [if_neg h, if_neg (by omega)]
    cases mo with
    | none => rfl
    | some k =>
      dsimp only
      replace h1 : 0 ≤ k := h1
      by_cases h2 : k > g
      · rw [if_pos h2, if_pos (show ¬(0 ≤ k ∧ k ≤ g) by omega)]; rfl
      · rw [if_neg h2, if_neg (show ¬¬(0 ≤ k ∧ k ≤ g) by omega)]
        by_cases h3 : k < l
        · rw [if_pos h3, if_pos (show ¬ l ≤ k by omega)]; rfl
        · rw [if_neg h3, if_neg (show ¬¬ l ≤ k by omega)]; rfl
theorem table_tx {el : Int} {x : Int × Int × Option Int} (h : 0 ≤ x.2.1 ∧ MoOk x.2.2) : tableT el x = tx (tableF el x) := by
  rw [tableT, tableF, tab_text]
  split
  · exact ends_tx h.1 h.2
  · rfl
theorem mem_tx {pg : Int} {x : Int × Option Int} (h : 0 ≤ x.1 ∧ MoOk x.2) : memT pg x = tx (memF pg x) := by
  rw [memT, memF, mem_text]
  exact ends_tx h.1 h.2
theorem cell_tx (x : Int × Int) : cellT x = tx (cellF x) := by
  rw [cellT, cellF]
  split
  · split <;> rfl
  · rfl
theorem import_tx {n pg el : Int} {i : Imp} (h : ImpOk i) : importT n pg el i = tx (importF n pg el i) := by
  cases i with
  | fn i =>
    replace h : 0 ≤ i := h
    simp only [importT, importF, typeF, h, true_and]
    split <;> rfl
  | tab k l mo => exact table_tx (x := (k, l, mo)) h
  | mem l mo => exact mem_tx (x := (l, mo)) h
  | cell k m => exact cell_tx _
  | odd i => rfl
theorem func_tx {n : Int} {x : Int × List Int} (h : 0 ≤ x.1) : funcT n x = tx (funcF n x) := by
  rw [funcT, funcF, typeF]
  by_cases e : x.1 ≥ n
  · rw [if_pos e, if_neg (by omega)]; rfl
  · rw [if_neg e, if_pos (by omega)]; exact kinds_tx x.2
theorem many_tx (M : Mod) : manyT M = tx (manyF M) := by
  rw [manyT, manyF]
  split
  · rw [if_neg (by omega)]; rfl
  · rw [if_pos (by omega)]; rfl
def optsF (M : Mod) (pg el : Int) : List (Option Str) :=
  M.kinds.map pairF ++ M.imps.map (importF M.kinds.length pg el) ++ M.funcs.map (funcF M.kinds.length) ++ M.tabs.map (tableF el) ++ M.mems.map (memF pg) ++ [manyF M] ++ M.globs.map cellF
theorem opts_tx {M : Mod} {pg el : Int} (h : M.Nums) : faultsT M pg el = (optsF M pg el).map tx := by
  simp only [faultsT, optsF, List.map_append, List.map_map, List.map_cons, List.map_nil]
  refine congr (congrArg _ (congr (congrArg _ (congr (congrArg _ (congr (congrArg _ (congr (congrArg _ (congr (congrArg _ ?_) ?_)) ?_)) ?_)) ?_)) ?_)) ?_
  · exact List.map_congr_left fun p _ => pair_tx p
  · exact List.map_congr_left fun p hp => import_tx (h.i p hp)
  · exact List.map_congr_left fun p hp => func_tx (h.f p hp)
  · exact List.map_congr_left fun p hp => table_tx (h.t p hp)
  · exact List.map_congr_left fun p hp => mem_tx (h.m p hp)
  · rw [many_tx]
  · exact List.map_congr_left fun p _ => cell_tx p
theorem find_map {α : Type} (f : α → Option Str) (xs : List α) : (xs.map f).findSome? id = xs.findSome? f := by
  rw [List.findSome?_map]; rfl
theorem heads_opts (M : Mod) (pg el : Int) : headsF M pg el = (optsF M pg el).findSome? id := by
  simp only [headsF, optsF, typesF, List.findSome?_append, find_map, List.findSome?_cons, List.findSome?_nil, id_eq]
  cases M.kinds.findSome? pairF <;> cases M.imps.findSome? (importF M.kinds.length pg el) <;> cases M.funcs.findSome? (funcF M.kinds.length) <;> cases M.tabs.findSome? (tableF el) <;> cases M.mems.findSome? (memF pg) <;> cases manyF M <;> cases M.globs.findSome? cellF <;> rfl
theorem opts_full (M : Mod) (pg el : Int) : ∀ o ∈ optsF M pg el, Full o := by
  intro o ho
  simp only [optsF, List.mem_append, List.mem_map, List.mem_singleton] at ho
  rcases ho with (((((⟨p, _, rfl⟩ | ⟨p, _, rfl⟩) | ⟨p, _, rfl⟩) | ⟨p, _, rfl⟩) | ⟨p, _, rfl⟩) | rfl) | ⟨p, _, rfl⟩
  · exact pair_full p
  · exact import_full _ _ _ p
  · exact func_full _ p
  · exact table_full _ p
  · exact mem_full _ p
  · exact many_full M
  · exact cell_full p
/-- THE PLAIN LAW -/
theorem plain_law {M : Mod} {pg el : Int} (h : M.Nums) : ((faultsT M pg el).filter (fun t => t != Str.ofString "")).take 1 = (match headsF M pg el with | none => [] | some w => [w]) := by
  rw [opts_tx h, heads_opts]
  exact first_tx _ (opts_full M pg el)
theorem heads_ok_str {M : Mod} {pg el : Int} {w : Str} (h : headsF M pg el = some w) : PyData.strOk w = true := by
  rw [heads_opts] at h
  obtain ⟨o, ho, e⟩ := List.exists_of_findSome?_eq_some h
  exact (opts_full M pg el o ho w e).2
theorem faults_le {M : Mod} {pg el : Int} (h : M.Ok) : ((faultsT M pg el).filter (fun t => t != Str.ofString "")).length ≤ 100 := by
  refine Nat.le_trans (List.length_filter_le _ _) ?_
  simp only [faultsT, List.length_append, List.length_map, List.length_cons, List.length_nil]
  have := h.k; have := h.i; have := h.f; have := h.t; have := h.m; have := h.g
  omega
/-! the plain form is data that == compares -/
theorem ints_kqd (n : Nat) (ks : List Int) : kqdOk (n + 1) (intsD ks) = true := by
  simp only [kqdOk, List.all_map, List.all_eq_true]
  intro k _
  cases n <;> rfl
theorem opt_kqd (n : Nat) (o : Option Int) : kqdOk n (optD o) = true := by cases o <;> cases n <;> rfl
theorem tuple_kqd {α : Type} {n : Nat} {f : α → Dat} {xs : List α} (h : ∀ x ∈ xs, kqdOk n (f x) = true) : kqdOk (n + 1) (.tuple (xs.map f)) = true := by
  simp only [kqdOk, List.all_map, List.all_eq_true]
  exact h
theorem tuples_kqd {n : Nat} {ds : List Dat} (h : ds.all (kqdOk n) = true) : kqdOk (n + 1) (.tuple ds) = true := by
  simpa only [kqdOk] using h
theorem int_kqd (n : Nat) (i : Int) : kqdOk n (.int i) = true := by cases n <;> rfl
theorem str_kqd (n : Nat) {x : Str} (h : PyData.strOk x = true) : kqdOk n (.str x) = true := by cases n <;> simpa only [kqdOk] using h
theorem kind_kqd (n : Nat) (x : List Int × List Int) : kqdOk (n + 2) (kindD x) = true := by
  refine tuples_kqd ?_
  simp only [List.all_cons, List.all_nil, ints_kqd, Bool.and_self]
theorem tab_kqd (n : Nat) (x : Int × Int × Option Int) : kqdOk (n + 1) (tabD x) = true := by
  refine tuples_kqd ?_
  simp only [List.all_cons, List.all_nil, int_kqd, opt_kqd, Bool.and_self]
theorem mem_kqd (n : Nat) (x : Int × Option Int) : kqdOk (n + 1) (memD x) = true := by
  refine tuples_kqd ?_
  simp only [List.all_cons, List.all_nil, int_kqd, opt_kqd, Bool.and_self]
theorem cell_kqd (n : Nat) (x : Int × Int) : kqdOk (n + 1) (cellD x) = true := by
  refine tuples_kqd ?_
  simp only [List.all_cons, List.all_nil, int_kqd, Bool.and_self]
theorem about_kqd (n : Nat) (i : Imp) : kqdOk (n + 1) (aboutD i) = true := by
  cases i with
  | fn i => exact int_kqd _ _
  | odd i => exact int_kqd _ _
  | tab k l mo => exact tab_kqd n _
  | mem l mo => exact mem_kqd n _
  | cell k m => exact cell_kqd n _
theorem nm_ok (i : Imp) : PyData.strOk i.nm = true := by cases i <;> exact str_ok _
theorem imp_kqd (n : Nat) (i : Imp) : kqdOk (n + 2) (impD i) = true := by
  refine tuples_kqd ?_
  simp only [List.all_cons, List.all_nil, int_kqd, about_kqd, str_kqd _ (nm_ok i), str_kqd _ (str_ok "h"), Bool.and_self]
theorem func_kqd (n : Nat) (x : Int × List Int) : kqdOk (n + 2) (funcD x) = true := by
  refine tuples_kqd ?_
  simp only [List.all_cons, List.all_nil, int_kqd, ints_kqd, Bool.true_and, Bool.and_true]
  exact tuples_kqd rfl
theorem glob_kqd (n : Nat) (x : Int × Int) : kqdOk (n + 3) (globD x) = true := by
  refine tuples_kqd ?_
  simp only [List.all_cons, List.all_nil, int_kqd, Bool.true_and, Bool.and_true]
  refine tuples_kqd ?_
  simp only [List.all_cons, List.all_nil, Bool.and_true]
  refine tuples_kqd ?_
  simp only [List.all_cons, List.all_nil, int_kqd, Bool.and_true]
theorem nil_kqd (n : Nat) : kqdOk (n + 1) (.tuple []) = true := tuples_kqd rfl
theorem mod_kqd (M : Mod) : kqdOk 8 (modD M) = true := by
  refine tuples_kqd ?_
  simp only [List.all_cons, List.all_nil, nil_kqd, Bool.and_true, Bool.true_and, tuple_kqd fun x (_ : x ∈ M.kinds) => kind_kqd 4 x, tuple_kqd fun x (_ : x ∈ M.imps) => imp_kqd 4 x, tuple_kqd fun x (_ : x ∈ M.funcs) => func_kqd 4 x,
    tuple_kqd fun x (_ : x ∈ M.tabs) => tab_kqd 5 x, tuple_kqd fun x (_ : x ∈ M.mems) => mem_kqd 5 x, tuple_kqd fun x (_ : x ∈ M.globs) => glob_kqd 3 x]
  rfl
section
variable {prog : Program} {w : World} {A : Around} {E : Value → Shared → Prop} {s : Shared} {h₀ : Heap} {L : Addr} {led n₁ n₂ : List (Addr × Obj)} {v v' : Value} {d : Dat} {Q : Value → Shared → Prop}
theorem dat_eq (N : News h₀ L s.heap led) (h1 : DatIn n₁ v d) (h2 : DatIn n₂ v' d) (s1 : ∀ p ∈ n₁, p ∈ led) (s2 : ∀ p ∈ n₂, p ∈ led) (hk : kqdOk 8 d = true) (hu : A.units + 64 < cLine) (h : Q (.bool true) s) :
    wpAny (model prog w) A (compareOp .Eq v v') Q E s := by
  obtain ⟨as, ra⟩ := kqd_in N 8 (h1.mono s1) hk
  obtain ⟨bs, rb⟩ := kqd_in N 8 (h2.mono s2) hk
  have la := kqd_lay 8 d hk
  have sh : SeqAt.shaped (kqdP d) = true := by unfold SeqAt.shaped; rw [la.1, Bool.true_and]; exact decide_eq_true (Nat.le_trans la.2 (by decide))
  refine eq_dataH ra rb sh sh hu ?_
  rw [(kqd_eqv 8 d d 8 hk hk).mpr rfl]
  exact h
theorem strs_dat {T : List (Addr × Obj)} {vs : List Value} {ts : List Str} (h : StrsAre vs ts) : DatAll T vs (ts.map .str) := by
  induction h with
  | nil => exact .nil
  | cons y u _ ih => exact .cons (.str y u) ih
theorem strs_eq {a b : Addr} {vs us : List Value} {ts : List Str} {n k : Nat} (N : News h₀ L s.heap led) (ha : (a, listOf vs.toArray n) ∈ led) (hb : (b, listOf us.toArray k) ∈ led) (hv : StrsAre vs ts) (hw : StrsAre us ts) (hok : ∀ t ∈ ts, PyData.strOk t = true) (hu : A.units + 64 < cLine) (h : Q (.bool true) s) :
    wpAny (model prog w) A (compareOp .Eq (.ref a) (.ref b)) Q E s := by
  refine dat_eq (n₁ := led) (n₂ := led) (d := .list (ts.map .str)) N (.list ha (strs_dat hv)) (.list hb (strs_dat hw)) (fun _ h => h) (fun _ h => h) ?_ hu h
  simp only [kqdOk, List.all_map, List.all_eq_true]
  intro t ht
  exact str_kqd _ (hok t ht)
end
theorem rows_C30_1 : True := by
  k_with_none
  trivial
theorem thr_ground {w : World} {base g h h' : Heap} {env : Env} {L e : Addr} {why : Str} {st : Option Value} {m : Str → Option Value} {led : List (Addr × Obj)} (F : Fr g L h m) (N : News g L h led) (hf : env.frame = some L) (R : Thr w base [env] h e why st h') : Fr g L h' m ∧ News g L h' led := by
  have fm : ∀ b, b ∈ [env].filterMap (·.frame) ↔ b = L := fun b => by
    rw [List.filterMap_cons, hf]; simp
  have up : h.UpToSlots h' := fun b o hb _ => by
    by_cases hm : b ∈ [env].filterMap (·.frame)
    · exact R.slots b o hb hm
    · exact ⟨o.slots, R.keep b o hb hm⟩
  have gn : g.get? L = none := Heap.get?_none_of_le F.above
  refine ⟨⟨up.ns F.ns, fun b o e => R.keep b o (F.keep b o e) fun hm => ?_, F.above⟩, fun p hp => ⟨R.keep _ _ (N p hp).1 fun hm => (N p hp).2.1 ((fm _).mp hm), (N p hp).2⟩⟩
  rw [(fm b).mp hm, gn] at e; cases e
theorem new_at {g h h' : Heap} {L a : Addr} {o : Obj} {m : Str → Option Value} (F : Fr g L h m) (hn : h.get? a = none) (ho : h'.get? a = some o) : h'.get? a = some o ∧ a ≠ L ∧ g.get? a = none := by
  refine ⟨ho, fun e => ?_, ?_⟩
  · obtain ⟨oL, _, _, z, _⟩ := F.ns
    rw [e, z] at hn; cases hn
  · cases z : g.get? a with
    | none => rfl
    | some x => have := F.keep _ _ z; rw [hn] at this; cases this
theorem thr_news {w : World} {base g h h' : Heap} {l : List Env} {L e : Addr} {why : Str} {st : Option Value} {m : Str → Option Value} {led : List (Addr × Obj)} (F : Fr g L h m) (N : News g L h led) (N' : News g L h' led) (R : Thr w base l h e why st h') :
    ∃ dx vs b1 b2 b3 c1 c2 c3, vs[2]? = some .none ∧ News g L h' ((e, excV dx vs) :: (dx, faultD w why b1 b2 b3 c1 c2 c3) :: led) ∧ ∀ p ∈ led, @Ne Nat p.1 e := by
  obtain ⟨fr, keep, slots, inh, new, dx, vs, hv, b1, b2, b3, c1, c2, c3, ndx, hne, he, h1, hh, hdx, hx2⟩ := R
  refine ⟨dx, vs, b1, b2, b3, c1, c2, c3, hx2, fun p hp => ?_, fun p hp e1 => ?_⟩
  · rcases List.mem_cons.mp hp with rfl | hp
    · exact new_at F new he
    · rcases List.mem_cons.mp hp with rfl | hp
      · exact new_at F ndx hdx
      · exact N' p hp
  · have z := (N p hp).1
    have e2 : p.1 = e := e1
    rw [e2, new] at z; cases z
section
variable {w : World} {mean : ExcName → Option Value} {mg mb : Str → Option Value} {A₀ : Around} {g h₁ : Heap} {s' : Shared} {E : Value → Shared → Prop} {L a e : Addr} {m : Str → Option Value} {name : Str} {scope : Scope} {cd : Value} {why : Str} {led : List (Addr × Obj)} {x n : Str} {np pos : Pos} {b₀ : Stmt} {suite : List Stmt} {rest : List ExceptHandler} {Q : Flow → Shared → Prop}
theorem caught_thr (R : Thr w g [envOf name scope L a cd] h₁ e why (some .none) s'.heap) (F : Fr g L h₁ m) (N : News g L h₁ led) (K : Below A₀ g [] g) (X : (Mine.heapK w.params).In g) (TB : Top Mine.viewK (looseW Mine.viewK [Str.ofString "KIND_NAMES", Str.ofString "HEAP_NAMES"]) mean mg mb g)
    (ex : nsIn (Mine.heapK w.params) mainGlobals x = some (some (.ref 58)))
    (k : ∀ h' tk dx vs b1 b2 b3 c1 c2 c3, vs[2]? = some .none → Fr g L h' (fun y => if y = n then some (.ref e) else m y) → News g L h' ((e, excV dx vs) :: (dx, faultD w why b1 b2 b3 c1 c2 c3) :: led) → (∀ p ∈ led, @Ne Nat p.1 e) →
      wpAny (model PySem.Challenge.pw_nm0133_01 w) ((A₀.deeper (envOf name scope L a cd)).mark (some (.ref e))) (execs (b₀ :: suite) (envOf name scope L a cd))
        (fun f s₄ => wpAny (model PySem.Challenge.pw_nm0133_01 w) (A₀.deeper (envOf name scope L a cd)) (do bindName (envOf name scope L a cd) n .none; unbindBehindTheSuite (envOf name scope L a cd) n pos) (fun _ s₅ => Q f s₅) E s₄)
        (AsSuiteRaised (model PySem.Challenge.pw_nm0133_01 w) ((A₀.deeper (envOf name scope L a cd)).mark (some (.ref e))) (envOf name scope L a cd) n pos (notedBy (model PySem.Challenge.pw_nm0133_01 w) ((A₀.deeper (envOf name scope L a cd)).mark (some (.ref e))) (envOf name scope L a cd) (cameBackBy (model PySem.Challenge.pw_nm0133_01 w) (A₀.deeper (envOf name scope L a cd)) (envOf name scope L a cd) E)))
        { s' with heap := h', toks := tk })
    (hk : scope.kind = .function := by rfl) (hlo : (envOf name scope L a cd).kindOf n = some .local := by rfl) (hx : (envOf name scope L a cd).kindOf x = some .globalImplicit := by rfl) (hd : (x == ("__debug__" : Str)) = false := by decide) :
    wpAny (model PySem.Challenge.pw_nm0133_01 w) (A₀.deeper (envOf name scope L a cd)) (noteFrame (.ref e) (envOf name scope L a cd))
      (fun _ s₂ => wpAny (model PySem.Challenge.pw_nm0133_01 w) (A₀.deeper (envOf name scope L a cd)) (setFlight (.ref e) none) (fun _ s₃ =>
        wpAny (model PySem.Challenge.pw_nm0133_01 w) (A₀.deeper (envOf name scope L a cd)) (handleBy (.ref e) (envOf name scope L a cd) (.ExceptHandler (some (.Name x np)) (some n) (b₀ :: suite) pos :: rest)) Q E s₃) E s₂) E s' := by
  have hfr : (A₀.deeper (envOf name scope L a cd)).frames = some [envOf name scope L a cd] := Around.frames_deeper K.stack
  refine note_thr hfr rfl (.inr rfl) R fun h₂ R₂ => ?_
  refine flight_thr (s := { s' with heap := h₂ }) R₂ fun h₃ R₃ => ?_
  obtain ⟨F₃, N₃⟩ := thr_ground F N rfl R₃
  obtain ⟨nm, q, bs, hdct, sn, sub, ab, col, dd, k0, k1, k2, k3, k5, hc⟩ := inv_cls w
  have hC := F₃.keep _ _ (X _ _ hc)
  refine wpAny_handleBy_cons (codeAny_handlers_test (name_K F₃ X (topRead_of TB) ex ?_ hk hx hd)) (by intro q; cases q)
  obtain ⟨fr, keep, slots, inh, new, dx, vs, hv, b1, b2, b3, c1, c2, c3, ndx, hne, he, h1, hh, hdx, hx2⟩ := id R₃
  refine wpAny_excMatches_sub_self hC he rfl (by decide +kernel) (codeAny_handlers_suite_as ?_)
  refine flight_thr (s := { s' with heap := h₃ }) R₃ fun h₄ R₄ => ?_
  obtain ⟨F₄, N₄⟩ := thr_ground F N rfl R₄
  obtain ⟨dx, vs, b1, b2, b3, c1, c2, c3, h2, NN, off⟩ := thr_news F N N₄ R₄
  exact stN F₄ NN (fun h₅ F₅ N₅ => k h₅ _ dx vs b1 b2 b3 c1 c2 c3 h2 F₅ N₅ off) hk hlo
end
theorem ga_find (w : World) : findIn (Mine.heapK w.params) (.ref 58) "__getattribute__" = some (some (.builtin "BaseException.__getattribute__")) := by k_is
theorem gh_find (w : World) : findIn (Mine.heapK w.params) (.ref 58) "__getattr__" = some none := by k_is
section
variable {w : World} {A : Around} {E : Value → Shared → Prop} {s : Shared} {Q : Value → Shared → Prop} {e : Addr} {ox : Obj} {es : List DictEntry} {n : Nat} {name : Str} {v : Value} {attr : Option Value} {expr : Bool}
theorem exc_get (X : (Mine.heapK w.params).In s.heap) (I : InstAt s.heap e ox 58 (some (dictOf es n))) (hh : hasDictIn (Mine.heapK w.params) 58 = true) (ha : findIn (Mine.heapK w.params) (.ref 58) name = some attr) (hn : noGet (Mine.heapK w.params) attr = true) (hl : getL name es = some (some v)) (hv : handedIn v = true)
    (h : Q v { s with toks := s.toks + 1 }) : wpAny (model PySem.Challenge.pw_nm0133_01 w) A (getAttr (.ref e) name expr) Q E s := by
  have hf := findObj_own (K := (Mine.heapK w.params)) (C := 58) (od := dictOf es n) hh ha hn hl
  obtain ⟨nm, q, bs, hdct, sn, sub, ab, col, dd, k0, k1, k2, k3, k5, hc⟩ := inv_cls w
  have hC := X _ _ hc
  obtain ⟨hp, g, d, t, os⟩ := s
  have L0 := I.type (M := model PySem.Challenge.pw_nm0133_01 w)
  have L1 := looks_findIn (M := model PySem.Challenge.pw_nm0133_01 w) X (ga_find w)
  have L2 := looks_findIn (M := model PySem.Challenge.pw_nm0133_01 w) X (gh_find w)
  have LF := looks_find (M := model PySem.Challenge.pw_nm0133_01 w) X I hf
  have f3 := PySem.F.attr_Exception.ga.bind (.ref e)
  have hx0 : (expr && onTheHeap (Value.builtin "BaseException.__getattribute__")) = false := by cases expr <;> rfl
  unfold getAttr getAttrBy
  refine wpAny_bind (wpAny_mkText (wpAny_holding (wpAny_bind (L0.at (wpAny_bind (L1.at ?_))))))
  dsimp only
  rw [if_neg (by decide +kernel)]
  unfold getAttrByItsOwn
  refine wpAny_bind (show wpAny _ _ (typeLookup (.ref 58) "__getattr__") _ _ _ from L2.at ?_)
  refine wpAny_bind (wpAny_attempt (wpAny_holding ?_))
  unfold callGetattribute
  rw [hx0, if_neg (by decide)]
  unfold boundAndCalled
  rw [f3]
  refine wpAny_bind (wpAny_pure (wpAny_call (codeAny_call_builtin PySem.F.attr_Exception.ga.plain PySem.F.entry_bexc_ga ?_)))
  have hk : builtinKind "BaseException.__getattribute__" = some .slot := by decide +kernel
  have hsplit : splitId "BaseException.__getattribute__" = some ("BaseException", "__getattribute__") := by decide +kernel
  have hcB : (Value.ref 58 :: ([.ref 38, .type "Exception", .type "BaseException", .type "object"] : List Value)).contains (.type "BaseException") = true := by decide +kernel
  have ha' := PySem.F.args_bexc_ga (.ref e) (.str name t)
  simp only [checkBuiltinCall, hk, hsplit]
  refine wpAny_bind ?_
  unfold isInstance
  refine wpAny_bind (L0.at ?_)
  refine wpAny_isSubtype_exc hC ?_
  rw [hcB, if_neg (by decide)]
  refine wpAny_of_eq (a := ()) ha' ?_
  unfold Builtin.«object.__getattribute__»
  refine wpAny_bind (wpAny_pure ?_)
  dsimp only
  refine wpAny_bind (wpAny_pure (wpAny_bind (L0.at (wpAny_bind (LF.at ?_)))))
  dsimp only
  refine wpAny_pure ?_
  dsimp only
  show wpAny _ _ (handedOut v) _ _ _
  rw [handedOut_of hv]
  exact wpAny_pure h
end
theorem rows_C31_1 : True := by
  k_with_none
  k_with "call ref" => (k_here; (with_reducible show wpAny _ _ (call (Value.ref 388) [Value.ref _, Value.int _ _]) _ _ _); k_dflt (refine' take_use ?H ?F ?N ?U ?lv ?D ?m ?m2 ?_; (case H => assumption); (case F => k_asm); (case N => k_asm); (case U => (intro oX; k_upd)); (case lv => decide); (case D => assumption); (case m => omega); (case m2 => omega)); intro v'ᵣ t'ᵣ o'ᵣ h'ᵣ tk'ᵣ hv1 hDo'ᵣ F'ᵣ N'ᵣ; (try k_sweep))
  k_with "call ref" => (k_here; (with_reducible show wpAny _ _ (call (Value.ref 105) [Value.bool _, Value.str _ _]) _ _ _); k_dflt (refine' want_use ?H ?F ?N ?lv ?_ ?_; (case H => assumption); (case F => k_asm); (case N => k_asm); (case lv => decide)))
  k_with "leaving ref" => (k_here; k_dflt (refine' leave_thr (by exact Hr.frames (by assumption)) rfl (.inr rfl) ?R ?hE ?hL ?hin ?_; (case R => assumption); (case hE => walk_at "m_ext"); (case hL => exact frame_none (by assumption) (by assumption)); (case hin => assumption)); intro h'ᵣ R'ᵣ)
  k_with "call builtin:len" => (k_here; (with_reducible show wpAny _ _ (call (Value.builtin _) [Value.ref _]) _ _ _); k_dflt (refine' my_len ?N ?m ?l ?_; (case N => k_asm); (case m => k_mem); (case l => ((have hLX := AllV.length (by assumption)); omega))))
  k_with "binaryOp Add ref ref" => (k_here; (with_reducible show wpAny _ _ (binaryOp Operator.Add (Value.ref _) (Value.ref _)) _ _ _); k_dflt (refine' tup_add ?F ?N ?b ?c ?z ?z2 ?_; (case F => k_asm); (case N => k_asm); (case b => k_mem); (case c => k_mem); (case z => omega); (case z2 => omega)); intro t'ᵣ h'ᵣ F'ᵣ N'ᵣ; (try k_sweep))
  k_with "call type:tuple" => (k_here; (with_reducible show wpAny _ _ (call (Value.type _) [Value.ref _]) _ _ _); k_dflt (refine' kde_tupleOf ?k1 ?k2 ?k3 ?k4 rfl ?_; (case k1 => k_asm); (case k2 => k_asm); (case k3 => exact News.isList (by k_asm) (by k_mem)); (case k4 => first | exact Nat.le_of_ble_eq_true rfl | (simp only [List.size_toArray]; omega))); intro D'ᵣ h'ᵣ F'ᵣ N'ᵣ l1; clear l1; (try k_sweep))
  k_with "call type:tuple" => (k_here; (with_reducible show wpAny _ _ (call (Value.type _) [Value.ref _]) _ _ _); k_dflt (refine' call_tuple_tup ?k3 ?_; (case k3 => exact News.isTup (by k_asm) (by k_mem))))
  k_with "call ref" => (k_here; (with_reducible show wpAny _ _ (call (Value.ref 381) _) _ _ _); k_dflt (refine' parts_use ?H ?F ?N ?lv ?ha ?hv ?hl ?hds ?hs ?_; (case H => assumption); (case F => k_asm); (case N => k_asm); (case lv => decide); (case ha => assumption); (case hv => assumption); (case hl => assumption); (case hds => assumption); (case hs => walk_at "m_sub")); intro r'ᵣ nt'ᵣ h'ᵣ tk'ᵣ hdt'ᵣ F'ᵣ N'ᵣ; (try simp only [List.cons_append, List.nil_append, List.append_assoc] at N'ᵣ); (try k_sweep))
  k_with "call ref" => (k_here; (with_reducible show wpAny _ _ (call (Value.ref 348) _) _ _ _); k_dflt (refine' mpl_use ?H ?F ?N ?lv ?hM ?hO ?hs ?_; (case H => assumption); (case F => k_asm); (case N => k_asm); (case lv => decide); (case hM => assumption); (case hO => assumption); (case hs => walk_at "m_sub")); intro r'ᵣ nt'ᵣ h'ᵣ tk'ᵣ hdt'ᵣ F'ᵣ N'ᵣ; (try simp only [List.cons_append, List.nil_append, List.append_assoc] at N'ᵣ); (try k_sweep))
  trivial
theorem rows_C31_2 : True := by
  k_with "call ref" => (k_here; (with_reducible show wpAny _ _ (call (Value.ref 388) [Value.ref _, Value.int _ _]) _ _ _); k_dflt (refine' take_use ?H ?F ?N ?U ?lv ?D ?m ?m2 ?_; (case H => assumption); (case F => k_asm); (case N => k_asm); (case U => (intro oX; k_upd)); (case lv => decide); (case D => exact ⟨_, _, _, rfl, by assumption, by assumption⟩); (case m => omega); (case m2 => omega)); intro v'ᵣ t'ᵣ o'ᵣ h'ᵣ tk'ᵣ hv1 hDo'ᵣ F'ᵣ N'ᵣ; (try k_sweep))
  trivial
theorem strs_take {vs : List Value} {ts : List Str} (h : StrsAre vs ts) : ∀ n, StrsAre (vs.take n) (ts.take n) := by
  induction h with
  | nil => intro n; simpa using StrsAre.nil
  | cons y u _ ih =>
    intro n
    cases n with
    | zero => exact .nil
    | succ n => exact .cons y u (ih n)
theorem due_none {M : Mod} {pg el : Int} {us : List Value} (hn : M.Nums) (h : StrsAre us ((faultsT M pg el).filter (fun t => t != Str.ofString ""))) (hh : headsF M pg el = none) : StrsAre (us.take 1) [] := by
  have q := strs_take h 1
  rw [plain_law hn, hh] at q
  exact q
theorem due_some {M : Mod} {pg el : Int} {us : List Value} {why : Str} (hn : M.Nums) (h : StrsAre us ((faultsT M pg el).filter (fun t => t != Str.ofString ""))) (hh : headsF M pg el = some why) : StrsAre (us.take 1) [why] := by
  have q := strs_take h 1
  rw [plain_law hn, hh] at q
  exact q
section
variable {w : World} {mean : ExcName → Option Value} {mg mb : Str → Option Value} {A A₀ : Around} {base G g : Heap} {outer l : List Env} {env : Env} {s : Shared} {Q E : Value → Shared → Prop} {L : Addr} {m : Str → Option Value} {led : List (Addr × Obj)} {o : Obj}
theorem module_use2 {D : Addr} {led' : Obj → List (Addr × Obj)} {lv : Nat} (H : Hr lv w mean mg mb A₀ A base outer env g L) (F : Fr g L s.heap m) (N : News g L s.heap led) (U : ∀ o', Upd D o o' led (led' o')) (hlv : 70 ≤ lv) (hD : DigO o)
    (h : ∀ x dx T M h1 h2 h3 h4 h5 h6 h7 h8 h9 h10 h11 b1 b2 b3 b4 b5 b6 b7 b8 b9 b10 b11 K1 K2 a3 K4 K5 a6 a7 a8 a9 a10 o' h' tk', ModV (Mem T) x M → M.Ok → M.Nums → Fr g L h' m → News g L h' ((x, instObj 372 dx) :: (dx, dictOf [En h1 "kinds" b1 (.ref K1), En h2 "imports" b2 (.ref K2), En h3 "funcs" b3 (.ref a3), En h4 "tables" b4 (.ref K4), En h5 "memories" b5 (.ref K5), En h6 "globals" b6 (.ref a6), En h7 "exports" b7 (.ref a7), En h8 "start" b8 .none, En h9 "elems" b9 (.ref a8), En h10 "datas" b10 (.ref a9), En h11 "customs" b11 (.ref a10)] 11) :: (led' o' ++ T)) → Q (.ref x) { s with heap := h', toks := tk' }) :
    wpAny (model PySem.Challenge.pw_nm0133_01 w) A (call (.ref 433) [.ref D]) Q E s := by
  refine module_use H F N U hlv hD fun x T M o' h' tk' hD' hM hO F' N' => ?_
  have hM₀ := hM
  obtain ⟨dx, h1, h2, h3, h4, h5, h6, h7, h8, h9, h10, h11, b1, b2, b3, b4, b5, b6, b7, b8, b9, b10, b11, K1, K2, a3, K4, K5, a6, a7, a8, a9, a10, ys, zs, vs, ts, ms, gs, n1, n2, n3, n4, n5, n6, q⟩ := hM
  refine h x dx T M h1 h2 h3 h4 h5 h6 h7 h8 h9 h10 h11 b1 b2 b3 b4 b5 b6 b7 b8 b9 b10 b11 K1 K2 a3 K4 K5 a6 a7 a8 a9 a10 o' h' tk' hM₀ hO (mod_nums hM₀) F' fun p hp => ?_
  rcases List.mem_cons.mp hp with rfl | hp
  · exact N' _ (List.mem_append_left _ q.ob)
  · rcases List.mem_cons.mp hp with rfl | hp
    · exact N' _ (List.mem_append_left _ q.di)
    · exact N' _ (List.mem_append.mpr (List.mem_append.mp hp).symm)
theorem faults_use {x : Addr} {M : Mod} {pg el : Int} {c1 c2 : Tok} {lv : Nat} (H : Hr lv w mean mg mb A₀ A base outer env g L) (F : Fr g L s.heap m) (N : News g L s.heap led) (hlv : 140 ≤ lv) (hM : ModV (Mem led) x M) (hO : M.Ok) (hp : 0 ≤ pg ∧ pg ≤ 100) (he : 0 ≤ el ∧ el ≤ 100)
    (h : ∀ r us n h' tk', StrsAre us ((faultsT M pg el).filter (fun t => t != Str.ofString "")) → us.length ≤ 100 → Fr g L h' m → News g L h' ((r, listOf (List.toArray us) n) :: led) → Q (.ref r) { s with heap := h', toks := tk' }) :
    wpAny (model PySem.Challenge.pw_nm0133_01 w) A (call (.ref 478) [.ref x, .int pg c1, .int el c2]) Q E s :=
  faults_ok (H.at F N hlv) (led_T N) hM hO hp he fun r us n h' tk' xx hr hu hn => h r us n h' tk' hu (by rw [strs_len hu]; exact faults_le hO) (fr_ext F xx) (news_add F N xx hr hn)
theorem heads_use {x z : Addr} {M : Mod} {pg el : Int} {lv : Nat} (H : Hr lv w mean mg mb A₀ A base outer env g L) (F : Fr g L s.heap m) (N : News g L s.heap led) (hlv : 160 ≤ lv) (hM : ModV (Mem led) x M) (hO : M.Ok) (hZ : SizesV (Mem led) z pg el) (hp : 0 ≤ pg ∧ pg ≤ 100) (he : 0 ≤ el ∧ el ≤ 100)
    (hQ : headsF M pg el = none → ∀ h' tk', Fr g L h' m → News g L h' led → Q .none { s with heap := h', toks := tk' })
    (hE : ∀ why, headsF M pg el = some why → ∀ e h' tk', Thr w base (env :: outer) s.heap e why (some .none) h' → E (.ref e) { s with heap := h', toks := tk' }) :
    wpAny (model PySem.Challenge.pw_nm0133_01 w) A (call (.ref 175) [.ref x, .ref z]) Q E s := heads_ok (H.at F N hlv) (led_T N) hM hO hZ hp he (chk_in F N hQ hE)
theorem slice_one {b : Addr} {us : List Value} {n : Nat} {c : Tok} {value slice : PySem.Expr} {prog : Program} (F : Fr g L s.heap m) (N : News g L s.heap led) (hb : (b, listOf (List.toArray us) n) ∈ led) (hz : us.length ≤ 100)
    (h : ∀ D h', Fr g L h' m → News g L h' ((D, listOf (List.toArray (us.take 1)) 0) :: led) → Q (.ref D) { s with heap := h' })
    (hs : subscripted slice false (.ref b) (.ref s.heap.objs.size) = operate [.ref s.heap.objs.size, .ref b] (getItem (.ref b) (.ref s.heap.objs.size))) :
    wpAny (model prog w) A (subscriptTail value slice (.ref b) (.ref s.heap.objs.size)) Q E { s with heap := s.heap.push { cls := .type "slice", data := .fields #[.none, .int 1 c, .none] } } := by
  refine kba_turn (value' := PySem.Expr.Name (PySem.Str.ofString "_") ⟨0, 0, 0, 0⟩) (fun _ => rfl) ?_
  refine kms_slice_lit (zs := us.take 1) F N (News.isList N hb) IsPart.none (IsPart.int 1 c) ?_ (fun D h' F' N' _ => h D h' F' N') hs (fun _ => rfl) (by rw [List.size_toArray, PySem.sizeLine_eq]; omega)
  unfold kms_pick
  simp only [kms_lo, List.drop_zero, List.toList_toArray, kms_hi]
  cases us with
  | nil => rfl
  | cons u r => simp
end
theorem inst_exc {g h : Heap} {L e dx : Addr} {vs : Array Value} {led : List (Addr × Obj)} {od : Obj} (N : News g L h led) (h1 : (e, excV dx vs) ∈ led) (h2 : (dx, od) ∈ led) : InstAt h e (excV dx vs) 58 (some od) := ⟨(N _ h1).1, rfl, rfl, (N _ h2).1⟩
theorem ok_nil : ∀ t ∈ ([] : List Str), PyData.strOk t = true := fun _ ht => (nomatch ht)
theorem ok_one {w : Str} (h : PyData.strOk w = true) : ∀ t ∈ [w], PyData.strOk t = true := fun _ ht => (List.mem_singleton.mp ht) ▸ h
theorem off_sub {T led : List (Addr × Obj)} {e : Addr} (h : ∀ p ∈ led, @Ne Nat p.1 e) (hs : ∀ p ∈ T, p ∈ led) : ∀ p ∈ T, @Ne Nat p.1 e := fun p hp => h p (hs p hp)
theorem exc_getF {w : World} {A : Around} {E : Value → Shared → Prop} {s : Shared} {Q : Value → Shared → Prop} {g : Heap} {L e : Addr} {m : Str → Option Value} {ox : Obj} {es : List DictEntry} {n : Nat} {name : Str} {v : Value} {attr : Option Value} {expr : Bool} (F : Fr g L s.heap m) (X : (Mine.heapK w.params).In g) (I : InstAt s.heap e ox 58 (some (dictOf es n))) (hh : hasDictIn (Mine.heapK w.params) 58 = true) (ha : findIn (Mine.heapK w.params) (.ref 58) name = some attr) (hn : noGet (Mine.heapK w.params) attr = true) (hl : getL name es = some (some v)) (hv : handedIn v = true)
    (h : Q v { s with toks := s.toks + 1 }) : wpAny (model PySem.Challenge.pw_nm0133_01 w) A (getAttr (.ref e) name expr) Q E s := exc_get (X.keeps F.keep) I hh ha hn hl hv h
theorem rows_C31_3 : True := by
  k_with "call ref" => (k_here; (with_reducible show wpAny _ (Around.mark _ (some (Value.ref _))) (call (Value.ref 348) _) _ _ _); k_dflt (refine' mplm_use ?H ?F ?N ?he ?hde ?h2 ?hTe ?lv ?hM ?hO ?hs ?_; (case H => assumption); (case F => k_asm); (case N => k_asm); (case he => k_mem); (case hde => exact rfl); (case h2 => assumption); (case hM => assumption); (case hTe => exact off_sub (by assumption) (by walk_at "m_sub")); (case lv => decide); (case hO => assumption); (case hs => walk_at "m_sub")); intro r'ᵣ nt'ᵣ h'ᵣ tk'ᵣ hdt'ᵣ F'ᵣ N'ᵣ; (try simp only [List.cons_append, List.nil_append, List.append_assoc] at N'ᵣ); (try k_sweep))
  k_with "call ref" => (k_here; (with_reducible show wpAny _ _ (call (Value.ref 433) [Value.ref _]) _ _ _); k_dflt (refine' module_use2 ?H ?F ?N ?U ?lv ?D ?_; (case H => assumption); (case F => k_asm); (case N => k_asm); (case U => (intro oX; k_upd)); (case lv => decide); (case D => assumption)); intro x'ᵣ dx'ᵣ T'ᵣ M'ᵣ h1'ᵣ h2'ᵣ h3'ᵣ h4'ᵣ h5'ᵣ h6'ᵣ h7'ᵣ h8'ᵣ h9'ᵣ h10'ᵣ h11'ᵣ b1'ᵣ b2'ᵣ b3'ᵣ b4'ᵣ b5'ᵣ b6'ᵣ b7'ᵣ b8'ᵣ b9'ᵣ b10'ᵣ b11'ᵣ K1'ᵣ K2'ᵣ a3'ᵣ K4'ᵣ K5'ᵣ a6'ᵣ a7'ᵣ a8'ᵣ a9'ᵣ a10'ᵣ o'ᵣ h'ᵣ tk'ᵣ hMod'ᵣ hOk'ᵣ hNums'ᵣ F'ᵣ N'ᵣ; (try simp only [List.cons_append, List.nil_append, List.append_assoc] at N'ᵣ); (try k_sweep))
  k_with "call ref" => (k_here; (with_reducible show wpAny _ _ (call (Value.ref 478) [Value.ref _, Value.int _ _, Value.int _ _]) _ _ _); k_dflt (refine' faults_use ?H ?F ?N ?lv ?M ?O ?hp ?he ?_; (case H => assumption); (case F => k_asm); (case N => k_asm); (case lv => decide); (case M => exact mod_up (by assumption) (by walk_at "m_sub")); (case O => assumption); (case hp => omega); (case he => omega)); intro r'ᵣ us'ᵣ n'ᵣ h'ᵣ tk'ᵣ hu'ᵣ hul'ᵣ F'ᵣ N'ᵣ; (try k_sweep))
  k_with "call ref" => (k_here; (with_reducible show wpAny _ _ (call (Value.ref 175) [Value.ref _, Value.ref _]) _ _ _); k_dflt (refine' heads_use ?H ?F ?N ?lv ?M ?O ?Z ?hp ?he ?_ ?_; (case H => assumption); (case F => k_asm); (case N => k_asm); (case lv => decide); (case M => exact mod_up (by assumption) (by walk_at "m_sub")); (case O => assumption); (case Z => exact ⟨_, _, _, _, _, _, _, _, _, _, _, _, _, _, _, _, by k_mem, by k_mem⟩); (case hp => omega); (case he => omega)))
  trivial
local macro_rules | `(tactic| walk_at "getAttr ref") => `(tactic| (k_here; k_dflt (refine' exc_getF ?k1 ?k2 ?k3 ?k5 ?k6 ?k7 ?k8 ?k9 ?_; (case k1 => k_asm); (case k2 => k_asm); (case k3 => exact inst_exc (by k_asm) (by k_mem) (by k_mem)); (case k5 => k_is); (case k6 => k_is); (case k7 => k_is); (case k8 => k_get); (case k9 => k_handed); k_whole)))
local macro_rules | `(tactic| walk_at "noteFrame ref") => `(tactic| (k_here; k_dflt (refine' caught_thr ?R ?F ?N ?K ?X ?T ?ex ?_; (case R => assumption); (case F => assumption); (case N => assumption); (case K => assumption); (case X => assumption); (case T => assumption); (case ex => k_is)); intro h' tk' dx' vs' b1' b2' b3' c1' c2' c3' hx2' F' N' hoff'; (try k_sweep)))
local macro_rules | `(tactic| walk_at "compareOp Eq ref ref") => `(tactic| (k_here; (with_reducible show wpAny _ _ (compareOp CmpOp.Eq (Value.ref _) (Value.ref _)) _ _ _); k_dflt (refine' strs_eq ?N ?a ?b ?hv ?hw ?ok ?u ?_; (case N => k_asm); (case a => k_mem); (case b => k_mem); (case hv => first | exact due_none (by assumption) (by assumption) (by assumption) | exact due_some (by assumption) (by assumption) (by assumption)); (case hw => first | exact .nil | exact .cons _ _ .nil); (case ok => first | exact ok_nil | exact ok_one (heads_ok_str (by assumption))); (case u => assumption))))
local macro_rules | `(tactic| walk_at "compareOp Eq ref ref") => `(tactic| (k_here; (with_reducible show wpAny _ _ (compareOp CmpOp.Eq (Value.ref _) (Value.ref _)) _ _ _); k_dflt (refine' dat_eq ?N ?h1 ?h2 ?s1 ?s2 ?k ?u ?_; (case h1 => assumption); (case h2 => assumption); (case N => k_asm); (case s1 => walk_at "m_sub"); (case s2 => walk_at "m_sub"); (case k => exact mod_kqd _); (case u => assumption))))
local macro_rules | `(tactic| walk_at "subscriptTail Call") => `(tactic| (k_here; (with_reducible show wpAny _ _ (subscriptTail _ (PySem.Expr.Slice none (some _) none _) (Value.ref _) (Value.ref _)) _ _ _); k_dflt (refine' slice_one ?F ?N ?b ?z ?_ ?s; (case F => k_asm); (case N => k_asm); (case b => k_mem); (case z => assumption); (case s => with_unfolding_all rfl)); intro D' h' F' N'; (try k_sweep)))
theorem le63 {n : Nat} (h : ¬ ((63 : Nat) : Int) < (n : Int)) : n ≤ 63 := by omega
theorem with_hr {lv : Nat} {w : World} {mean : ExcName → Option Value} {mg mb : Str → Option Value} {A : Around} {base h : Heap} {m : Str → Option Value} {name : Str} {scope : Scope} {a : Addr} {cd : Value} {t : Sem Flow} {Q : Flow → Shared → Prop} {E : Value → Shared → Prop} {s : Shared} (X : (Mine.heapK w.params).In base) (T : Top Mine.viewK (looseW Mine.viewK [Str.ofString "KIND_NAMES", Str.ofString "HEAP_NAMES"]) mean mg mb base) (K : Below A base [] base)
    (_F : Fr base base.objs.size h m) (hk : scope.kind = .function) (hh : A.handled = none) (hd : A.depth + 1 + lv < 900) (hu : A.units + 100 + 10 * lv < 9000)
    (hw : Hr lv w mean mg mb A (A.deeper (envOf name scope base.objs.size a cd)) base [] (envOf name scope base.objs.size a cd) base base.objs.size → wpAny (model PySem.Challenge.pw_nm0133_01 w) (A.deeper (envOf name scope base.objs.size a cd)) t Q E s) :
    wpAny (model PySem.Challenge.pw_nm0133_01 w) (A.deeper (envOf name scope base.objs.size a cd)) t Q E s :=
  hw ⟨X, T, K, Around.frames_deeper K.stack, rfl, hk, hh, by simp only [depth_deeper]; omega, by simp only [Around.deeper_units]; omega⟩
local macro_rules | `(tactic| k_qdec) => `(tactic| decide +kernel)
set_option maxHeartbeats 8000000 in
theorem law_holds : PySem.Challenge.rw_nm0133_01.Holds := by
  refine Mine.hd (by rfl) (by rfl) (by rfl) ?_
  k_go0
  (with_reducible rename Below _ _ _ _ => K0; rename Top _ _ _ _ _ _ => T; rename Fr _ _ _ _ => F; rename Frag.In _ _ => KX; rename ReadsAll _ _ _ _ => ra)
  refine with_hr (lv := 300) KX T K0 F rfl rfl (by decide) (by decide) fun H => ?_
  have HH := H.toH
  have hU := H.u (by decide)
  (with_reducible rename ¬ _ => hcond)
  have hlen := le63 hcond
  clear ra
  (try k_fold)
  k_steps
end Mine
theorem PySem.Challenge.cw_nm0133_01_holds : PySem.Challenge.rw_nm0133_01.Holds := by
  exact Mine.law_holds
