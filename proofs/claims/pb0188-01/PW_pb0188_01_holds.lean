import PyProof.Rows.All
import Wide.All
import OpenK.AllK
import Wide.FinOn
import PySem.Challenge.RW_pb0188_01
set_option Elab.async false
set_option linter.unusedVariables false
set_option linter.unusedSimpArgs false
section
open PySem PySem.W PySem.Calls PyProof.Rows
set_option maxRecDepth 100000
set_option maxHeartbeats 0
noncomputable def Mine.dfOf : Option Stmt → Arguments × List Stmt × Scope
  | some (.FunctionDef _ a b _ _ _ sc _ _ _) => (a, b, sc)
  | _ => ({ posonlyargs := [], args := [], vararg := none, kwonlyargs := [], kw_defaults := [], kwarg := none, defaults := [] }, [], { kind := .function, names := [], isGenerator := false, isCoroutine := false })
noncomputable def Mine.dmOf (j : Nat) : Option Stmt → Arguments × List Stmt × Scope
  | some (.ClassDef _ _ _ b ..) => Mine.dfOf b[j]?
  | _ => Mine.dfOf none
noncomputable def Mine.df (i : Nat) : Arguments × List Stmt × Scope := Mine.dfOf PySem.Challenge.pw_pb0188_01.main.body[i]?
noncomputable def Mine.dm (i j : Nat) : Arguments × List Stmt × Scope := Mine.dmOf j PySem.Challenge.pw_pb0188_01.main.body[i]?
noncomputable def Mine.k2 (P : Params) : Obj := { cls := Value.none, data := Data.dict #[{ hash := PyData.keyHash P (Str.ofString "type.__subclasses__.Exception.0"), key := Value.str (Str.ofString "type.__subclasses__.Exception.0") 234, val := Value.int 48 0 }, { hash := PyData.keyHash P (Str.ofString "type.__subclasses__.Exception.n"), key := Value.str (Str.ofString "type.__subclasses__.Exception.n") 235, val := Value.int 1 0 }] 2 }
noncomputable def Mine.k3 (P : Params) : Obj := { cls := Value.type "dict", data := Data.dict #[{ hash := PyData.keyHash P (Str.ofString "__name__"), key := Value.str (Str.ofString "__name__") 165, val := Value.str (Str.ofString "law_pb0188_01") 595 }, { hash := PyData.keyHash P (Str.ofString "__doc__"), key := Value.str (Str.ofString "__doc__") 166, val := Value.none }, { hash := PyData.keyHash P (Str.ofString "__package__"), key := Value.str (Str.ofString "__package__") 167, val := Value.none }, { hash := PyData.keyHash P (Str.ofString "__loader__"), key := Value.str (Str.ofString "__loader__") 168, val := Value.builtin "__main__.__loader__#opaque" }, { hash := PyData.keyHash P (Str.ofString "__spec__"), key := Value.str (Str.ofString "__spec__") 169, val := Value.none }, { hash := PyData.keyHash P (Str.ofString "__annotations__"), key := Value.str (Str.ofString "__annotations__") 170, val := Value.ref 6 }, { hash := PyData.keyHash P (Str.ofString "__builtins__"), key := Value.str (Str.ofString "__builtins__") 171, val := Value.ref 4 }, { hash := PyData.keyHash P (Str.ofString "__file__"), key := Value.str (Str.ofString "__file__") 173, val := Value.str (Str.ofString "/claim/cut.py") 172 }, { hash := PyData.keyHash P (Str.ofString "__cached__"), key := Value.str (Str.ofString "__cached__") 174, val := Value.none }, { hash := PyData.keyHash P (Str.ofString "_wall"), key := Value.str (Str.ofString "_wall") 193, val := Value.ref 21 }, { hash := PyData.keyHash P (Str.ofString "ShapeError"), key := Value.str (Str.ofString "ShapeError") 237, val := Value.ref 48 }, { hash := PyData.keyHash P (Str.ofString "TableFault"), key := Value.str (Str.ofString "TableFault") 253, val := Value.ref 61 }, { hash := PyData.keyHash P (Str.ofString "FontFault"), key := Value.str (Str.ofString "FontFault") 269, val := Value.ref 73 }, { hash := PyData.keyHash P (Str.ofString "check_room"), key := Value.str (Str.ofString "check_room") 280, val := Value.ref 82 }, { hash := PyData.keyHash P (Str.ofString "number_at"), key := Value.str (Str.ofString "number_at") 291, val := Value.ref 89 }, { hash := PyData.keyHash P (Str.ofString "u32_at"), key := Value.str (Str.ofString "u32_at") 299, val := Value.ref 96 }, { hash := PyData.keyHash P (Str.ofString "OctetsIn"), key := Value.str (Str.ofString "OctetsIn") 403, val := Value.ref 180 }, { hash := PyData.keyHash P (Str.ofString "checksum"), key := Value.str (Str.ofString "checksum") 413, val := Value.ref 191 }, { hash := PyData.keyHash P (Str.ofString "PLAIN"), key := Value.str (Str.ofString "PLAIN") 417, val := Value.int 65536 416 }, { hash := PyData.keyHash P (Str.ofString "OTTO"), key := Value.str (Str.ofString "OTTO") 419, val := Value.int 1330926671 418 }, { hash := PyData.keyHash P (Str.ofString "APPLE"), key := Value.str (Str.ofString "APPLE") 421, val := Value.int 1953658213 420 }, { hash := PyData.keyHash P (Str.ofString "VERSIONS"), key := Value.str (Str.ofString "VERSIONS") 422, val := Value.ref 192 }, { hash := PyData.keyHash P (Str.ofString "HEADER_SIZE"), key := Value.str (Str.ofString "HEADER_SIZE") 424, val := Value.int 12 423 }, { hash := PyData.keyHash P (Str.ofString "RECORD_SIZE"), key := Value.str (Str.ofString "RECORD_SIZE") 426, val := Value.int 16 425 }, { hash := PyData.keyHash P (Str.ofString "MAGIC_SUM"), key := Value.str (Str.ofString "MAGIC_SUM") 428, val := Value.int 2981146554 427 }, { hash := PyData.keyHash P (Str.ofString "ADJUSTMENT"), key := Value.str (Str.ofString "ADJUSTMENT") 430, val := Value.int 8 429 }, { hash := PyData.keyHash P (Str.ofString "Record"), key := Value.str (Str.ofString "Record") 474, val := Value.ref 216 }, { hash := PyData.keyHash P (Str.ofString "directory_size"), key := Value.str (Str.ofString "directory_size") 481, val := Value.ref 227 }, { hash := PyData.keyHash P (Str.ofString "read_record"), key := Value.str (Str.ofString "read_record") 493, val := Value.ref 234 }, { hash := PyData.keyHash P (Str.ofString "need_in_order"), key := Value.str (Str.ofString "need_in_order") 503, val := Value.ref 241 }, { hash := PyData.keyHash P (Str.ofString "need_apart"), key := Value.str (Str.ofString "need_apart") 509, val := Value.ref 246 }, { hash := PyData.keyHash P (Str.ofString "read_records"), key := Value.str (Str.ofString "read_records") 515, val := Value.ref 251 }, { hash := PyData.keyHash P (Str.ofString "tables_of"), key := Value.str (Str.ofString "tables_of") 521, val := Value.ref 256 }, { hash := PyData.keyHash P (Str.ofString "read_directory"), key := Value.str (Str.ofString "read_directory") 530, val := Value.ref 263 }, { hash := PyData.keyHash P (Str.ofString "has_adjustment"), key := Value.str (Str.ofString "has_adjustment") 538, val := Value.ref 270 }, { hash := PyData.keyHash P (Str.ofString "unadjusted"), key := Value.str (Str.ofString "unadjusted") 546, val := Value.ref 277 }, { hash := PyData.keyHash P (Str.ofString "table_sum"), key := Value.str (Str.ofString "table_sum") 554, val := Value.ref 284 }, { hash := PyData.keyHash P (Str.ofString "is_adjusted"), key := Value.str (Str.ofString "is_adjusted") 562, val := Value.ref 291 }, { hash := PyData.keyHash P (Str.ofString "search_numbers"), key := Value.str (Str.ofString "search_numbers") 571, val := Value.ref 298 }, { hash := PyData.keyHash P (Str.ofString "filling_end"), key := Value.str (Str.ofString "filling_end") 577, val := Value.ref 303 }, { hash := PyData.keyHash P (Str.ofString "record_words"), key := Value.str (Str.ofString "record_words") 588, val := Value.ref 310 }, { hash := PyData.keyHash P (Str.ofString "faults_of"), key := Value.str (Str.ofString "faults_of") 594, val := Value.ref 315 }, { hash := PyData.keyHash P (Str.ofString "_law_tags"), key := Value.str (Str.ofString "_law_tags") 601, val := Value.ref 316 }, { hash := PyData.keyHash P (Str.ofString "_law_draw"), key := Value.str (Str.ofString "_law_draw") 611, val := Value.ref 323 }, { hash := PyData.keyHash P (Str.ofString "_law_octets"), key := Value.str (Str.ofString "_law_octets") 617, val := Value.ref 328 }, { hash := PyData.keyHash P (Str.ofString "_law_sum"), key := Value.str (Str.ofString "_law_sum") 623, val := Value.ref 333 }, { hash := PyData.keyHash P (Str.ofString "_law_tables"), key := Value.str (Str.ofString "_law_tables") 629, val := Value.ref 338 }, { hash := PyData.keyHash P (Str.ofString "_law_laid"), key := Value.str (Str.ofString "_law_laid") 643, val := Value.ref 345 }, { hash := PyData.keyHash P (Str.ofString "_law_told_sum"), key := Value.str (Str.ofString "_law_told_sum") 651, val := Value.ref 352 }, { hash := PyData.keyHash P (Str.ofString "_law_words"), key := Value.str (Str.ofString "_law_words") 657, val := Value.ref 357 }, { hash := PyData.keyHash P (Str.ofString "law"), key := Value.str (Str.ofString "law") 663, val := Value.ref 362 }] 51 }
noncomputable def Mine.k15 (P : Params) : Obj := { cls := Value.type "tuple", data := Data.seq #[] }
noncomputable def Mine.k17 (P : Params) : Obj := { cls := Value.type "tuple", data := Data.seq #[Value.str (Str.ofString "k") 190] }
noncomputable def Mine.k18 (P : Params) : Obj := { cls := Value.type "tuple", data := Data.seq #[] }
noncomputable def Mine.k20 (P : Params) : Obj := { cls := Value.type "code", data := Data.fields #[Value.str (Str.ofString "_wall") 187, Value.str (Str.ofString "_wall") 188, Value.str (Str.ofString "/claim/cut.py") 189, Value.int 1 0, Value.int 1 0, Value.int 0 0, Value.int 0 0, Value.int 3 0, Value.ref 15, Value.bool true, Value.int 181 0, Value.ref 16, Value.none, Value.ref 17, Value.ref 18, Value.ref 19, Value.int 191 0, Value.int 1 0, Value.str (Str.ofString "/claim/cut.py") 192] }
noncomputable def Mine.k21 (P : Params) : Obj := { cls := Value.type "function", data := Data.func { name := Str.ofString "_wall", qualname := Str.ofString "_wall", params := (Mine.df 0).1, body := FuncBody.stmts (Mine.df 0).2.1, scope := (Mine.df 0).2.2, globals := 3, closure := [], defaults := Value.none, kwdefaults := Value.none, pyModule := Value.str (Str.ofString "__main__") 164, code := Value.ref 20 } }
noncomputable def Mine.k22 (P : Params) : Obj := { cls := Value.type "tuple", data := Data.seq #[Value.type "Exception"] }
noncomputable def Mine.k25 (P : Params) : Obj := { cls := Value.type "cell", data := Data.cell (some (Value.ref 48)) }
noncomputable def Mine.k30 (P : Params) : Obj := { cls := Value.type "tuple", data := Data.seq #[Value.int (-1) 209] }
noncomputable def Mine.k31 (P : Params) : Obj := { cls := Value.type "tuple", data := Data.seq #[Value.ref 25] }
noncomputable def Mine.k32 (P : Params) : Obj := { cls := Value.type "tuple", data := Data.seq #[Value.str (Str.ofString "__class__") 213] }
noncomputable def Mine.k34 (P : Params) : Obj := { cls := Value.type "tuple", data := Data.seq #[Value.str (Str.ofString "self") 214, Value.str (Str.ofString "what") 215, Value.str (Str.ofString "at") 216] }
noncomputable def Mine.k35 (P : Params) : Obj := { cls := Value.type "tuple", data := Data.seq #[] }
noncomputable def Mine.k37 (P : Params) : Obj := { cls := Value.type "code", data := Data.fields #[Value.str (Str.ofString "__init__") 210, Value.str (Str.ofString "ShapeError.__init__") 211, Value.str (Str.ofString "/claim/cut.py") 212, Value.int 7 0, Value.int 3 0, Value.int 0 0, Value.int 0 0, Value.int 3 0, Value.ref 32, Value.bool true, Value.int 181 0, Value.ref 33, Value.none, Value.ref 34, Value.ref 35, Value.ref 36, Value.int 217 0, Value.int 7 0, Value.str (Str.ofString "/claim/cut.py") 218] }
noncomputable def Mine.k38 (P : Params) : Obj := { cls := Value.type "function", data := Data.func { name := Str.ofString "__init__", qualname := Str.ofString "ShapeError.__init__", params := (Mine.dm 2 0).1, body := FuncBody.stmts (Mine.dm 2 0).2.1, scope := (Mine.dm 2 0).2.2, globals := 3, closure := [(Str.ofString "__class__", 25)], defaults := Value.ref 30, kwdefaults := Value.none, pyModule := Value.str (Str.ofString "joinedhand.errors") 194, code := Value.ref 37, closureTuple := Value.ref 31 } }
noncomputable def Mine.k39 (P : Params) : Obj := { cls := Value.type "tuple", data := Data.seq #[] }
noncomputable def Mine.k41 (P : Params) : Obj := { cls := Value.type "tuple", data := Data.seq #[Value.str (Str.ofString "self") 223] }
noncomputable def Mine.k42 (P : Params) : Obj := { cls := Value.type "tuple", data := Data.seq #[] }
noncomputable def Mine.k44 (P : Params) : Obj := { cls := Value.type "code", data := Data.fields #[Value.str (Str.ofString "told") 220, Value.str (Str.ofString "ShapeError.told") 221, Value.str (Str.ofString "/claim/cut.py") 222, Value.int 12 0, Value.int 1 0, Value.int 0 0, Value.int 0 0, Value.int 3 0, Value.ref 39, Value.bool true, Value.int 181 0, Value.ref 40, Value.none, Value.ref 41, Value.ref 42, Value.ref 43, Value.int 224 0, Value.int 12 0, Value.str (Str.ofString "/claim/cut.py") 225] }
noncomputable def Mine.k45 (P : Params) : Obj := { cls := Value.type "function", data := Data.func { name := Str.ofString "told", qualname := Str.ofString "ShapeError.told", params := (Mine.dm 2 1).1, body := FuncBody.stmts (Mine.dm 2 1).2.1, scope := (Mine.dm 2 1).2.2, globals := 3, closure := [], defaults := Value.none, kwdefaults := Value.none, pyModule := Value.str (Str.ofString "joinedhand.errors") 194, code := Value.ref 44 } }
noncomputable def Mine.k46 (P : Params) : Obj := { cls := Value.type "tuple", data := Data.seq #[Value.str (Str.ofString "at") 227, Value.str (Str.ofString "what") 228] }
noncomputable def Mine.k47 (P : Params) : Obj := { cls := Value.type "dict", data := Data.dict #[{ hash := PyData.keyHash P (Str.ofString "__module__"), key := Value.str (Str.ofString "__module__") 203, val := Value.str (Str.ofString "joinedhand.errors") 194 }, { hash := PyData.keyHash P (Str.ofString "__firstlineno__"), key := Value.str (Str.ofString "__firstlineno__") 207, val := Value.int 5 206 }, { hash := PyData.keyHash P (Str.ofString "__init__"), key := Value.str (Str.ofString "__init__") 219, val := Value.ref 38 }, { hash := PyData.keyHash P (Str.ofString "told"), key := Value.str (Str.ofString "told") 226, val := Value.ref 45 }, { hash := PyData.keyHash P (Str.ofString "__static_attributes__"), key := Value.str (Str.ofString "__static_attributes__") 229, val := Value.ref 46 }, { hash := PyData.keyHash P (Str.ofString "__weakref__"), key := Value.str (Str.ofString "__weakref__") 232, val := Value.ref 49 }, { hash := PyData.keyHash P (Str.ofString "__doc__"), key := Value.str (Str.ofString "__doc__") 233, val := Value.none }] 4 }
noncomputable def Mine.k48 (P : Params) : Obj := { cls := Value.type "type", data := Data.cls { name := Str.ofString "ShapeError", bases := [Value.type "Exception"], mro := [Value.ref 48, Value.type "Exception", Value.type "BaseException", Value.type "object"], ns := 47, qualname := Str.ofString "ShapeError", subclasses := [Value.ref 61, Value.ref 73] }, slots := #[some (Value.ref 22), none, some (Value.str (Str.ofString "ShapeError") 196), some (Value.str (Str.ofString "ShapeError") 204), some (Value.builtin "Exception.__new__"), some (Value.bool true)] }
noncomputable def Mine.k49 (P : Params) : Obj := { cls := Value.type "getset_descriptor", data := Data.fields #[Value.str (Str.ofString "__weakref__") 231, Value.ref 48, Value.builtin "ExceptionGroup.__weakref__", Value.none] }
noncomputable def Mine.k52 (P : Params) : Obj := { cls := Value.type "tuple", data := Data.seq #[Value.ref 48] }
noncomputable def Mine.k59 (P : Params) : Obj := { cls := Value.type "tuple", data := Data.seq #[] }
noncomputable def Mine.k60 (P : Params) : Obj := { cls := Value.type "dict", data := Data.dict #[{ hash := PyData.keyHash P (Str.ofString "__module__"), key := Value.str (Str.ofString "__module__") 245, val := Value.str (Str.ofString "joinedhand.errors") 194 }, { hash := PyData.keyHash P (Str.ofString "__firstlineno__"), key := Value.str (Str.ofString "__firstlineno__") 249, val := Value.int 14 248 }, { hash := PyData.keyHash P (Str.ofString "__static_attributes__"), key := Value.str (Str.ofString "__static_attributes__") 250, val := Value.ref 59 }, { hash := PyData.keyHash P (Str.ofString "__doc__"), key := Value.str (Str.ofString "__doc__") 251, val := Value.none }] 2 }
noncomputable def Mine.k61 (P : Params) : Obj := { cls := Value.type "type", data := Data.cls { name := Str.ofString "TableFault", bases := [Value.ref 48], mro := [Value.ref 61, Value.ref 48, Value.type "Exception", Value.type "BaseException", Value.type "object"], ns := 60, qualname := Str.ofString "TableFault" }, slots := #[some (Value.ref 52), none, some (Value.str (Str.ofString "TableFault") 238), some (Value.str (Str.ofString "TableFault") 246), some (Value.builtin "Exception.__new__"), some (Value.bool true)] }
noncomputable def Mine.k64 (P : Params) : Obj := { cls := Value.type "tuple", data := Data.seq #[Value.ref 48] }
noncomputable def Mine.k71 (P : Params) : Obj := { cls := Value.type "tuple", data := Data.seq #[] }
noncomputable def Mine.k72 (P : Params) : Obj := { cls := Value.type "dict", data := Data.dict #[{ hash := PyData.keyHash P (Str.ofString "__module__"), key := Value.str (Str.ofString "__module__") 261, val := Value.str (Str.ofString "joinedhand.errors") 194 }, { hash := PyData.keyHash P (Str.ofString "__firstlineno__"), key := Value.str (Str.ofString "__firstlineno__") 265, val := Value.int 16 264 }, { hash := PyData.keyHash P (Str.ofString "__static_attributes__"), key := Value.str (Str.ofString "__static_attributes__") 266, val := Value.ref 71 }, { hash := PyData.keyHash P (Str.ofString "__doc__"), key := Value.str (Str.ofString "__doc__") 267, val := Value.none }] 2 }
noncomputable def Mine.k73 (P : Params) : Obj := { cls := Value.type "type", data := Data.cls { name := Str.ofString "FontFault", bases := [Value.ref 48], mro := [Value.ref 73, Value.ref 48, Value.type "Exception", Value.type "BaseException", Value.type "object"], ns := 72, qualname := Str.ofString "FontFault" }, slots := #[some (Value.ref 64), none, some (Value.str (Str.ofString "FontFault") 254), some (Value.str (Str.ofString "FontFault") 262), some (Value.builtin "Exception.__new__"), some (Value.bool true)] }
noncomputable def Mine.k76 (P : Params) : Obj := { cls := Value.type "tuple", data := Data.seq #[] }
noncomputable def Mine.k78 (P : Params) : Obj := { cls := Value.type "tuple", data := Data.seq #[Value.str (Str.ofString "data") 275, Value.str (Str.ofString "at") 276, Value.str (Str.ofString "count") 277] }
noncomputable def Mine.k79 (P : Params) : Obj := { cls := Value.type "tuple", data := Data.seq #[] }
noncomputable def Mine.k81 (P : Params) : Obj := { cls := Value.type "code", data := Data.fields #[Value.str (Str.ofString "check_room") 272, Value.str (Str.ofString "check_room") 273, Value.str (Str.ofString "/claim/cut.py") 274, Value.int 19 0, Value.int 3 0, Value.int 0 0, Value.int 0 0, Value.int 3 0, Value.ref 76, Value.bool true, Value.int 181 0, Value.ref 77, Value.none, Value.ref 78, Value.ref 79, Value.ref 80, Value.int 278 0, Value.int 19 0, Value.str (Str.ofString "/claim/cut.py") 279] }
noncomputable def Mine.k82 (P : Params) : Obj := { cls := Value.type "function", data := Data.func { name := Str.ofString "check_room", qualname := Str.ofString "check_room", params := (Mine.df 6).1, body := FuncBody.stmts (Mine.df 6).2.1, scope := (Mine.df 6).2.2, globals := 3, closure := [], defaults := Value.none, kwdefaults := Value.none, pyModule := Value.str (Str.ofString "joinedhand.octets") 270, code := Value.ref 81 } }
noncomputable def Mine.k83 (P : Params) : Obj := { cls := Value.type "tuple", data := Data.seq #[] }
noncomputable def Mine.k85 (P : Params) : Obj := { cls := Value.type "tuple", data := Data.seq #[Value.str (Str.ofString "data") 284, Value.str (Str.ofString "at") 285, Value.str (Str.ofString "count") 286, Value.str (Str.ofString "total") 287, Value.str (Str.ofString "code") 288] }
noncomputable def Mine.k86 (P : Params) : Obj := { cls := Value.type "tuple", data := Data.seq #[] }
noncomputable def Mine.k88 (P : Params) : Obj := { cls := Value.type "code", data := Data.fields #[Value.str (Str.ofString "number_at") 281, Value.str (Str.ofString "number_at") 282, Value.str (Str.ofString "/claim/cut.py") 283, Value.int 22 0, Value.int 3 0, Value.int 0 0, Value.int 0 0, Value.int 3 0, Value.ref 83, Value.bool true, Value.int 181 0, Value.ref 84, Value.none, Value.ref 85, Value.ref 86, Value.ref 87, Value.int 289 0, Value.int 22 0, Value.str (Str.ofString "/claim/cut.py") 290] }
noncomputable def Mine.k89 (P : Params) : Obj := { cls := Value.type "function", data := Data.func { name := Str.ofString "number_at", qualname := Str.ofString "number_at", params := (Mine.df 7).1, body := FuncBody.stmts (Mine.df 7).2.1, scope := (Mine.df 7).2.2, globals := 3, closure := [], defaults := Value.none, kwdefaults := Value.none, pyModule := Value.str (Str.ofString "joinedhand.octets") 270, code := Value.ref 88 } }
noncomputable def Mine.k90 (P : Params) : Obj := { cls := Value.type "tuple", data := Data.seq #[] }
noncomputable def Mine.k92 (P : Params) : Obj := { cls := Value.type "tuple", data := Data.seq #[Value.str (Str.ofString "data") 295, Value.str (Str.ofString "at") 296] }
noncomputable def Mine.k93 (P : Params) : Obj := { cls := Value.type "tuple", data := Data.seq #[] }
noncomputable def Mine.k95 (P : Params) : Obj := { cls := Value.type "code", data := Data.fields #[Value.str (Str.ofString "u32_at") 292, Value.str (Str.ofString "u32_at") 293, Value.str (Str.ofString "/claim/cut.py") 294, Value.int 28 0, Value.int 2 0, Value.int 0 0, Value.int 0 0, Value.int 3 0, Value.ref 90, Value.bool true, Value.int 181 0, Value.ref 91, Value.none, Value.ref 92, Value.ref 93, Value.ref 94, Value.int 297 0, Value.int 28 0, Value.str (Str.ofString "/claim/cut.py") 298] }
noncomputable def Mine.k96 (P : Params) : Obj := { cls := Value.type "function", data := Data.func { name := Str.ofString "u32_at", qualname := Str.ofString "u32_at", params := (Mine.df 8).1, body := FuncBody.stmts (Mine.df 8).2.1, scope := (Mine.df 8).2.2, globals := 3, closure := [], defaults := Value.none, kwdefaults := Value.none, pyModule := Value.str (Str.ofString "joinedhand.octets") 270, code := Value.ref 95 } }
noncomputable def Mine.k104 (P : Params) : Obj := { cls := Value.type "tuple", data := Data.seq #[Value.int 0 312] }
noncomputable def Mine.k105 (P : Params) : Obj := { cls := Value.type "tuple", data := Data.seq #[] }
noncomputable def Mine.k107 (P : Params) : Obj := { cls := Value.type "tuple", data := Data.seq #[Value.str (Str.ofString "self") 316, Value.str (Str.ofString "data") 317, Value.str (Str.ofString "at") 318] }
noncomputable def Mine.k108 (P : Params) : Obj := { cls := Value.type "tuple", data := Data.seq #[] }
noncomputable def Mine.k110 (P : Params) : Obj := { cls := Value.type "code", data := Data.fields #[Value.str (Str.ofString "__init__") 313, Value.str (Str.ofString "OctetsIn.__init__") 314, Value.str (Str.ofString "/claim/cut.py") 315, Value.int 32 0, Value.int 3 0, Value.int 0 0, Value.int 0 0, Value.int 3 0, Value.ref 105, Value.bool true, Value.int 181 0, Value.ref 106, Value.none, Value.ref 107, Value.ref 108, Value.ref 109, Value.int 319 0, Value.int 32 0, Value.str (Str.ofString "/claim/cut.py") 320] }
noncomputable def Mine.k111 (P : Params) : Obj := { cls := Value.type "function", data := Data.func { name := Str.ofString "__init__", qualname := Str.ofString "OctetsIn.__init__", params := (Mine.dm 9 0).1, body := FuncBody.stmts (Mine.dm 9 0).2.1, scope := (Mine.dm 9 0).2.2, globals := 3, closure := [], defaults := Value.ref 104, kwdefaults := Value.none, pyModule := Value.str (Str.ofString "joinedhand.octets") 270, code := Value.ref 110 } }
noncomputable def Mine.k112 (P : Params) : Obj := { cls := Value.type "tuple", data := Data.seq #[] }
noncomputable def Mine.k114 (P : Params) : Obj := { cls := Value.type "tuple", data := Data.seq #[Value.str (Str.ofString "self") 325, Value.str (Str.ofString "count") 326] }
noncomputable def Mine.k115 (P : Params) : Obj := { cls := Value.type "tuple", data := Data.seq #[] }
noncomputable def Mine.k117 (P : Params) : Obj := { cls := Value.type "code", data := Data.fields #[Value.str (Str.ofString "need") 322, Value.str (Str.ofString "OctetsIn.need") 323, Value.str (Str.ofString "/claim/cut.py") 324, Value.int 36 0, Value.int 2 0, Value.int 0 0, Value.int 0 0, Value.int 3 0, Value.ref 112, Value.bool true, Value.int 181 0, Value.ref 113, Value.none, Value.ref 114, Value.ref 115, Value.ref 116, Value.int 327 0, Value.int 36 0, Value.str (Str.ofString "/claim/cut.py") 328] }
noncomputable def Mine.k118 (P : Params) : Obj := { cls := Value.type "function", data := Data.func { name := Str.ofString "need", qualname := Str.ofString "OctetsIn.need", params := (Mine.dm 9 1).1, body := FuncBody.stmts (Mine.dm 9 1).2.1, scope := (Mine.dm 9 1).2.2, globals := 3, closure := [], defaults := Value.none, kwdefaults := Value.none, pyModule := Value.str (Str.ofString "joinedhand.octets") 270, code := Value.ref 117 } }
noncomputable def Mine.k119 (P : Params) : Obj := { cls := Value.type "tuple", data := Data.seq #[] }
noncomputable def Mine.k121 (P : Params) : Obj := { cls := Value.type "tuple", data := Data.seq #[Value.str (Str.ofString "self") 333, Value.str (Str.ofString "count") 334, Value.str (Str.ofString "found") 335] }
noncomputable def Mine.k122 (P : Params) : Obj := { cls := Value.type "tuple", data := Data.seq #[] }
noncomputable def Mine.k124 (P : Params) : Obj := { cls := Value.type "code", data := Data.fields #[Value.str (Str.ofString "number") 330, Value.str (Str.ofString "OctetsIn.number") 331, Value.str (Str.ofString "/claim/cut.py") 332, Value.int 39 0, Value.int 2 0, Value.int 0 0, Value.int 0 0, Value.int 3 0, Value.ref 119, Value.bool true, Value.int 181 0, Value.ref 120, Value.none, Value.ref 121, Value.ref 122, Value.ref 123, Value.int 336 0, Value.int 39 0, Value.str (Str.ofString "/claim/cut.py") 337] }
noncomputable def Mine.k125 (P : Params) : Obj := { cls := Value.type "function", data := Data.func { name := Str.ofString "number", qualname := Str.ofString "OctetsIn.number", params := (Mine.dm 9 2).1, body := FuncBody.stmts (Mine.dm 9 2).2.1, scope := (Mine.dm 9 2).2.2, globals := 3, closure := [], defaults := Value.none, kwdefaults := Value.none, pyModule := Value.str (Str.ofString "joinedhand.octets") 270, code := Value.ref 124 } }
noncomputable def Mine.k126 (P : Params) : Obj := { cls := Value.type "tuple", data := Data.seq #[] }
noncomputable def Mine.k128 (P : Params) : Obj := { cls := Value.type "tuple", data := Data.seq #[Value.str (Str.ofString "self") 342] }
noncomputable def Mine.k129 (P : Params) : Obj := { cls := Value.type "tuple", data := Data.seq #[] }
noncomputable def Mine.k131 (P : Params) : Obj := { cls := Value.type "code", data := Data.fields #[Value.str (Str.ofString "u8") 339, Value.str (Str.ofString "OctetsIn.u8") 340, Value.str (Str.ofString "/claim/cut.py") 341, Value.int 44 0, Value.int 1 0, Value.int 0 0, Value.int 0 0, Value.int 3 0, Value.ref 126, Value.bool true, Value.int 181 0, Value.ref 127, Value.none, Value.ref 128, Value.ref 129, Value.ref 130, Value.int 343 0, Value.int 44 0, Value.str (Str.ofString "/claim/cut.py") 344] }
noncomputable def Mine.k132 (P : Params) : Obj := { cls := Value.type "function", data := Data.func { name := Str.ofString "u8", qualname := Str.ofString "OctetsIn.u8", params := (Mine.dm 9 3).1, body := FuncBody.stmts (Mine.dm 9 3).2.1, scope := (Mine.dm 9 3).2.2, globals := 3, closure := [], defaults := Value.none, kwdefaults := Value.none, pyModule := Value.str (Str.ofString "joinedhand.octets") 270, code := Value.ref 131 } }
noncomputable def Mine.k133 (P : Params) : Obj := { cls := Value.type "tuple", data := Data.seq #[] }
noncomputable def Mine.k135 (P : Params) : Obj := { cls := Value.type "tuple", data := Data.seq #[Value.str (Str.ofString "self") 349] }
noncomputable def Mine.k136 (P : Params) : Obj := { cls := Value.type "tuple", data := Data.seq #[] }
noncomputable def Mine.k138 (P : Params) : Obj := { cls := Value.type "code", data := Data.fields #[Value.str (Str.ofString "u16") 346, Value.str (Str.ofString "OctetsIn.u16") 347, Value.str (Str.ofString "/claim/cut.py") 348, Value.int 47 0, Value.int 1 0, Value.int 0 0, Value.int 0 0, Value.int 3 0, Value.ref 133, Value.bool true, Value.int 181 0, Value.ref 134, Value.none, Value.ref 135, Value.ref 136, Value.ref 137, Value.int 350 0, Value.int 47 0, Value.str (Str.ofString "/claim/cut.py") 351] }
noncomputable def Mine.k139 (P : Params) : Obj := { cls := Value.type "function", data := Data.func { name := Str.ofString "u16", qualname := Str.ofString "OctetsIn.u16", params := (Mine.dm 9 4).1, body := FuncBody.stmts (Mine.dm 9 4).2.1, scope := (Mine.dm 9 4).2.2, globals := 3, closure := [], defaults := Value.none, kwdefaults := Value.none, pyModule := Value.str (Str.ofString "joinedhand.octets") 270, code := Value.ref 138 } }
noncomputable def Mine.k140 (P : Params) : Obj := { cls := Value.type "tuple", data := Data.seq #[] }
noncomputable def Mine.k142 (P : Params) : Obj := { cls := Value.type "tuple", data := Data.seq #[Value.str (Str.ofString "self") 356] }
noncomputable def Mine.k143 (P : Params) : Obj := { cls := Value.type "tuple", data := Data.seq #[] }
noncomputable def Mine.k145 (P : Params) : Obj := { cls := Value.type "code", data := Data.fields #[Value.str (Str.ofString "i16") 353, Value.str (Str.ofString "OctetsIn.i16") 354, Value.str (Str.ofString "/claim/cut.py") 355, Value.int 50 0, Value.int 1 0, Value.int 0 0, Value.int 0 0, Value.int 3 0, Value.ref 140, Value.bool true, Value.int 181 0, Value.ref 141, Value.none, Value.ref 142, Value.ref 143, Value.ref 144, Value.int 357 0, Value.int 50 0, Value.str (Str.ofString "/claim/cut.py") 358] }
noncomputable def Mine.k146 (P : Params) : Obj := { cls := Value.type "function", data := Data.func { name := Str.ofString "i16", qualname := Str.ofString "OctetsIn.i16", params := (Mine.dm 9 5).1, body := FuncBody.stmts (Mine.dm 9 5).2.1, scope := (Mine.dm 9 5).2.2, globals := 3, closure := [], defaults := Value.none, kwdefaults := Value.none, pyModule := Value.str (Str.ofString "joinedhand.octets") 270, code := Value.ref 145 } }
noncomputable def Mine.k147 (P : Params) : Obj := { cls := Value.type "tuple", data := Data.seq #[] }
noncomputable def Mine.k149 (P : Params) : Obj := { cls := Value.type "tuple", data := Data.seq #[Value.str (Str.ofString "self") 363] }
noncomputable def Mine.k150 (P : Params) : Obj := { cls := Value.type "tuple", data := Data.seq #[] }
noncomputable def Mine.k152 (P : Params) : Obj := { cls := Value.type "code", data := Data.fields #[Value.str (Str.ofString "u24") 360, Value.str (Str.ofString "OctetsIn.u24") 361, Value.str (Str.ofString "/claim/cut.py") 362, Value.int 53 0, Value.int 1 0, Value.int 0 0, Value.int 0 0, Value.int 3 0, Value.ref 147, Value.bool true, Value.int 181 0, Value.ref 148, Value.none, Value.ref 149, Value.ref 150, Value.ref 151, Value.int 364 0, Value.int 53 0, Value.str (Str.ofString "/claim/cut.py") 365] }
noncomputable def Mine.k153 (P : Params) : Obj := { cls := Value.type "function", data := Data.func { name := Str.ofString "u24", qualname := Str.ofString "OctetsIn.u24", params := (Mine.dm 9 6).1, body := FuncBody.stmts (Mine.dm 9 6).2.1, scope := (Mine.dm 9 6).2.2, globals := 3, closure := [], defaults := Value.none, kwdefaults := Value.none, pyModule := Value.str (Str.ofString "joinedhand.octets") 270, code := Value.ref 152 } }
noncomputable def Mine.k154 (P : Params) : Obj := { cls := Value.type "tuple", data := Data.seq #[] }
noncomputable def Mine.k156 (P : Params) : Obj := { cls := Value.type "tuple", data := Data.seq #[Value.str (Str.ofString "self") 370] }
noncomputable def Mine.k157 (P : Params) : Obj := { cls := Value.type "tuple", data := Data.seq #[] }
noncomputable def Mine.k159 (P : Params) : Obj := { cls := Value.type "code", data := Data.fields #[Value.str (Str.ofString "u32") 367, Value.str (Str.ofString "OctetsIn.u32") 368, Value.str (Str.ofString "/claim/cut.py") 369, Value.int 56 0, Value.int 1 0, Value.int 0 0, Value.int 0 0, Value.int 3 0, Value.ref 154, Value.bool true, Value.int 181 0, Value.ref 155, Value.none, Value.ref 156, Value.ref 157, Value.ref 158, Value.int 371 0, Value.int 56 0, Value.str (Str.ofString "/claim/cut.py") 372] }
noncomputable def Mine.k160 (P : Params) : Obj := { cls := Value.type "function", data := Data.func { name := Str.ofString "u32", qualname := Str.ofString "OctetsIn.u32", params := (Mine.dm 9 7).1, body := FuncBody.stmts (Mine.dm 9 7).2.1, scope := (Mine.dm 9 7).2.2, globals := 3, closure := [], defaults := Value.none, kwdefaults := Value.none, pyModule := Value.str (Str.ofString "joinedhand.octets") 270, code := Value.ref 159 } }
noncomputable def Mine.k161 (P : Params) : Obj := { cls := Value.type "tuple", data := Data.seq #[] }
noncomputable def Mine.k164 (P : Params) : Obj := { cls := Value.type "code", data := Data.fields #[Value.str (Str.ofString "tag") 374, Value.str (Str.ofString "OctetsIn.tag") 375, Value.str (Str.ofString "/claim/cut.py") 376, Value.int 59 0, Value.int 1 0, Value.int 0 0, Value.int 0 0, Value.int 3 0, Value.ref 161, Value.bool true, Value.int 181 0, Value.ref 162, Value.none, Value.none, Value.none, Value.ref 163, Value.int 377 0, Value.int 59 0, Value.str (Str.ofString "/claim/cut.py") 378] }
noncomputable def Mine.k165 (P : Params) : Obj := { cls := Value.type "function", data := Data.func { name := Str.ofString "tag", qualname := Str.ofString "OctetsIn.tag", params := (Mine.dm 9 8).1, body := FuncBody.stmts (Mine.dm 9 8).2.1, scope := (Mine.dm 9 8).2.2, globals := 3, closure := [], defaults := Value.none, kwdefaults := Value.none, pyModule := Value.str (Str.ofString "joinedhand.octets") 270, code := Value.ref 164 } }
noncomputable def Mine.k166 (P : Params) : Obj := { cls := Value.type "tuple", data := Data.seq #[] }
noncomputable def Mine.k169 (P : Params) : Obj := { cls := Value.type "code", data := Data.fields #[Value.str (Str.ofString "rows") 380, Value.str (Str.ofString "OctetsIn.rows") 381, Value.str (Str.ofString "/claim/cut.py") 382, Value.int 65 0, Value.int 2 0, Value.int 0 0, Value.int 0 0, Value.int 3 0, Value.ref 166, Value.bool true, Value.int 181 0, Value.ref 167, Value.none, Value.none, Value.none, Value.ref 168, Value.int 383 0, Value.int 65 0, Value.str (Str.ofString "/claim/cut.py") 384] }
noncomputable def Mine.k170 (P : Params) : Obj := { cls := Value.type "function", data := Data.func { name := Str.ofString "rows", qualname := Str.ofString "OctetsIn.rows", params := (Mine.dm 9 9).1, body := FuncBody.stmts (Mine.dm 9 9).2.1, scope := (Mine.dm 9 9).2.2, globals := 3, closure := [], defaults := Value.none, kwdefaults := Value.none, pyModule := Value.str (Str.ofString "joinedhand.octets") 270, code := Value.ref 169 } }
noncomputable def Mine.k171 (P : Params) : Obj := { cls := Value.type "tuple", data := Data.seq #[] }
noncomputable def Mine.k173 (P : Params) : Obj := { cls := Value.type "tuple", data := Data.seq #[Value.str (Str.ofString "self") 389, Value.str (Str.ofString "offset") 390] }
noncomputable def Mine.k174 (P : Params) : Obj := { cls := Value.type "tuple", data := Data.seq #[] }
noncomputable def Mine.k176 (P : Params) : Obj := { cls := Value.type "code", data := Data.fields #[Value.str (Str.ofString "here") 386, Value.str (Str.ofString "OctetsIn.here") 387, Value.str (Str.ofString "/claim/cut.py") 388, Value.int 69 0, Value.int 2 0, Value.int 0 0, Value.int 0 0, Value.int 3 0, Value.ref 171, Value.bool true, Value.int 181 0, Value.ref 172, Value.none, Value.ref 173, Value.ref 174, Value.ref 175, Value.int 391 0, Value.int 69 0, Value.str (Str.ofString "/claim/cut.py") 392] }
noncomputable def Mine.k177 (P : Params) : Obj := { cls := Value.type "function", data := Data.func { name := Str.ofString "here", qualname := Str.ofString "OctetsIn.here", params := (Mine.dm 9 10).1, body := FuncBody.stmts (Mine.dm 9 10).2.1, scope := (Mine.dm 9 10).2.2, globals := 3, closure := [], defaults := Value.none, kwdefaults := Value.none, pyModule := Value.str (Str.ofString "joinedhand.octets") 270, code := Value.ref 176 } }
noncomputable def Mine.k178 (P : Params) : Obj := { cls := Value.type "tuple", data := Data.seq #[Value.str (Str.ofString "at") 394, Value.str (Str.ofString "data") 395] }
noncomputable def Mine.k179 (P : Params) : Obj := { cls := Value.type "dict", data := Data.dict #[{ hash := PyData.keyHash P (Str.ofString "__module__"), key := Value.str (Str.ofString "__module__") 307, val := Value.str (Str.ofString "joinedhand.octets") 270 }, { hash := PyData.keyHash P (Str.ofString "__firstlineno__"), key := Value.str (Str.ofString "__firstlineno__") 311, val := Value.int 30 310 }, { hash := PyData.keyHash P (Str.ofString "__init__"), key := Value.str (Str.ofString "__init__") 321, val := Value.ref 111 }, { hash := PyData.keyHash P (Str.ofString "need"), key := Value.str (Str.ofString "need") 329, val := Value.ref 118 }, { hash := PyData.keyHash P (Str.ofString "number"), key := Value.str (Str.ofString "number") 338, val := Value.ref 125 }, { hash := PyData.keyHash P (Str.ofString "u8"), key := Value.str (Str.ofString "u8") 345, val := Value.ref 132 }, { hash := PyData.keyHash P (Str.ofString "u16"), key := Value.str (Str.ofString "u16") 352, val := Value.ref 139 }, { hash := PyData.keyHash P (Str.ofString "i16"), key := Value.str (Str.ofString "i16") 359, val := Value.ref 146 }, { hash := PyData.keyHash P (Str.ofString "u24"), key := Value.str (Str.ofString "u24") 366, val := Value.ref 153 }, { hash := PyData.keyHash P (Str.ofString "u32"), key := Value.str (Str.ofString "u32") 373, val := Value.ref 160 }, { hash := PyData.keyHash P (Str.ofString "tag"), key := Value.str (Str.ofString "tag") 379, val := Value.ref 165 }, { hash := PyData.keyHash P (Str.ofString "rows"), key := Value.str (Str.ofString "rows") 385, val := Value.ref 170 }, { hash := PyData.keyHash P (Str.ofString "here"), key := Value.str (Str.ofString "here") 393, val := Value.ref 177 }, { hash := PyData.keyHash P (Str.ofString "__static_attributes__"), key := Value.str (Str.ofString "__static_attributes__") 396, val := Value.ref 178 }, { hash := PyData.keyHash P (Str.ofString "__dict__"), key := Value.str (Str.ofString "__dict__") 398, val := Value.ref 181 }, { hash := PyData.keyHash P (Str.ofString "__weakref__"), key := Value.str (Str.ofString "__weakref__") 400, val := Value.ref 182 }, { hash := PyData.keyHash P (Str.ofString "__doc__"), key := Value.str (Str.ofString "__doc__") 401, val := Value.none }] 4 }
noncomputable def Mine.k180 (P : Params) : Obj := { cls := Value.type "type", data := Data.cls { name := Str.ofString "OctetsIn", bases := [Value.type "object"], mro := [Value.ref 180, Value.type "object"], ns := 179, qualname := Str.ofString "OctetsIn" }, slots := #[none, none, some (Value.str (Str.ofString "OctetsIn") 300), some (Value.str (Str.ofString "OctetsIn") 308), some (Value.builtin "object.__new__"), some (Value.bool true)] }
noncomputable def Mine.k181 (P : Params) : Obj := { cls := Value.type "getset_descriptor", data := Data.fields #[Value.str (Str.ofString "__dict__") 397, Value.ref 180, Value.builtin "function.__dict__", Value.builtin "function.__dict__#set"] }
noncomputable def Mine.k182 (P : Params) : Obj := { cls := Value.type "getset_descriptor", data := Data.fields #[Value.str (Str.ofString "__weakref__") 399, Value.ref 180, Value.builtin "ExceptionGroup.__weakref__", Value.none] }
noncomputable def Mine.k185 (P : Params) : Obj := { cls := Value.type "tuple", data := Data.seq #[] }
noncomputable def Mine.k187 (P : Params) : Obj := { cls := Value.type "tuple", data := Data.seq #[Value.str (Str.ofString "octets") 407, Value.str (Str.ofString "filled") 408, Value.str (Str.ofString "total") 409, Value.str (Str.ofString "at") 410] }
noncomputable def Mine.k188 (P : Params) : Obj := { cls := Value.type "tuple", data := Data.seq #[] }
noncomputable def Mine.k190 (P : Params) : Obj := { cls := Value.type "code", data := Data.fields #[Value.str (Str.ofString "checksum") 404, Value.str (Str.ofString "checksum") 405, Value.str (Str.ofString "/claim/cut.py") 406, Value.int 71 0, Value.int 1 0, Value.int 0 0, Value.int 0 0, Value.int 3 0, Value.ref 185, Value.bool true, Value.int 181 0, Value.ref 186, Value.none, Value.ref 187, Value.ref 188, Value.ref 189, Value.int 411 0, Value.int 71 0, Value.str (Str.ofString "/claim/cut.py") 412] }
noncomputable def Mine.k191 (P : Params) : Obj := { cls := Value.type "function", data := Data.func { name := Str.ofString "checksum", qualname := Str.ofString "checksum", params := (Mine.df 10).1, body := FuncBody.stmts (Mine.df 10).2.1, scope := (Mine.df 10).2.2, globals := 3, closure := [], defaults := Value.none, kwdefaults := Value.none, pyModule := Value.str (Str.ofString "joinedhand.octets") 270, code := Value.ref 190 } }
noncomputable def Mine.k192 (P : Params) : Obj := { cls := Value.type "tuple", data := Data.seq #[Value.int 65536 416, Value.int 1330926671 418, Value.int 1953658213 420] }
noncomputable def Mine.k200 (P : Params) : Obj := { cls := Value.type "tuple", data := Data.seq #[] }
noncomputable def Mine.k202 (P : Params) : Obj := { cls := Value.type "tuple", data := Data.seq #[Value.str (Str.ofString "self") 446, Value.str (Str.ofString "tag") 447, Value.str (Str.ofString "total") 448, Value.str (Str.ofString "begin") 449, Value.str (Str.ofString "length") 450, Value.str (Str.ofString "where") 451] }
noncomputable def Mine.k203 (P : Params) : Obj := { cls := Value.type "tuple", data := Data.seq #[] }
noncomputable def Mine.k205 (P : Params) : Obj := { cls := Value.type "code", data := Data.fields #[Value.str (Str.ofString "__init__") 443, Value.str (Str.ofString "Record.__init__") 444, Value.str (Str.ofString "/claim/cut.py") 445, Value.int 88 0, Value.int 6 0, Value.int 0 0, Value.int 0 0, Value.int 3 0, Value.ref 200, Value.bool true, Value.int 181 0, Value.ref 201, Value.none, Value.ref 202, Value.ref 203, Value.ref 204, Value.int 452 0, Value.int 88 0, Value.str (Str.ofString "/claim/cut.py") 453] }
noncomputable def Mine.k206 (P : Params) : Obj := { cls := Value.type "function", data := Data.func { name := Str.ofString "__init__", qualname := Str.ofString "Record.__init__", params := (Mine.dm 20 0).1, body := FuncBody.stmts (Mine.dm 20 0).2.1, scope := (Mine.dm 20 0).2.2, globals := 3, closure := [], defaults := Value.none, kwdefaults := Value.none, pyModule := Value.str (Str.ofString "joinedhand.sfnt") 414, code := Value.ref 205 } }
noncomputable def Mine.k207 (P : Params) : Obj := { cls := Value.type "tuple", data := Data.seq #[] }
noncomputable def Mine.k209 (P : Params) : Obj := { cls := Value.type "tuple", data := Data.seq #[Value.str (Str.ofString "self") 458] }
noncomputable def Mine.k210 (P : Params) : Obj := { cls := Value.type "tuple", data := Data.seq #[] }
noncomputable def Mine.k212 (P : Params) : Obj := { cls := Value.type "code", data := Data.fields #[Value.str (Str.ofString "end") 455, Value.str (Str.ofString "Record.end") 456, Value.str (Str.ofString "/claim/cut.py") 457, Value.int 95 0, Value.int 1 0, Value.int 0 0, Value.int 0 0, Value.int 3 0, Value.ref 207, Value.bool true, Value.int 181 0, Value.ref 208, Value.none, Value.ref 209, Value.ref 210, Value.ref 211, Value.int 459 0, Value.int 95 0, Value.str (Str.ofString "/claim/cut.py") 460] }
noncomputable def Mine.k213 (P : Params) : Obj := { cls := Value.type "function", data := Data.func { name := Str.ofString "end", qualname := Str.ofString "Record.end", params := (Mine.dm 20 1).1, body := FuncBody.stmts (Mine.dm 20 1).2.1, scope := (Mine.dm 20 1).2.2, globals := 3, closure := [], defaults := Value.none, kwdefaults := Value.none, pyModule := Value.str (Str.ofString "joinedhand.sfnt") 414, code := Value.ref 212 } }
noncomputable def Mine.k214 (P : Params) : Obj := { cls := Value.type "tuple", data := Data.seq #[Value.str (Str.ofString "begin") 462, Value.str (Str.ofString "length") 463, Value.str (Str.ofString "tag") 464, Value.str (Str.ofString "total") 465, Value.str (Str.ofString "where") 466] }
noncomputable def Mine.k215 (P : Params) : Obj := { cls := Value.type "dict", data := Data.dict #[{ hash := PyData.keyHash P (Str.ofString "__module__"), key := Value.str (Str.ofString "__module__") 438, val := Value.str (Str.ofString "joinedhand.sfnt") 414 }, { hash := PyData.keyHash P (Str.ofString "__firstlineno__"), key := Value.str (Str.ofString "__firstlineno__") 442, val := Value.int 86 441 }, { hash := PyData.keyHash P (Str.ofString "__init__"), key := Value.str (Str.ofString "__init__") 454, val := Value.ref 206 }, { hash := PyData.keyHash P (Str.ofString "end"), key := Value.str (Str.ofString "end") 461, val := Value.ref 213 }, { hash := PyData.keyHash P (Str.ofString "__static_attributes__"), key := Value.str (Str.ofString "__static_attributes__") 467, val := Value.ref 214 }, { hash := PyData.keyHash P (Str.ofString "__dict__"), key := Value.str (Str.ofString "__dict__") 469, val := Value.ref 217 }, { hash := PyData.keyHash P (Str.ofString "__weakref__"), key := Value.str (Str.ofString "__weakref__") 471, val := Value.ref 218 }, { hash := PyData.keyHash P (Str.ofString "__doc__"), key := Value.str (Str.ofString "__doc__") 472, val := Value.none }] 4 }
noncomputable def Mine.k216 (P : Params) : Obj := { cls := Value.type "type", data := Data.cls { name := Str.ofString "Record", bases := [Value.type "object"], mro := [Value.ref 216, Value.type "object"], ns := 215, qualname := Str.ofString "Record" }, slots := #[none, none, some (Value.str (Str.ofString "Record") 431), some (Value.str (Str.ofString "Record") 439), some (Value.builtin "object.__new__"), some (Value.bool true)] }
noncomputable def Mine.k217 (P : Params) : Obj := { cls := Value.type "getset_descriptor", data := Data.fields #[Value.str (Str.ofString "__dict__") 468, Value.ref 216, Value.builtin "function.__dict__", Value.builtin "function.__dict__#set"] }
noncomputable def Mine.k218 (P : Params) : Obj := { cls := Value.type "getset_descriptor", data := Data.fields #[Value.str (Str.ofString "__weakref__") 470, Value.ref 216, Value.builtin "ExceptionGroup.__weakref__", Value.none] }
noncomputable def Mine.k221 (P : Params) : Obj := { cls := Value.type "tuple", data := Data.seq #[] }
noncomputable def Mine.k223 (P : Params) : Obj := { cls := Value.type "tuple", data := Data.seq #[Value.str (Str.ofString "count") 478] }
noncomputable def Mine.k224 (P : Params) : Obj := { cls := Value.type "tuple", data := Data.seq #[] }
noncomputable def Mine.k226 (P : Params) : Obj := { cls := Value.type "code", data := Data.fields #[Value.str (Str.ofString "directory_size") 475, Value.str (Str.ofString "directory_size") 476, Value.str (Str.ofString "/claim/cut.py") 477, Value.int 97 0, Value.int 1 0, Value.int 0 0, Value.int 0 0, Value.int 3 0, Value.ref 221, Value.bool true, Value.int 181 0, Value.ref 222, Value.none, Value.ref 223, Value.ref 224, Value.ref 225, Value.int 479 0, Value.int 97 0, Value.str (Str.ofString "/claim/cut.py") 480] }
noncomputable def Mine.k227 (P : Params) : Obj := { cls := Value.type "function", data := Data.func { name := Str.ofString "directory_size", qualname := Str.ofString "directory_size", params := (Mine.df 21).1, body := FuncBody.stmts (Mine.df 21).2.1, scope := (Mine.df 21).2.2, globals := 3, closure := [], defaults := Value.none, kwdefaults := Value.none, pyModule := Value.str (Str.ofString "joinedhand.sfnt") 414, code := Value.ref 226 } }
noncomputable def Mine.k228 (P : Params) : Obj := { cls := Value.type "tuple", data := Data.seq #[] }
noncomputable def Mine.k230 (P : Params) : Obj := { cls := Value.type "tuple", data := Data.seq #[Value.str (Str.ofString "data") 485, Value.str (Str.ofString "where") 486, Value.str (Str.ofString "reader") 487, Value.str (Str.ofString "tag") 488, Value.str (Str.ofString "total") 489, Value.str (Str.ofString "begin") 490] }
noncomputable def Mine.k231 (P : Params) : Obj := { cls := Value.type "tuple", data := Data.seq #[] }
noncomputable def Mine.k233 (P : Params) : Obj := { cls := Value.type "code", data := Data.fields #[Value.str (Str.ofString "read_record") 482, Value.str (Str.ofString "read_record") 483, Value.str (Str.ofString "/claim/cut.py") 484, Value.int 99 0, Value.int 2 0, Value.int 0 0, Value.int 0 0, Value.int 3 0, Value.ref 228, Value.bool true, Value.int 181 0, Value.ref 229, Value.none, Value.ref 230, Value.ref 231, Value.ref 232, Value.int 491 0, Value.int 99 0, Value.str (Str.ofString "/claim/cut.py") 492] }
noncomputable def Mine.k234 (P : Params) : Obj := { cls := Value.type "function", data := Data.func { name := Str.ofString "read_record", qualname := Str.ofString "read_record", params := (Mine.df 22).1, body := FuncBody.stmts (Mine.df 22).2.1, scope := (Mine.df 22).2.2, globals := 3, closure := [], defaults := Value.none, kwdefaults := Value.none, pyModule := Value.str (Str.ofString "joinedhand.sfnt") 414, code := Value.ref 233 } }
noncomputable def Mine.k235 (P : Params) : Obj := { cls := Value.type "tuple", data := Data.seq #[] }
noncomputable def Mine.k237 (P : Params) : Obj := { cls := Value.type "tuple", data := Data.seq #[Value.str (Str.ofString "records") 497, Value.str (Str.ofString "size") 498, Value.str (Str.ofString "at") 499, Value.str (Str.ofString "one") 500] }
noncomputable def Mine.k238 (P : Params) : Obj := { cls := Value.type "tuple", data := Data.seq #[] }
noncomputable def Mine.k240 (P : Params) : Obj := { cls := Value.type "code", data := Data.fields #[Value.str (Str.ofString "need_in_order") 494, Value.str (Str.ofString "need_in_order") 495, Value.str (Str.ofString "/claim/cut.py") 496, Value.int 105 0, Value.int 2 0, Value.int 0 0, Value.int 0 0, Value.int 3 0, Value.ref 235, Value.bool true, Value.int 181 0, Value.ref 236, Value.none, Value.ref 237, Value.ref 238, Value.ref 239, Value.int 501 0, Value.int 105 0, Value.str (Str.ofString "/claim/cut.py") 502] }
noncomputable def Mine.k241 (P : Params) : Obj := { cls := Value.type "function", data := Data.func { name := Str.ofString "need_in_order", qualname := Str.ofString "need_in_order", params := (Mine.df 23).1, body := FuncBody.stmts (Mine.df 23).2.1, scope := (Mine.df 23).2.2, globals := 3, closure := [], defaults := Value.none, kwdefaults := Value.none, pyModule := Value.str (Str.ofString "joinedhand.sfnt") 414, code := Value.ref 240 } }
noncomputable def Mine.k242 (P : Params) : Obj := { cls := Value.type "tuple", data := Data.seq #[] }
noncomputable def Mine.k245 (P : Params) : Obj := { cls := Value.type "code", data := Data.fields #[Value.str (Str.ofString "need_apart") 504, Value.str (Str.ofString "need_apart") 505, Value.str (Str.ofString "/claim/cut.py") 506, Value.int 112 0, Value.int 3 0, Value.int 0 0, Value.int 0 0, Value.int 3 0, Value.ref 242, Value.bool true, Value.int 181 0, Value.ref 243, Value.none, Value.none, Value.none, Value.ref 244, Value.int 507 0, Value.int 112 0, Value.str (Str.ofString "/claim/cut.py") 508] }
noncomputable def Mine.k246 (P : Params) : Obj := { cls := Value.type "function", data := Data.func { name := Str.ofString "need_apart", qualname := Str.ofString "need_apart", params := (Mine.df 24).1, body := FuncBody.stmts (Mine.df 24).2.1, scope := (Mine.df 24).2.2, globals := 3, closure := [], defaults := Value.none, kwdefaults := Value.none, pyModule := Value.str (Str.ofString "joinedhand.sfnt") 414, code := Value.ref 245 } }
noncomputable def Mine.k247 (P : Params) : Obj := { cls := Value.type "tuple", data := Data.seq #[] }
noncomputable def Mine.k250 (P : Params) : Obj := { cls := Value.type "code", data := Data.fields #[Value.str (Str.ofString "read_records") 510, Value.str (Str.ofString "read_records") 511, Value.str (Str.ofString "/claim/cut.py") 512, Value.int 119 0, Value.int 2 0, Value.int 0 0, Value.int 0 0, Value.int 3 0, Value.ref 247, Value.bool true, Value.int 181 0, Value.ref 248, Value.none, Value.none, Value.none, Value.ref 249, Value.int 513 0, Value.int 119 0, Value.str (Str.ofString "/claim/cut.py") 514] }
noncomputable def Mine.k251 (P : Params) : Obj := { cls := Value.type "function", data := Data.func { name := Str.ofString "read_records", qualname := Str.ofString "read_records", params := (Mine.df 25).1, body := FuncBody.stmts (Mine.df 25).2.1, scope := (Mine.df 25).2.2, globals := 3, closure := [], defaults := Value.none, kwdefaults := Value.none, pyModule := Value.str (Str.ofString "joinedhand.sfnt") 414, code := Value.ref 250 } }
noncomputable def Mine.k252 (P : Params) : Obj := { cls := Value.type "tuple", data := Data.seq #[] }
noncomputable def Mine.k255 (P : Params) : Obj := { cls := Value.type "code", data := Data.fields #[Value.str (Str.ofString "tables_of") 516, Value.str (Str.ofString "tables_of") 517, Value.str (Str.ofString "/claim/cut.py") 518, Value.int 133 0, Value.int 2 0, Value.int 0 0, Value.int 0 0, Value.int 3 0, Value.ref 252, Value.bool true, Value.int 181 0, Value.ref 253, Value.none, Value.none, Value.none, Value.ref 254, Value.int 519 0, Value.int 133 0, Value.str (Str.ofString "/claim/cut.py") 520] }
noncomputable def Mine.k256 (P : Params) : Obj := { cls := Value.type "function", data := Data.func { name := Str.ofString "tables_of", qualname := Str.ofString "tables_of", params := (Mine.df 26).1, body := FuncBody.stmts (Mine.df 26).2.1, scope := (Mine.df 26).2.2, globals := 3, closure := [], defaults := Value.none, kwdefaults := Value.none, pyModule := Value.str (Str.ofString "joinedhand.sfnt") 414, code := Value.ref 255 } }
noncomputable def Mine.k257 (P : Params) : Obj := { cls := Value.type "tuple", data := Data.seq #[] }
noncomputable def Mine.k259 (P : Params) : Obj := { cls := Value.type "tuple", data := Data.seq #[Value.str (Str.ofString "data") 525, Value.str (Str.ofString "version") 526, Value.str (Str.ofString "records") 527] }
noncomputable def Mine.k260 (P : Params) : Obj := { cls := Value.type "tuple", data := Data.seq #[] }
noncomputable def Mine.k262 (P : Params) : Obj := { cls := Value.type "code", data := Data.fields #[Value.str (Str.ofString "read_directory") 522, Value.str (Str.ofString "read_directory") 523, Value.str (Str.ofString "/claim/cut.py") 524, Value.int 135 0, Value.int 1 0, Value.int 0 0, Value.int 0 0, Value.int 3 0, Value.ref 257, Value.bool true, Value.int 181 0, Value.ref 258, Value.none, Value.ref 259, Value.ref 260, Value.ref 261, Value.int 528 0, Value.int 135 0, Value.str (Str.ofString "/claim/cut.py") 529] }
noncomputable def Mine.k263 (P : Params) : Obj := { cls := Value.type "function", data := Data.func { name := Str.ofString "read_directory", qualname := Str.ofString "read_directory", params := (Mine.df 27).1, body := FuncBody.stmts (Mine.df 27).2.1, scope := (Mine.df 27).2.2, globals := 3, closure := [], defaults := Value.none, kwdefaults := Value.none, pyModule := Value.str (Str.ofString "joinedhand.sfnt") 414, code := Value.ref 262 } }
noncomputable def Mine.k264 (P : Params) : Obj := { cls := Value.type "tuple", data := Data.seq #[] }
noncomputable def Mine.k266 (P : Params) : Obj := { cls := Value.type "tuple", data := Data.seq #[Value.str (Str.ofString "tag") 534, Value.str (Str.ofString "octets") 535] }
noncomputable def Mine.k267 (P : Params) : Obj := { cls := Value.type "tuple", data := Data.seq #[] }
noncomputable def Mine.k269 (P : Params) : Obj := { cls := Value.type "code", data := Data.fields #[Value.str (Str.ofString "has_adjustment") 531, Value.str (Str.ofString "has_adjustment") 532, Value.str (Str.ofString "/claim/cut.py") 533, Value.int 138 0, Value.int 2 0, Value.int 0 0, Value.int 0 0, Value.int 3 0, Value.ref 264, Value.bool true, Value.int 181 0, Value.ref 265, Value.none, Value.ref 266, Value.ref 267, Value.ref 268, Value.int 536 0, Value.int 138 0, Value.str (Str.ofString "/claim/cut.py") 537] }
noncomputable def Mine.k270 (P : Params) : Obj := { cls := Value.type "function", data := Data.func { name := Str.ofString "has_adjustment", qualname := Str.ofString "has_adjustment", params := (Mine.df 28).1, body := FuncBody.stmts (Mine.df 28).2.1, scope := (Mine.df 28).2.2, globals := 3, closure := [], defaults := Value.none, kwdefaults := Value.none, pyModule := Value.str (Str.ofString "joinedhand.sfnt") 414, code := Value.ref 269 } }
noncomputable def Mine.k271 (P : Params) : Obj := { cls := Value.type "tuple", data := Data.seq #[] }
noncomputable def Mine.k273 (P : Params) : Obj := { cls := Value.type "tuple", data := Data.seq #[Value.str (Str.ofString "tag") 542, Value.str (Str.ofString "octets") 543] }
noncomputable def Mine.k274 (P : Params) : Obj := { cls := Value.type "tuple", data := Data.seq #[] }
noncomputable def Mine.k276 (P : Params) : Obj := { cls := Value.type "code", data := Data.fields #[Value.str (Str.ofString "unadjusted") 539, Value.str (Str.ofString "unadjusted") 540, Value.str (Str.ofString "/claim/cut.py") 541, Value.int 140 0, Value.int 2 0, Value.int 0 0, Value.int 0 0, Value.int 3 0, Value.ref 271, Value.bool true, Value.int 181 0, Value.ref 272, Value.none, Value.ref 273, Value.ref 274, Value.ref 275, Value.int 544 0, Value.int 140 0, Value.str (Str.ofString "/claim/cut.py") 545] }
noncomputable def Mine.k277 (P : Params) : Obj := { cls := Value.type "function", data := Data.func { name := Str.ofString "unadjusted", qualname := Str.ofString "unadjusted", params := (Mine.df 29).1, body := FuncBody.stmts (Mine.df 29).2.1, scope := (Mine.df 29).2.2, globals := 3, closure := [], defaults := Value.none, kwdefaults := Value.none, pyModule := Value.str (Str.ofString "joinedhand.sfnt") 414, code := Value.ref 276 } }
noncomputable def Mine.k278 (P : Params) : Obj := { cls := Value.type "tuple", data := Data.seq #[] }
noncomputable def Mine.k280 (P : Params) : Obj := { cls := Value.type "tuple", data := Data.seq #[Value.str (Str.ofString "tag") 550, Value.str (Str.ofString "octets") 551] }
noncomputable def Mine.k281 (P : Params) : Obj := { cls := Value.type "tuple", data := Data.seq #[] }
noncomputable def Mine.k283 (P : Params) : Obj := { cls := Value.type "code", data := Data.fields #[Value.str (Str.ofString "table_sum") 547, Value.str (Str.ofString "table_sum") 548, Value.str (Str.ofString "/claim/cut.py") 549, Value.int 144 0, Value.int 2 0, Value.int 0 0, Value.int 0 0, Value.int 3 0, Value.ref 278, Value.bool true, Value.int 181 0, Value.ref 279, Value.none, Value.ref 280, Value.ref 281, Value.ref 282, Value.int 552 0, Value.int 144 0, Value.str (Str.ofString "/claim/cut.py") 553] }
noncomputable def Mine.k284 (P : Params) : Obj := { cls := Value.type "function", data := Data.func { name := Str.ofString "table_sum", qualname := Str.ofString "table_sum", params := (Mine.df 30).1, body := FuncBody.stmts (Mine.df 30).2.1, scope := (Mine.df 30).2.2, globals := 3, closure := [], defaults := Value.none, kwdefaults := Value.none, pyModule := Value.str (Str.ofString "joinedhand.sfnt") 414, code := Value.ref 283 } }
noncomputable def Mine.k285 (P : Params) : Obj := { cls := Value.type "tuple", data := Data.seq #[] }
noncomputable def Mine.k287 (P : Params) : Obj := { cls := Value.type "tuple", data := Data.seq #[Value.str (Str.ofString "data") 558, Value.str (Str.ofString "tables") 559] }
noncomputable def Mine.k288 (P : Params) : Obj := { cls := Value.type "tuple", data := Data.seq #[] }
noncomputable def Mine.k290 (P : Params) : Obj := { cls := Value.type "code", data := Data.fields #[Value.str (Str.ofString "is_adjusted") 555, Value.str (Str.ofString "is_adjusted") 556, Value.str (Str.ofString "/claim/cut.py") 557, Value.int 146 0, Value.int 1 0, Value.int 0 0, Value.int 0 0, Value.int 3 0, Value.ref 285, Value.bool true, Value.int 181 0, Value.ref 286, Value.none, Value.ref 287, Value.ref 288, Value.ref 289, Value.int 560 0, Value.int 146 0, Value.str (Str.ofString "/claim/cut.py") 561] }
noncomputable def Mine.k291 (P : Params) : Obj := { cls := Value.type "function", data := Data.func { name := Str.ofString "is_adjusted", qualname := Str.ofString "is_adjusted", params := (Mine.df 31).1, body := FuncBody.stmts (Mine.df 31).2.1, scope := (Mine.df 31).2.2, globals := 3, closure := [], defaults := Value.none, kwdefaults := Value.none, pyModule := Value.str (Str.ofString "joinedhand.sfnt") 414, code := Value.ref 290 } }
noncomputable def Mine.k292 (P : Params) : Obj := { cls := Value.type "tuple", data := Data.seq #[] }
noncomputable def Mine.k294 (P : Params) : Obj := { cls := Value.type "tuple", data := Data.seq #[Value.str (Str.ofString "count") 566, Value.str (Str.ofString "power") 567, Value.str (Str.ofString "steps") 568] }
noncomputable def Mine.k295 (P : Params) : Obj := { cls := Value.type "tuple", data := Data.seq #[] }
noncomputable def Mine.k297 (P : Params) : Obj := { cls := Value.type "code", data := Data.fields #[Value.str (Str.ofString "search_numbers") 563, Value.str (Str.ofString "search_numbers") 564, Value.str (Str.ofString "/claim/cut.py") 565, Value.int 149 0, Value.int 1 0, Value.int 0 0, Value.int 0 0, Value.int 3 0, Value.ref 292, Value.bool true, Value.int 181 0, Value.ref 293, Value.none, Value.ref 294, Value.ref 295, Value.ref 296, Value.int 569 0, Value.int 149 0, Value.str (Str.ofString "/claim/cut.py") 570] }
noncomputable def Mine.k298 (P : Params) : Obj := { cls := Value.type "function", data := Data.func { name := Str.ofString "search_numbers", qualname := Str.ofString "search_numbers", params := (Mine.df 32).1, body := FuncBody.stmts (Mine.df 32).2.1, scope := (Mine.df 32).2.2, globals := 3, closure := [], defaults := Value.none, kwdefaults := Value.none, pyModule := Value.str (Str.ofString "joinedhand.sfnt") 414, code := Value.ref 297 } }
noncomputable def Mine.k299 (P : Params) : Obj := { cls := Value.type "tuple", data := Data.seq #[] }
noncomputable def Mine.k302 (P : Params) : Obj := { cls := Value.type "code", data := Data.fields #[Value.str (Str.ofString "filling_end") 572, Value.str (Str.ofString "filling_end") 573, Value.str (Str.ofString "/claim/cut.py") 574, Value.int 155 0, Value.int 3 0, Value.int 0 0, Value.int 0 0, Value.int 3 0, Value.ref 299, Value.bool true, Value.int 181 0, Value.ref 300, Value.none, Value.none, Value.none, Value.ref 301, Value.int 575 0, Value.int 155 0, Value.str (Str.ofString "/claim/cut.py") 576] }
noncomputable def Mine.k303 (P : Params) : Obj := { cls := Value.type "function", data := Data.func { name := Str.ofString "filling_end", qualname := Str.ofString "filling_end", params := (Mine.df 33).1, body := FuncBody.stmts (Mine.df 33).2.1, scope := (Mine.df 33).2.2, globals := 3, closure := [], defaults := Value.none, kwdefaults := Value.none, pyModule := Value.str (Str.ofString "joinedhand.sfnt") 414, code := Value.ref 302 } }
noncomputable def Mine.k304 (P : Params) : Obj := { cls := Value.type "tuple", data := Data.seq #[] }
noncomputable def Mine.k306 (P : Params) : Obj := { cls := Value.type "tuple", data := Data.seq #[Value.str (Str.ofString "data") 581, Value.str (Str.ofString "records") 582, Value.str (Str.ofString "one") 583, Value.str (Str.ofString "found") 584, Value.str (Str.ofString "behind") 585] }
noncomputable def Mine.k307 (P : Params) : Obj := { cls := Value.type "tuple", data := Data.seq #[] }
noncomputable def Mine.k309 (P : Params) : Obj := { cls := Value.type "code", data := Data.fields #[Value.str (Str.ofString "record_words") 578, Value.str (Str.ofString "record_words") 579, Value.str (Str.ofString "/claim/cut.py") 580, Value.int 158 0, Value.int 3 0, Value.int 0 0, Value.int 0 0, Value.int 3 0, Value.ref 304, Value.bool true, Value.int 181 0, Value.ref 305, Value.none, Value.ref 306, Value.ref 307, Value.ref 308, Value.int 586 0, Value.int 158 0, Value.str (Str.ofString "/claim/cut.py") 587] }
noncomputable def Mine.k310 (P : Params) : Obj := { cls := Value.type "function", data := Data.func { name := Str.ofString "record_words", qualname := Str.ofString "record_words", params := (Mine.df 34).1, body := FuncBody.stmts (Mine.df 34).2.1, scope := (Mine.df 34).2.2, globals := 3, closure := [], defaults := Value.none, kwdefaults := Value.none, pyModule := Value.str (Str.ofString "joinedhand.sfnt") 414, code := Value.ref 309 } }
noncomputable def Mine.k311 (P : Params) : Obj := { cls := Value.type "tuple", data := Data.seq #[] }
noncomputable def Mine.k314 (P : Params) : Obj := { cls := Value.type "code", data := Data.fields #[Value.str (Str.ofString "faults_of") 589, Value.str (Str.ofString "faults_of") 590, Value.str (Str.ofString "/claim/cut.py") 591, Value.int 168 0, Value.int 1 0, Value.int 0 0, Value.int 0 0, Value.int 3 0, Value.ref 311, Value.bool true, Value.int 181 0, Value.ref 312, Value.none, Value.none, Value.none, Value.ref 313, Value.int 592 0, Value.int 168 0, Value.str (Str.ofString "/claim/cut.py") 593] }
noncomputable def Mine.k315 (P : Params) : Obj := { cls := Value.type "function", data := Data.func { name := Str.ofString "faults_of", qualname := Str.ofString "faults_of", params := (Mine.df 35).1, body := FuncBody.stmts (Mine.df 35).2.1, scope := (Mine.df 35).2.2, globals := 3, closure := [], defaults := Value.none, kwdefaults := Value.none, pyModule := Value.str (Str.ofString "joinedhand.sfnt") 414, code := Value.ref 314 } }
noncomputable def Mine.k316 (P : Params) : Obj := { cls := Value.type "tuple", data := Data.seq #[Value.str (Str.ofString "cmap") 597, Value.str (Str.ofString "head") 598, Value.str (Str.ofString "maxp") 599, Value.str (Str.ofString "zzzz") 600] }
noncomputable def Mine.k317 (P : Params) : Obj := { cls := Value.type "tuple", data := Data.seq #[] }
noncomputable def Mine.k319 (P : Params) : Obj := { cls := Value.type "tuple", data := Data.seq #[Value.str (Str.ofString "tape") 605, Value.str (Str.ofString "many") 606, Value.str (Str.ofString "cells") 607, Value.str (Str.ofString "at") 608] }
noncomputable def Mine.k320 (P : Params) : Obj := { cls := Value.type "tuple", data := Data.seq #[] }
noncomputable def Mine.k322 (P : Params) : Obj := { cls := Value.type "code", data := Data.fields #[Value.str (Str.ofString "_law_draw") 602, Value.str (Str.ofString "_law_draw") 603, Value.str (Str.ofString "/claim/cut.py") 604, Value.int 180 0, Value.int 2 0, Value.int 0 0, Value.int 0 0, Value.int 3 0, Value.ref 317, Value.bool true, Value.int 181 0, Value.ref 318, Value.none, Value.ref 319, Value.ref 320, Value.ref 321, Value.int 609 0, Value.int 180 0, Value.str (Str.ofString "/claim/cut.py") 610] }
noncomputable def Mine.k323 (P : Params) : Obj := { cls := Value.type "function", data := Data.func { name := Str.ofString "_law_draw", qualname := Str.ofString "_law_draw", params := (Mine.df 38).1, body := FuncBody.stmts (Mine.df 38).2.1, scope := (Mine.df 38).2.2, globals := 3, closure := [], defaults := Value.none, kwdefaults := Value.none, pyModule := Value.str (Str.ofString "law_pb0188_01") 595, code := Value.ref 322 } }
noncomputable def Mine.k324 (P : Params) : Obj := { cls := Value.type "tuple", data := Data.seq #[] }
noncomputable def Mine.k327 (P : Params) : Obj := { cls := Value.type "code", data := Data.fields #[Value.str (Str.ofString "_law_octets") 612, Value.str (Str.ofString "_law_octets") 613, Value.str (Str.ofString "/claim/cut.py") 614, Value.int 184 0, Value.int 2 0, Value.int 0 0, Value.int 0 0, Value.int 3 0, Value.ref 324, Value.bool true, Value.int 181 0, Value.ref 325, Value.none, Value.none, Value.none, Value.ref 326, Value.int 615 0, Value.int 184 0, Value.str (Str.ofString "/claim/cut.py") 616] }
noncomputable def Mine.k328 (P : Params) : Obj := { cls := Value.type "function", data := Data.func { name := Str.ofString "_law_octets", qualname := Str.ofString "_law_octets", params := (Mine.df 39).1, body := FuncBody.stmts (Mine.df 39).2.1, scope := (Mine.df 39).2.2, globals := 3, closure := [], defaults := Value.none, kwdefaults := Value.none, pyModule := Value.str (Str.ofString "law_pb0188_01") 595, code := Value.ref 327 } }
noncomputable def Mine.k329 (P : Params) : Obj := { cls := Value.type "tuple", data := Data.seq #[] }
noncomputable def Mine.k332 (P : Params) : Obj := { cls := Value.type "code", data := Data.fields #[Value.str (Str.ofString "_law_sum") 618, Value.str (Str.ofString "_law_sum") 619, Value.str (Str.ofString "/claim/cut.py") 620, Value.int 186 0, Value.int 1 0, Value.int 0 0, Value.int 0 0, Value.int 3 0, Value.ref 329, Value.bool true, Value.int 181 0, Value.ref 330, Value.none, Value.none, Value.none, Value.ref 331, Value.int 621 0, Value.int 186 0, Value.str (Str.ofString "/claim/cut.py") 622] }
noncomputable def Mine.k333 (P : Params) : Obj := { cls := Value.type "function", data := Data.func { name := Str.ofString "_law_sum", qualname := Str.ofString "_law_sum", params := (Mine.df 40).1, body := FuncBody.stmts (Mine.df 40).2.1, scope := (Mine.df 40).2.2, globals := 3, closure := [], defaults := Value.none, kwdefaults := Value.none, pyModule := Value.str (Str.ofString "law_pb0188_01") 595, code := Value.ref 332 } }
noncomputable def Mine.k334 (P : Params) : Obj := { cls := Value.type "tuple", data := Data.seq #[] }
noncomputable def Mine.k337 (P : Params) : Obj := { cls := Value.type "code", data := Data.fields #[Value.str (Str.ofString "_law_tables") 624, Value.str (Str.ofString "_law_tables") 625, Value.str (Str.ofString "/claim/cut.py") 626, Value.int 188 0, Value.int 1 0, Value.int 0 0, Value.int 0 0, Value.int 3 0, Value.ref 334, Value.bool true, Value.int 181 0, Value.ref 335, Value.none, Value.none, Value.none, Value.ref 336, Value.int 627 0, Value.int 188 0, Value.str (Str.ofString "/claim/cut.py") 628] }
noncomputable def Mine.k338 (P : Params) : Obj := { cls := Value.type "function", data := Data.func { name := Str.ofString "_law_tables", qualname := Str.ofString "_law_tables", params := (Mine.df 41).1, body := FuncBody.stmts (Mine.df 41).2.1, scope := (Mine.df 41).2.2, globals := 3, closure := [], defaults := Value.none, kwdefaults := Value.none, pyModule := Value.str (Str.ofString "law_pb0188_01") 595, code := Value.ref 337 } }
noncomputable def Mine.k339 (P : Params) : Obj := { cls := Value.type "tuple", data := Data.seq #[] }
noncomputable def Mine.k341 (P : Params) : Obj := { cls := Value.type "tuple", data := Data.seq #[Value.str (Str.ofString "tape") 633, Value.str (Str.ofString "tables") 634, Value.str (Str.ofString "at") 635, Value.str (Str.ofString "octets") 636, Value.str (Str.ofString "places") 637, Value.str (Str.ofString "left") 638, Value.str (Str.ofString "tag") 639, Value.str (Str.ofString "gap") 640] }
noncomputable def Mine.k342 (P : Params) : Obj := { cls := Value.type "tuple", data := Data.seq #[] }
noncomputable def Mine.k344 (P : Params) : Obj := { cls := Value.type "code", data := Data.fields #[Value.str (Str.ofString "_law_laid") 630, Value.str (Str.ofString "_law_laid") 631, Value.str (Str.ofString "/claim/cut.py") 632, Value.int 193 0, Value.int 2 0, Value.int 0 0, Value.int 0 0, Value.int 3 0, Value.ref 339, Value.bool true, Value.int 181 0, Value.ref 340, Value.none, Value.ref 341, Value.ref 342, Value.ref 343, Value.int 641 0, Value.int 193 0, Value.str (Str.ofString "/claim/cut.py") 642] }
noncomputable def Mine.k345 (P : Params) : Obj := { cls := Value.type "function", data := Data.func { name := Str.ofString "_law_laid", qualname := Str.ofString "_law_laid", params := (Mine.df 42).1, body := FuncBody.stmts (Mine.df 42).2.1, scope := (Mine.df 42).2.2, globals := 3, closure := [], defaults := Value.none, kwdefaults := Value.none, pyModule := Value.str (Str.ofString "law_pb0188_01") 595, code := Value.ref 344 } }
noncomputable def Mine.k346 (P : Params) : Obj := { cls := Value.type "tuple", data := Data.seq #[] }
noncomputable def Mine.k348 (P : Params) : Obj := { cls := Value.type "tuple", data := Data.seq #[Value.str (Str.ofString "tag") 647, Value.str (Str.ofString "octets") 648] }
noncomputable def Mine.k349 (P : Params) : Obj := { cls := Value.type "tuple", data := Data.seq #[] }
noncomputable def Mine.k351 (P : Params) : Obj := { cls := Value.type "code", data := Data.fields #[Value.str (Str.ofString "_law_told_sum") 644, Value.str (Str.ofString "_law_told_sum") 645, Value.str (Str.ofString "/claim/cut.py") 646, Value.int 203 0, Value.int 2 0, Value.int 0 0, Value.int 0 0, Value.int 3 0, Value.ref 346, Value.bool true, Value.int 181 0, Value.ref 347, Value.none, Value.ref 348, Value.ref 349, Value.ref 350, Value.int 649 0, Value.int 203 0, Value.str (Str.ofString "/claim/cut.py") 650] }
noncomputable def Mine.k352 (P : Params) : Obj := { cls := Value.type "function", data := Data.func { name := Str.ofString "_law_told_sum", qualname := Str.ofString "_law_told_sum", params := (Mine.df 43).1, body := FuncBody.stmts (Mine.df 43).2.1, scope := (Mine.df 43).2.2, globals := 3, closure := [], defaults := Value.none, kwdefaults := Value.none, pyModule := Value.str (Str.ofString "law_pb0188_01") 595, code := Value.ref 351 } }
noncomputable def Mine.k353 (P : Params) : Obj := { cls := Value.type "tuple", data := Data.seq #[] }
noncomputable def Mine.k356 (P : Params) : Obj := { cls := Value.type "code", data := Data.fields #[Value.str (Str.ofString "_law_words") 652, Value.str (Str.ofString "_law_words") 653, Value.str (Str.ofString "/claim/cut.py") 654, Value.int 205 0, Value.int 5 0, Value.int 0 0, Value.int 0 0, Value.int 3 0, Value.ref 353, Value.bool true, Value.int 181 0, Value.ref 354, Value.none, Value.none, Value.none, Value.ref 355, Value.int 655 0, Value.int 205 0, Value.str (Str.ofString "/claim/cut.py") 656] }
noncomputable def Mine.k357 (P : Params) : Obj := { cls := Value.type "function", data := Data.func { name := Str.ofString "_law_words", qualname := Str.ofString "_law_words", params := (Mine.df 44).1, body := FuncBody.stmts (Mine.df 44).2.1, scope := (Mine.df 44).2.2, globals := 3, closure := [], defaults := Value.none, kwdefaults := Value.none, pyModule := Value.str (Str.ofString "law_pb0188_01") 595, code := Value.ref 356 } }
noncomputable def Mine.k358 (P : Params) : Obj := { cls := Value.type "tuple", data := Data.seq #[] }
noncomputable def Mine.k361 (P : Params) : Obj := { cls := Value.type "code", data := Data.fields #[Value.str (Str.ofString "law") 658, Value.str (Str.ofString "law") 659, Value.str (Str.ofString "/claim/cut.py") 660, Value.int 211 0, Value.int 1 0, Value.int 0 0, Value.int 0 0, Value.int 3 0, Value.ref 358, Value.bool true, Value.int 181 0, Value.ref 359, Value.none, Value.none, Value.none, Value.ref 360, Value.int 661 0, Value.int 211 0, Value.str (Str.ofString "/claim/cut.py") 662] }
noncomputable def Mine.k362 (P : Params) : Obj := { cls := Value.type "function", data := Data.func { name := Str.ofString "law", qualname := Str.ofString "law", params := (Mine.df 45).1, body := FuncBody.stmts (Mine.df 45).2.1, scope := (Mine.df 45).2.2, globals := 3, closure := [], defaults := Value.none, kwdefaults := Value.none, pyModule := Value.str (Str.ofString "law_pb0188_01") 595, code := Value.ref 361 } }
noncomputable def Mine.kp0 (P : Params) : Frag := [(2, Mine.k2 P), (3, Mine.k3 P), (15, Mine.k15 P), (17, Mine.k17 P), (18, Mine.k18 P), (20, Mine.k20 P), (21, Mine.k21 P), (22, Mine.k22 P), (25, Mine.k25 P), (30, Mine.k30 P), (31, Mine.k31 P), (32, Mine.k32 P), (34, Mine.k34 P), (35, Mine.k35 P), (37, Mine.k37 P), (38, Mine.k38 P), (39, Mine.k39 P), (41, Mine.k41 P), (42, Mine.k42 P), (44, Mine.k44 P)]
noncomputable def Mine.kp1 (P : Params) : Frag := [(45, Mine.k45 P), (46, Mine.k46 P), (47, Mine.k47 P), (48, Mine.k48 P), (49, Mine.k49 P), (52, Mine.k52 P), (59, Mine.k59 P), (60, Mine.k60 P), (61, Mine.k61 P), (64, Mine.k64 P), (71, Mine.k71 P), (72, Mine.k72 P), (73, Mine.k73 P), (76, Mine.k76 P), (78, Mine.k78 P), (79, Mine.k79 P), (81, Mine.k81 P), (82, Mine.k82 P), (83, Mine.k83 P), (85, Mine.k85 P)]
noncomputable def Mine.kp2 (P : Params) : Frag := [(86, Mine.k86 P), (88, Mine.k88 P), (89, Mine.k89 P), (90, Mine.k90 P), (92, Mine.k92 P), (93, Mine.k93 P), (95, Mine.k95 P), (96, Mine.k96 P), (104, Mine.k104 P), (105, Mine.k105 P), (107, Mine.k107 P), (108, Mine.k108 P), (110, Mine.k110 P), (111, Mine.k111 P), (112, Mine.k112 P), (114, Mine.k114 P), (115, Mine.k115 P), (117, Mine.k117 P), (118, Mine.k118 P), (119, Mine.k119 P)]
noncomputable def Mine.kp3 (P : Params) : Frag := [(121, Mine.k121 P), (122, Mine.k122 P), (124, Mine.k124 P), (125, Mine.k125 P), (126, Mine.k126 P), (128, Mine.k128 P), (129, Mine.k129 P), (131, Mine.k131 P), (132, Mine.k132 P), (133, Mine.k133 P), (135, Mine.k135 P), (136, Mine.k136 P), (138, Mine.k138 P), (139, Mine.k139 P), (140, Mine.k140 P), (142, Mine.k142 P), (143, Mine.k143 P), (145, Mine.k145 P), (146, Mine.k146 P), (147, Mine.k147 P)]
noncomputable def Mine.kp4 (P : Params) : Frag := [(149, Mine.k149 P), (150, Mine.k150 P), (152, Mine.k152 P), (153, Mine.k153 P), (154, Mine.k154 P), (156, Mine.k156 P), (157, Mine.k157 P), (159, Mine.k159 P), (160, Mine.k160 P), (161, Mine.k161 P), (164, Mine.k164 P), (165, Mine.k165 P), (166, Mine.k166 P), (169, Mine.k169 P), (170, Mine.k170 P), (171, Mine.k171 P), (173, Mine.k173 P), (174, Mine.k174 P), (176, Mine.k176 P), (177, Mine.k177 P)]
noncomputable def Mine.kp5 (P : Params) : Frag := [(178, Mine.k178 P), (179, Mine.k179 P), (180, Mine.k180 P), (181, Mine.k181 P), (182, Mine.k182 P), (185, Mine.k185 P), (187, Mine.k187 P), (188, Mine.k188 P), (190, Mine.k190 P), (191, Mine.k191 P), (192, Mine.k192 P), (200, Mine.k200 P), (202, Mine.k202 P), (203, Mine.k203 P), (205, Mine.k205 P), (206, Mine.k206 P), (207, Mine.k207 P), (209, Mine.k209 P), (210, Mine.k210 P), (212, Mine.k212 P)]
noncomputable def Mine.kp6 (P : Params) : Frag := [(213, Mine.k213 P), (214, Mine.k214 P), (215, Mine.k215 P), (216, Mine.k216 P), (217, Mine.k217 P), (218, Mine.k218 P), (221, Mine.k221 P), (223, Mine.k223 P), (224, Mine.k224 P), (226, Mine.k226 P), (227, Mine.k227 P), (228, Mine.k228 P), (230, Mine.k230 P), (231, Mine.k231 P), (233, Mine.k233 P), (234, Mine.k234 P), (235, Mine.k235 P), (237, Mine.k237 P), (238, Mine.k238 P), (240, Mine.k240 P)]
noncomputable def Mine.kp7 (P : Params) : Frag := [(241, Mine.k241 P), (242, Mine.k242 P), (245, Mine.k245 P), (246, Mine.k246 P), (247, Mine.k247 P), (250, Mine.k250 P), (251, Mine.k251 P), (252, Mine.k252 P), (255, Mine.k255 P), (256, Mine.k256 P), (257, Mine.k257 P), (259, Mine.k259 P), (260, Mine.k260 P), (262, Mine.k262 P), (263, Mine.k263 P), (264, Mine.k264 P), (266, Mine.k266 P), (267, Mine.k267 P), (269, Mine.k269 P), (270, Mine.k270 P)]
noncomputable def Mine.kp8 (P : Params) : Frag := [(271, Mine.k271 P), (273, Mine.k273 P), (274, Mine.k274 P), (276, Mine.k276 P), (277, Mine.k277 P), (278, Mine.k278 P), (280, Mine.k280 P), (281, Mine.k281 P), (283, Mine.k283 P), (284, Mine.k284 P), (285, Mine.k285 P), (287, Mine.k287 P), (288, Mine.k288 P), (290, Mine.k290 P), (291, Mine.k291 P), (292, Mine.k292 P), (294, Mine.k294 P), (295, Mine.k295 P), (297, Mine.k297 P), (298, Mine.k298 P)]
noncomputable def Mine.kp9 (P : Params) : Frag := [(299, Mine.k299 P), (302, Mine.k302 P), (303, Mine.k303 P), (304, Mine.k304 P), (306, Mine.k306 P), (307, Mine.k307 P), (309, Mine.k309 P), (310, Mine.k310 P), (311, Mine.k311 P), (314, Mine.k314 P), (315, Mine.k315 P), (316, Mine.k316 P), (317, Mine.k317 P), (319, Mine.k319 P), (320, Mine.k320 P), (322, Mine.k322 P), (323, Mine.k323 P), (324, Mine.k324 P), (327, Mine.k327 P), (328, Mine.k328 P)]
noncomputable def Mine.kp10 (P : Params) : Frag := [(329, Mine.k329 P), (332, Mine.k332 P), (333, Mine.k333 P), (334, Mine.k334 P), (337, Mine.k337 P), (338, Mine.k338 P), (339, Mine.k339 P), (341, Mine.k341 P), (342, Mine.k342 P), (344, Mine.k344 P), (345, Mine.k345 P), (346, Mine.k346 P), (348, Mine.k348 P), (349, Mine.k349 P), (351, Mine.k351 P), (352, Mine.k352 P), (353, Mine.k353 P), (356, Mine.k356 P), (357, Mine.k357 P), (358, Mine.k358 P)]
noncomputable def Mine.kp11 (P : Params) : Frag := [(361, Mine.k361 P), (362, Mine.k362 P)]
noncomputable def Mine.K0 (P : Params) : Frag := Mine.kp0 P ++ (Mine.kp1 P ++ (Mine.kp2 P ++ (Mine.kp3 P ++ (Mine.kp4 P ++ (Mine.kp5 P ++ (Mine.kp6 P ++ (Mine.kp7 P ++ (Mine.kp8 P ++ (Mine.kp9 P ++ (Mine.kp10 P ++ (Mine.kp11 P)))))))))))

end
section
open PySem PySem.W PySem.Calls PyProof.Rows
namespace Mine

inductive D where
  | none
  | bool (b : Bool)
  | int (i : Int)
  | str (s : Str)
  | bytes (b : List UInt8)
  | list (l : List D)
  | tup (l : List D)
  | dict (ks : List Str) (vs : List D)
  | rng (a b c : Int)
  | inst (C : Addr) (ks : List Str) (vs : List D)
  | obj (C dx : Addr)
  | raw (v : Value)

structure Pm where
  prog : Program
  w : World
  σ : Shared
  hT : Heap
  mg : Str → Option Value
  mb : Str → Option Value
  KX : (Mine.K0 w.params).In hT
  g : hT.Ns mainGlobals mg
  b : hT.Ns builtinsNs mb
  nolimit : hT.NoLimit
  builtins : ∀ x : Str, x ≠ "__name__" → mb x = bootBuiltins x

noncomputable def Pm.K (P : Pm) : Frag := Mine.K0 P.w.params

noncomputable def Ents : List DictEntry → List Str → List Value → Prop
  | [], [], [] => True
  | e :: es, k :: ks, v :: vs => (∃ t, e.key = .str k t) ∧ e.val = v ∧ Ents es ks vs
  | _, _, _ => False

noncomputable def DAt (P : Pm) (h : Heap) (a : Addr) (kvs : List (Str × Value)) (ep : Nat) : Prop := (a == sysModules) = false ∧ h.DictAt (strKind P.prog P.w) a kvs ep
theorem DAt.at {P : Pm} {h h' : Heap} {a : Addr} {kvs : List (Str × Value)} {ep : Nat} (x : DAt P h a kvs ep) (e : ∀ o, h.get? a = some o → h'.get? a = some o) : DAt P h' a kvs ep := ⟨x.1, x.2.at e⟩

mutual
noncomputable def Rep (P : Pm) (X : Addr → Prop) (h : Heap) : Value → D → Prop
  | v, .none => v = .none
  | v, .bool b => v = .bool b
  | v, .int i => ∃ t, v = .int i t
  | v, .str s => ∃ t, v = .str s t
  | v, .bytes b => ∃ t, v = .bytes b.toArray t
  | v, .list ds => ∃ a vs, v = .ref a ∧ ¬ X a ∧ h.PlainList a vs.toArray ∧ Reps P X h vs ds
  | v, .tup ds => ∃ a vs, v = .ref a ∧ ¬ X a ∧ h.IsTuple a vs.toArray ∧ Reps P X h vs ds
  | v, .dict ks ds => ∃ a vs ep, v = .ref a ∧ ¬ X a ∧ DAt P h a (ks.zip vs) ep ∧ ks.length = vs.length ∧ Reps P X h vs ds
  | v, .rng x y z => ∃ a t u r, v = .ref a ∧ ¬ X a ∧ IsRange h a x y z t u r
  | v, .inst C ks ds => ∃ a dx es n vs, v = .ref a ∧ ¬ X a ∧ ¬ X dx ∧ h.get? a = some (instObj C dx) ∧ h.get? dx = some (dictOf es n) ∧ Ents es ks vs ∧ Reps P X h vs ds
  | v, .obj C dx => ∃ a, v = .ref a ∧ ¬ X a ∧ h.get? a = some (instObj C dx)
  | v, .raw u => v = u
noncomputable def Reps (P : Pm) (X : Addr → Prop) (h : Heap) : List Value → List D → Prop
  | [], [] => True
  | v :: vs, d :: ds => Rep P X h v d ∧ Reps P X h vs ds
  | [], _ :: _ => False
  | _ :: _, [] => False
end

noncomputable def Ke (h h' : Heap) : Prop := ∀ b o, h.get? b = some o → h'.get? b = some o
noncomputable def Kp (T : Addr → Prop) (h h' : Heap) : Prop := ∀ b o, h.get? b = some o → (¬ T b → h'.get? b = some o) ∧ ∃ o', h'.get? b = some o'

noncomputable def Kw (T : Addr → Prop) (h h' : Heap) : Prop := ∀ b o, h.get? b = some o → ¬ T b → h'.get? b = some o
theorem Kp.w {T : Addr → Prop} {h h' : Heap} (k : Kp T h h') : Kw T h h' := fun b o e => (k b o e).1
theorem Ke.refl (h : Heap) : Ke h h := fun _ _ e => e
theorem Ke.trans {h h' h'' : Heap} (x : Ke h h') (y : Ke h' h'') : Ke h h'' := fun b o e => y b o (x b o e)
theorem Ke.kp {T : Addr → Prop} {h h' : Heap} (x : Ke h h') : Kp T h h' := fun b o e => ⟨fun _ => x b o e, o, x b o e⟩
theorem Ke.push (h : Heap) (o : Obj) : Ke h (h.push o) := fun _ _ e => Heap.get?_push_of_some o e
theorem Kp.refl (T : Addr → Prop) (h : Heap) : Kp T h h := (Ke.refl h).kp
theorem Kp.trans {T : Addr → Prop} {h h' h'' : Heap} (x : Kp T h h') (y : Kp T h' h'') : Kp T h h'' := fun b o e => by
  obtain ⟨x1, o', x2⟩ := x b o e
  exact ⟨fun nt => (y b o (x1 nt)).1 nt, (y b o' x2).2⟩
theorem Kp.mono {T T' : Addr → Prop} {h h' : Heap} (x : Kp T h h') (s : ∀ b, T b → T' b) : Kp T' h h' := fun b o e => ⟨fun nt => (x b o e).1 fun t => nt (s b t), (x b o e).2⟩
theorem Kp.trim {T T' : Addr → Prop} {h h' : Heap} (x : Kp T' h h') (s : ∀ b o, h.get? b = some o → T' b → T b) : Kp T h h' := fun b o e => ⟨fun nt => (x b o e).1 fun t => nt (s b o e t), (x b o e).2⟩
theorem Ke.of_kp {h h' : Heap} (x : Kp (fun _ => False) h h') : Ke h h' := fun b o e => (x b o e).1 id

mutual
theorem Rep.kw {P : Pm} {X T : Addr → Prop} {h h' : Heap} (k : Kw T h h') (tx : ∀ b, T b → X b) : ∀ {v : Value} {d : D}, Rep P X h v d → Rep P X h' v d
  | _, .none, r => by simpa only [Rep] using r
  | _, .bool _, r => by simpa only [Rep] using r
  | _, .int _, r => by simpa only [Rep] using r
  | _, .str _, r => by simpa only [Rep] using r
  | _, .bytes _, r => by simpa only [Rep] using r
  | _, .raw _, r => by simpa only [Rep] using r
  | _, .list _, r => by
    simp only [Rep] at r ⊢
    obtain ⟨a, vs, e, x, ⟨n, l⟩, rs⟩ := r
    exact ⟨a, vs, e, x, ⟨n, k a _ l fun t => x (tx a t)⟩, Reps.kw k tx rs⟩
  | _, .tup _, r => by
    simp only [Rep] at r ⊢
    obtain ⟨a, vs, e, x, ⟨o, ho, l⟩, rs⟩ := r
    exact ⟨a, vs, e, x, ⟨o, k a o ho fun t => x (tx a t), l⟩, Reps.kw k tx rs⟩
  | _, .dict _ _, r => by
    simp only [Rep] at r ⊢
    obtain ⟨a, vs, ep, e, x, l, hl, rs⟩ := r
    exact ⟨a, vs, ep, e, x, l.at fun o ho => k a o ho fun t => x (tx a t), hl, Reps.kw k tx rs⟩
  | _, .rng _ _ _, r => by
    simp only [Rep] at r ⊢
    obtain ⟨a, t, u, w, e, x, l⟩ := r
    exact ⟨a, t, u, w, e, x, k a _ l fun t => x (tx a t)⟩
  | _, .inst _ _ _, r => by
    simp only [Rep] at r ⊢
    obtain ⟨a, dx, es, n, vs, e, x, xd, l1, l2, en, rs⟩ := r
    exact ⟨a, dx, es, n, vs, e, x, xd, k a _ l1 fun t => x (tx a t), k dx _ l2 fun t => xd (tx dx t), en, Reps.kw k tx rs⟩
  | _, .obj _ _, r => by
    simp only [Rep] at r ⊢
    obtain ⟨a, e, x, l⟩ := r
    exact ⟨a, e, x, k a _ l fun t => x (tx a t)⟩
theorem Reps.kw {P : Pm} {X T : Addr → Prop} {h h' : Heap} (k : Kw T h h') (tx : ∀ b, T b → X b) : ∀ {vs : List Value} {ds : List D}, Reps P X h vs ds → Reps P X h' vs ds
  | [], [], _ => by simp only [Reps]
  | _ :: _, _ :: _, r => by
    simp only [Reps] at r ⊢
    exact ⟨Rep.kw k tx r.1, Reps.kw k tx r.2⟩
  | [], _ :: _, r => by simp only [Reps] at r
  | _ :: _, [], r => by simp only [Reps] at r
end

theorem Rep.kp {P : Pm} {X T : Addr → Prop} {h h' : Heap} (k : Kp T h h') (tx : ∀ b, T b → X b) {v : Value} {d : D} (r : Rep P X h v d) : Rep P X h' v d := r.kw k.w tx
theorem Reps.kp {P : Pm} {X T : Addr → Prop} {h h' : Heap} (k : Kp T h h') (tx : ∀ b, T b → X b) {vs : List Value} {ds : List D} (r : Reps P X h vs ds) : Reps P X h' vs ds := r.kw k.w tx

mutual
theorem Rep.ex {P : Pm} {X X' : Addr → Prop} {h : Heap} (k : ∀ b o, h.get? b = some o → X' b → X b) : ∀ {v : Value} {d : D}, Rep P X h v d → Rep P X' h v d
  | _, .none, r => by simpa only [Rep] using r
  | _, .bool _, r => by simpa only [Rep] using r
  | _, .int _, r => by simpa only [Rep] using r
  | _, .str _, r => by simpa only [Rep] using r
  | _, .bytes _, r => by simpa only [Rep] using r
  | _, .raw _, r => by simpa only [Rep] using r
  | _, .list _, r => by
    simp only [Rep] at r ⊢
    obtain ⟨a, vs, e, x, ⟨n, l⟩, rs⟩ := r
    exact ⟨a, vs, e, fun t => x (k a _ l t), ⟨n, l⟩, Reps.ex k rs⟩
  | _, .tup _, r => by
    simp only [Rep] at r ⊢
    obtain ⟨a, vs, e, x, ⟨o, ho, l⟩, rs⟩ := r
    exact ⟨a, vs, e, fun t => x (k a _ ho t), ⟨o, ho, l⟩, Reps.ex k rs⟩
  | _, .dict _ _, r => by
    simp only [Rep] at r ⊢
    obtain ⟨a, vs, ep, e, x, l, hl, rs⟩ := r
    exact ⟨a, vs, ep, e, fun t => x (let ⟨o, _, ho, _⟩ := l.2; k a o ho t), l, hl, Reps.ex k rs⟩
  | _, .rng _ _ _, r => by
    simp only [Rep] at r ⊢
    obtain ⟨a, t, u, w, e, x, l⟩ := r
    exact ⟨a, t, u, w, e, fun t => x (k a _ l t), l⟩
  | _, .inst _ _ _, r => by
    simp only [Rep] at r ⊢
    obtain ⟨a, dx, es, n, vs, e, x, xd, l1, l2, en, rs⟩ := r
    exact ⟨a, dx, es, n, vs, e, fun t => x (k a _ l1 t), fun t => xd (k dx _ l2 t), l1, l2, en, Reps.ex k rs⟩
  | _, .obj _ _, r => by
    simp only [Rep] at r ⊢
    obtain ⟨a, e, x, l⟩ := r
    exact ⟨a, e, fun t => x (k a _ l t), l⟩
theorem Reps.ex {P : Pm} {X X' : Addr → Prop} {h : Heap} (k : ∀ b o, h.get? b = some o → X' b → X b) : ∀ {vs : List Value} {ds : List D}, Reps P X h vs ds → Reps P X' h vs ds
  | [], [], _ => by simp only [Reps]
  | _ :: _, _ :: _, r => by
    simp only [Reps] at r ⊢
    exact ⟨Rep.ex k r.1, Reps.ex k r.2⟩
  | [], _ :: _, r => by simp only [Reps] at r
  | _ :: _, [], r => by simp only [Reps] at r
end
theorem Rep.ke {P : Pm} {X : Addr → Prop} {h h' : Heap} (k : Ke h h') {v : Value} {d : D} (r : Rep P X h v d) : Rep P X h' v d := Rep.kp (T := fun _ => False) k.kp (fun _ f => f.elim) r
theorem Reps.ke {P : Pm} {X : Addr → Prop} {h h' : Heap} (k : Ke h h') {v : List Value} {d : List D} (r : Reps P X h v d) : Reps P X h' v d := Reps.kp (T := fun _ => False) k.kp (fun _ f => f.elim) r
theorem Reps.length {P : Pm} {X : Addr → Prop} {h : Heap} : ∀ {vs : List Value} {ds : List D}, Reps P X h vs ds → vs.length = ds.length
  | [], [], _ => rfl
  | _ :: _, _ :: _, r => by simp only [Reps] at r; simp [Reps.length r.2]
  | [], _ :: _, r => by simp only [Reps] at r
  | _ :: _, [], r => by simp only [Reps] at r
theorem Reps.at {P : Pm} {X : Addr → Prop} {h : Heap} : ∀ {vs : List Value} {ds : List D}, Reps P X h vs ds → ∀ {i : Nat} {v : Value}, vs[i]? = some v → ∃ d, ds[i]? = some d ∧ Rep P X h v d
  | [], [], _, _, _, e => by simp at e
  | v :: vs, d :: ds, r, i, u, e => by
    simp only [Reps] at r
    cases i with
    | zero => simp at e; subst e; exact ⟨d, by simp, r.1⟩
    | succ i => simp at e; obtain ⟨d', h1, h2⟩ := Reps.at r.2 e; exact ⟨d', by simpa using h1, h2⟩
  | [], _ :: _, r, _, _, _ => by simp only [Reps] at r
  | _ :: _, [], r, _, _, _ => by simp only [Reps] at r
theorem Reps.at' {P : Pm} {X : Addr → Prop} {h : Heap} {vs : List Value} {ds : List D} (r : Reps P X h vs ds) {i : Nat} {d : D} (e : ds[i]? = some d) : ∃ v, vs[i]? = some v ∧ Rep P X h v d := by
  have hl := r.length
  have hi : i < vs.length := by
    rw [hl]; exact (List.getElem?_eq_some_iff.mp e).1
  obtain ⟨d', h1, h2⟩ := r.at (List.getElem?_eq_getElem hi)
  rw [e] at h1; cases h1
  exact ⟨_, List.getElem?_eq_getElem hi, h2⟩
theorem Reps.append {P : Pm} {X : Addr → Prop} {h : Heap} : ∀ {vs us : List Value} {ds es : List D}, Reps P X h vs ds → Reps P X h us es → Reps P X h (vs ++ us) (ds ++ es)
  | [], _, [], _, _, r => by simpa using r
  | _ :: _, _, _ :: _, _, q, r => by
    simp only [Reps, List.cons_append] at q ⊢
    exact ⟨q.1, Reps.append q.2 r⟩
  | [], _, _ :: _, _, q, _ => by simp only [Reps] at q
  | _ :: _, _, [], _, q, _ => by simp only [Reps] at q
theorem Reps.one {P : Pm} {X : Addr → Prop} {h : Heap} {v : Value} {d : D} (r : Rep P X h v d) : Reps P X h [v] [d] := by simp only [Reps]; exact ⟨r, trivial⟩

noncomputable def Run {α : Type} (P : Pm) (A : Around) (t : Sem α) (h : Heap) (R : α → Heap → Prop) : Prop :=
  ∀ tk, wpAny (model P.prog P.w) A t (fun a s' => ∃ h' tk', s' = { P.σ with heap := h', toks := tk' } ∧ R a h') (fun _ _ => False) { P.σ with heap := h, toks := tk }

section
variable {α β : Type} {P : Pm} {A : Around} {h : Heap}
theorem Run.mono {t : Sem α} {R R' : α → Heap → Prop} (x : Run P A t h R) (k : ∀ a h', R a h' → R' a h') : Run P A t h R' := fun tk =>
  wpAny_mono (x tk) (fun a _ ⟨h', tk', e, r⟩ => ⟨h', tk', e, k a h' r⟩) fun _ _ f => f
theorem Run.bind {t : Sem α} {f : α → Sem β} {R : β → Heap → Prop} (x : Run P A t h fun a h' => Run P A (f a) h' R) : Run P A (t >>= f) h R := fun tk =>
  wpAny_bind (wpAny_mono (x tk) (fun a s' ⟨h', tk', e, r⟩ => by subst e; exact r tk') fun _ _ f => f)
theorem Run.pure {a : α} {R : α → Heap → Prop} (r : R a h) : Run P A (pure a) h R := fun tk => wpAny_pure ⟨h, tk, rfl, r⟩
theorem Run.of {t : Sem α} {R : α → Heap → Prop} (x : ∀ tk (Q : α → Shared → Prop), (∀ a h' tk', R a h' → Q a { P.σ with heap := h', toks := tk' }) → wpAny (model P.prog P.w) A t Q (fun _ _ => False) { P.σ with heap := h, toks := tk }) : Run P A t h R :=
  fun tk => x tk _ fun a h' tk' r => ⟨h', tk', rfl, r⟩
theorem Run.to {t : Sem α} {R : α → Heap → Prop} (x : Run P A t h R) {tk : Nat} {Q : α → Shared → Prop} {E : Value → Shared → Prop} (k : ∀ a h' tk', R a h' → Q a { P.σ with heap := h', toks := tk' }) :
    wpAny (model P.prog P.w) A t Q E { P.σ with heap := h, toks := tk } :=
  wpAny_mono (x tk) (fun a s' ⟨h', tk', e, r⟩ => by subst e; exact k a h' tk' r) fun _ _ f => f.elim
theorem Run.in1 {t : Sem α} {R : α → Heap → Prop} (x : Run P A.in1 t h R) : Run P A t h R := fun tk => wpAny_of_in1 (x tk)
end

structure Base (P : Pm) (X : Addr → Prop) (h : Heap) : Prop where
  top : Ke P.hT h
  xt : ∀ b, X b → P.hT.get? b = none
  xa : ∀ b, X b → ∃ o, h.get? b = some o

theorem size_none (h : Heap) : h.get? h.objs.size = none := by
  cases e : h.get? h.objs.size with
  | none => rfl
  | some o => exact absurd (Heap.lt_size e) (Nat.lt_irrefl _)
theorem Base.kp {P : Pm} {X T : Addr → Prop} {h h' : Heap} (B : Base P X h) (k : Kp T h h') (t : ∀ b, T b → X b) : Base P X h' where
  top := fun b o e => (k b o (B.top b o e)).1 fun x => by have := B.xt b (t b x); rw [e] at this; cases this
  xt := B.xt
  xa := fun b x => let ⟨o, e⟩ := B.xa b x; (k b o e).2
theorem Base.ke {P : Pm} {X : Addr → Prop} {h h' : Heap} (B : Base P X h) (k : Ke h h') : Base P X h' := B.kp (T := fun _ => False) k.kp fun _ f => f.elim
theorem Base.new {P : Pm} {X : Addr → Prop} {h : Heap} (B : Base P X h) {a : Addr} (n : h.get? a = none) : ¬ X a := fun x => by
  obtain ⟨o, e⟩ := B.xa a x; rw [n] at e; cases e

inductive MO where
  | lst (ds : List D)
  | dct (ks : List Str) (ds : List D)
  | flds (ks : List Str) (ds : List D)
  | any
  | obj (o : Obj)
noncomputable abbrev MoL := List (Addr × MO)
noncomputable def MoAt (P : Pm) (X : Addr → Prop) (h : Heap) (a : Addr) : MO → Prop
  | .lst ds => ∃ vs, h.PlainList a vs.toArray ∧ Reps P X h vs ds
  | .dct ks ds => ∃ vs ep, DAt P h a (ks.zip vs) ep ∧ ks.length = vs.length ∧ Reps P X h vs ds
  | .flds ks ds => ∃ es n vs, h.get? a = some (dictOf es n) ∧ Ents es ks vs ∧ Reps P X h vs ds
  | .any => ∃ o, h.get? a = some o
  | .obj o => h.get? a = some o
theorem MoAt.get {P : Pm} {X : Addr → Prop} {h : Heap} {a : Addr} {m : MO} (x : MoAt P X h a m) : ∃ o, h.get? a = some o := by
  cases m with
  | lst ds => obtain ⟨vs, ⟨n, e⟩, _⟩ := x; exact ⟨_, e⟩
  | dct ks ds => obtain ⟨vs, ep, ⟨_, o, _, e, _⟩, _⟩ := x; exact ⟨o, e⟩
  | flds ks ds => obtain ⟨es, n, vs, e, _⟩ := x; exact ⟨_, e⟩
  | any => exact x
  | obj o => exact ⟨o, x⟩
theorem MoAt.kw {P : Pm} {X T : Addr → Prop} {h h' : Heap} {a : Addr} {m : MO} (k : Kw T h h') (tx : ∀ b, T b → X b) (na : ¬ T a) (x : MoAt P X h a m) : MoAt P X h' a m := by
  cases m with
  | lst ds => obtain ⟨vs, ⟨n, e⟩, r⟩ := x; exact ⟨vs, ⟨n, k a _ e na⟩, r.kw k tx⟩
  | dct ks ds => obtain ⟨vs, ep, e, hl, r⟩ := x; exact ⟨vs, ep, e.at fun o ho => k a o ho na, hl, r.kw k tx⟩
  | flds ks ds => obtain ⟨es, n, vs, e, en, r⟩ := x; exact ⟨es, n, vs, k a _ e na, en, r.kw k tx⟩
  | any => obtain ⟨o, e⟩ := x; exact ⟨o, k a o e na⟩
  | obj o => exact k a o x na
theorem MoAt.kp {P : Pm} {X T : Addr → Prop} {h h' : Heap} {a : Addr} {m : MO} (k : Kp T h h') (tx : ∀ b, T b → X b) (na : ¬ T a) (x : MoAt P X h a m) : MoAt P X h' a m := x.kw k.w tx na
theorem MoAt.ex {P : Pm} {X X' : Addr → Prop} {h : Heap} {a : Addr} {m : MO} (k : ∀ b o, h.get? b = some o → X' b → X b) (x : MoAt P X h a m) : MoAt P X' h a m := by
  cases m with
  | lst ds => obtain ⟨vs, e, r⟩ := x; exact ⟨vs, e, r.ex k⟩
  | dct ks ds => obtain ⟨vs, ep, e, hl, r⟩ := x; exact ⟨vs, ep, e, hl, r.ex k⟩
  | flds ks ds => obtain ⟨es, n, vs, e, en, r⟩ := x; exact ⟨es, n, vs, e, en, r.ex k⟩
  | any => exact x
  | obj o => exact x
theorem MoAt.also {P : Pm} {X : Addr → Prop} {h : Heap} {a b : Addr} {m : MO} (n : h.get? b = none) (x : MoAt P X h a m) : MoAt P (fun c => X c ∨ c = b) h a m := x.ex fun c o g t => by
  rcases t with t | rfl
  · exact t
  · rw [n] at g; cases g
theorem MoAt.ke {P : Pm} {X : Addr → Prop} {h h' : Heap} {a : Addr} {m : MO} (k : Ke h h') (x : MoAt P X h a m) : MoAt P X h' a m := MoAt.kp (T := fun _ => False) k.kp (fun _ f => f.elim) id x

noncomputable def MO.d : MO → D
  | .lst ds => .list ds
  | .dct ks ds => .dict ks ds
  | .flds _ _ => .none
  | .any => .none
  | .obj _ => .none

noncomputable def MO.isD : MO → Bool
  | .lst _ => true
  | .dct _ _ => true
  | _ => false

inductive Rz where
  | d (x : D)
  | n (m : MO)
  | o (C : Addr) (ks : List Str) (ds : List D)
noncomputable def RzAt (P : Pm) (X : Addr → Prop) (mo' : MoL) (h h' : Heap) (v : Value) : Rz → Prop
  | .d x => Rep P X h' v x
  | .n m => ∃ a, v = .ref a ∧ h.get? a = none ∧ ∀ p ∈ (a, m) :: mo', MoAt P (fun b => X b ∨ b = a) h' p.1 p.2
  | .o C ks ds => ∃ a dx, v = .ref a ∧ a ≠ dx ∧ h.get? a = none ∧ h.get? dx = none ∧ h'.get? a = some (instObj C dx) ∧ ∀ p ∈ (dx, MO.flds ks ds) :: mo', MoAt P (fun b => X b ∨ b = dx) h' p.1 p.2
theorem RzAt.mono {P : Pm} {X : Addr → Prop} {mo' : MoL} {h h' h0 : Heap} {v : Value} {z : Rz} (r : RzAt P X mo' h h' v z) (k : ∀ a, h.get? a = none → h0.get? a = none) : RzAt P X mo' h0 h' v z := by
  cases z with
  | d x => exact r
  | n m => obtain ⟨a, e, n, q⟩ := r; exact ⟨a, e, k a n, q⟩
  | o C ks ds => obtain ⟨a, dx, e, ne, n, n', q⟩ := r; exact ⟨a, dx, e, ne, k a n, k dx n', q⟩

noncomputable def OkA (n : Nat) (A : Around) : Prop := A.handled = none ∧ A.depth + n < 1000 ∧ A.units + 10 * n < 9800
theorem OkA.le {n m : Nat} {A : Around} (x : OkA n A) (k : m ≤ n) : OkA m A := ⟨x.1, by have := x.2.1; omega, by have := x.2.2; omega⟩
theorem OkA.room {n : Nat} {A : Around} (x : OkA (n + 1) A) : A.depth < recursionLimit := by have := x.2.1; show A.depth < 1000; omega
theorem OkA.deeper {n : Nat} {A : Around} {env : Env} (x : OkA (n + 1) A) : OkA n (A.deeper env) := ⟨x.1, by have := x.2.1; show A.depth + 1 + n < 1000; omega, by have := x.2.2; show A.units + 3 + 10 * n < 9800; omega⟩
theorem OkA.units {n : Nat} {A : Around} (x : OkA n A) : A.units + 90 < cLine := by have := x.2.2; show A.units + 90 < 9900; omega

noncomputable abbrev Am (mo : MoL) (b : Addr) : Prop := b ∈ mo.map (·.1)
noncomputable def Ctr (P : Pm) (n : Nat) (f : Value) (ds : List D) (mo : MoL) (z : Rz) (mo' : MoL) : Prop :=
  ∀ A X h vs, OkA n A → Base P X h → Reps P X h vs ds → (∀ p ∈ mo, X p.1 ∧ MoAt P X h p.1 p.2) → (mo.map (·.1)).Nodup →
    Run P A (call f vs) h fun v h' => Kp (Am mo) h h' ∧ (∀ p ∈ mo', MoAt P X h' p.1 p.2) ∧ mo'.map (·.1) = mo.map (·.1) ∧ RzAt P X mo' h h' v z

end Mine

end
section
open PySem PySem.W PySem.Calls PyProof.Rows
namespace Mine

noncomputable def Vz (env : Env) (b : Addr) : Prop := b = env.locals ∨ ∃ x, env.cells.lookup x = some b

structure Sc where
  sc : Scope
  fn : Bool
  n : Nat
structure Bd (sc : Sc) where
  P : Pm
  X0 : Addr → Prop
  ext : Addr → Prop
  env : Env
  h₀ : Heap
  A : Around
  ok : OkA sc.n A
  es : env.scope = sc.sc
  eg : env.globals = mainGlobals
  eb : env.builtins = builtinsNs
  ek : sc.sc.kind = .function
  base : Base P X0 h₀
  extX : ∀ b, ext b → X0 b
  vz : ∀ b, Vz env b → (X0 b ∧ ¬ ext b) ∨ h₀.get? b = none
  lo : h₀.get? env.locals = none
  fd : sc.fn = true → ∀ b, Vz env b → h₀.get? b = none

noncomputable abbrev Md := List (Str × D)
noncomputable def kin (sc : Sc) (x : Str) : Option NameKind := sc.sc.names.lookup x
noncomputable def kld (sc : Sc) (x : Str) : Bool := kin sc x == some .local || kin sc x == some .cell
noncomputable def kst (sc : Sc) (x : Str) : Bool := kin sc x == some .local || (kin sc x == some .cell && sc.fn)

structure Vars (env : Env) (h : Heap) (f : Str → Option Value) : Prop where
  loc : ∃ g, h.Ns env.locals g ∧ ∀ x v, env.kindOf x = some .local → f x = some v → g x = some v
  cel : ∀ x v, env.kindOf x = some .cell → f x = some v → ∃ c, env.cells.lookup x = some c ∧ h.IsCell c (some v)
  celA : ∀ x c, env.cells.lookup x = some c → ∃ v, h.IsCell c v
  celE : ∀ x, env.kindOf x = some .cell → ∃ c, env.cells.lookup x = some c
  apart : ∀ x y c, env.cells.lookup x = some c → env.cells.lookup y = some c → x = y
  la : ∀ x c, env.cells.lookup x = some c → c ≠ env.locals

theorem Vars.keeps {env : Env} {h h' : Heap} {f : Str → Option Value} (V : Vars env h f) (k : ∀ b o, Vz env b → h.get? b = some o → h'.get? b = some o) : Vars env h' f where
  loc := let ⟨g, n, r⟩ := V.loc; ⟨g, n.at' fun o e => k _ o (.inl rfl) e, r⟩
  cel := fun x v hk e => let ⟨c, l, o, ho, r⟩ := V.cel x v hk e; ⟨c, l, o, k c o (.inr ⟨x, l⟩) ho, r⟩
  celA := fun x c l => let ⟨v, o, ho, r⟩ := V.celA x c l; ⟨v, o, k c o (.inr ⟨x, l⟩) ho, r⟩
  celE := V.celE
  apart := V.apart
  la := V.la
theorem Vars.alive {env : Env} {h : Heap} {f : Str → Option Value} (V : Vars env h f) {b : Addr} (o : Vz env b) : ∃ o, h.get? b = some o := by
  rcases o with rfl | ⟨x, l⟩
  · obtain ⟨g, ⟨o, _, _, e, _⟩, _⟩ := V.loc; exact ⟨o, e⟩
  · obtain ⟨v, o, e, _⟩ := V.celA x b l; exact ⟨o, e⟩

section
variable {sc : Sc} {B : Bd sc}
noncomputable def XX (B : Bd sc) (mo : MoL) (b : Addr) : Prop := B.X0 b ∨ Vz B.env b ∨ Am mo b
theorem XX_congr {mo mo' : MoL} (e : mo'.map (·.1) = mo.map (·.1)) : XX B mo' = XX B mo := by
  funext b; unfold XX Am; rw [e]

structure S (B : Bd sc) (md : Md) (mo : MoL) (h : Heap) : Prop where
  keep : Kp B.ext B.h₀ h
  vars : ∃ f, Vars B.env h f ∧ ∀ x d, md.lookup x = some d → ∃ v, f x = some v ∧ Rep B.P (XX B mo) h v d
  mos : ∀ p ∈ mo, MoAt B.P (XX B mo) h p.1 p.2 ∧ (B.ext p.1 ∨ B.h₀.get? p.1 = none) ∧ ¬ Vz B.env p.1
  nd : (mo.map (·.1)).Nodup
end

section
variable {sc : Sc} {B : Bd sc} {md md' : Md} {mo mo' mo1 mo2 : MoL} {h h' h'' : Heap}
theorem S.am (s : S B md mo h) {b : Addr} (x : Am mo b) : B.ext b ∨ B.h₀.get? b = none := by
  obtain ⟨p, hp, rfl⟩ := List.mem_map.mp x; exact (s.mos p hp).2.1
theorem S.nv (s : S B md mo h) {b : Addr} (x : Am mo b) : ¬ Vz B.env b := by
  obtain ⟨p, hp, rfl⟩ := List.mem_map.mp x; exact (s.mos p hp).2.2
theorem S.base (s : S B md mo h) : Base B.P (XX B mo) h := by
  have e := B.base
  refine ⟨fun b o g => (s.keep b o (e.top b o g)).1 fun t => ?_, fun b x => ?_, fun b x => ?_⟩
  · have := e.xt b (B.extX b t); rw [g] at this; cases this
  · have dead : B.h₀.get? b = none → B.P.hT.get? b = none := fun d => by
      cases g : B.P.hT.get? b with
      | none => rfl
      | some o => have := e.top b o g; rw [d] at this; cases this
    rcases x with x | x | x
    · exact e.xt b x
    · rcases B.vz b x with x | x
      · exact e.xt b x.1
      · exact dead x
    · rcases s.am x with x | x
      · exact e.xt b (B.extX b x)
      · exact dead x
  · rcases x with x | x | x
    · obtain ⟨o, g⟩ := e.xa b x; exact (s.keep b o g).2
    · obtain ⟨f, V, _⟩ := s.vars; exact V.alive x
    · obtain ⟨p, hp, rfl⟩ := List.mem_map.mp x; exact (s.mos p hp).1.get
theorem S.K (s : S B md mo h) : B.P.K.In h := B.P.KX.keeps s.base.top
theorem S.new (s : S B md mo h) {a : Addr} (n : h.get? a = none) : ¬ XX B mo a := s.base.new n
theorem S.sub (s : S B md mo h) (k : ∀ x d, md'.lookup x = some d → md.lookup x = some d) : S B md' mo h :=
  ⟨s.keep, let ⟨f, V, r⟩ := s.vars; ⟨f, V, fun x d e => r x d (k x d e)⟩, s.mos, s.nd⟩

structure Go (B : Bd sc) (md : Md) (mo : MoL) (h : Heap) (mo' : MoL) (h' : Heap) : Prop where
  s : S B md mo' h'
  k : Kp (Am mo) h h'
  e : mo'.map (·.1) = mo.map (·.1)
theorem S.go (s : S B md mo h) (k : Kp (Am mo) h h') (e : mo'.map (·.1) = mo.map (·.1)) (m : ∀ p ∈ mo', MoAt B.P (XX B mo) h' p.1 p.2) : Go B md mo h mo' h' where
  s := {
    keep := fun b o g => by
      refine ⟨fun t => (k b o ((s.keep b o g).1 t)).1 fun x => ?_, ?_⟩
      · rcases s.am x with y | y
        · exact t y
        · rw [g] at y; exact nomatch y
      · obtain ⟨o', g1⟩ := (s.keep b o g).2
        exact (k b o' g1).2
    vars := by
      obtain ⟨f, V, r⟩ := s.vars
      refine ⟨f, V.keeps fun b o x g => (k b o g).1 fun y => s.nv y x, fun x d y => ?_⟩
      obtain ⟨v, a, b⟩ := r x d y
      rw [XX_congr e]
      exact ⟨v, a, b.kp k fun b x => .inr (.inr x)⟩
    mos := fun p hp => by
      rw [XX_congr e]
      have : p.1 ∈ mo.map (·.1) := e ▸ List.mem_map_of_mem hp
      exact ⟨m p hp, s.am this, s.nv this⟩
    nd := e ▸ s.nd }
  k := k
  e := e
theorem S.goKe (s : S B md mo h) (k : Ke h h') : Go B md mo h mo h' := s.go k.kp rfl fun p hp => (s.mos p hp).1.ke k
theorem S.refl (s : S B md mo h) : Go B md mo h mo h := s.goKe (.refl h)
theorem S.ke' (s : S B md mo h) (k : Ke h h') : S B md mo h' := (s.goKe k).s
theorem Go.trans (x : Go B md mo h mo1 h') (y : Go B md mo1 h' mo2 h'') : Go B md mo h mo2 h'' :=
  ⟨y.s, x.k.trans (y.k.mono fun b t => by unfold Am at t ⊢; rwa [x.e] at t), y.e.trans x.e⟩
theorem Go.ke (x : Go B md mo h mo1 h') (k : Ke h' h'') : Go B md mo h mo1 h'' := x.trans (x.s.goKe k)
theorem Go.rep (x : Go B md mo h mo' h') {v : Value} {d : D} (r : Rep B.P (XX B mo) h v d) : Rep B.P (XX B mo') h' v d := by
  rw [XX_congr x.e]; exact r.kp x.k fun b t => .inr (.inr t)
theorem Go.reps (x : Go B md mo h mo' h') {v : List Value} {d : List D} (r : Reps B.P (XX B mo) h v d) : Reps B.P (XX B mo') h' v d := by
  rw [XX_congr x.e]; exact r.kp x.k fun b t => .inr (.inr t)
end

section
variable {sc : Sc}
noncomputable def Ev (B : Bd sc) (md : Md) (mo : MoL) (e : Expr) (d : D) (mo' : MoL) : Prop :=
  ∀ h, S B md mo h → Run B.P B.A (eval e B.env) h fun v h' => Go B md mo h mo' h' ∧ Rep B.P (XX B mo') h' v d
noncomputable def En (B : Bd sc) (md : Md) (mo : MoL) (e : Expr) (m : MO) (mo' : MoL) : Prop :=
  ∀ h, S B md mo h → Run B.P B.A (eval e B.env) h fun v h' => Go B md mo h mo' h' ∧ RzAt B.P (XX B mo') mo' h h' v (.n m)
noncomputable def Evs (B : Bd sc) (md : Md) (mo : MoL) (es : List Expr) (ds : List D) (mo' : MoL) : Prop :=
  ∀ pos h, S B md mo h → Run B.P B.A (spliced (backTo pos (starEach es B.env))) h fun vs h' => Go B md mo h mo' h' ∧ Reps B.P (XX B mo') h' vs ds
noncomputable def Et (B : Bd sc) (md : Md) (mo : MoL) (e : Expr) (b : Bool) (mo' : MoL) : Prop :=
  ∀ h, S B md mo h → Run B.P B.A (isTrue e B.env (eval e B.env)) h fun c h' => c = b ∧ Go B md mo h mo' h'
noncomputable def Ex (B : Bd sc) (md : Md) (mo : MoL) (ss : List Stmt) (R : Flow → Heap → Prop) : Prop :=
  ∀ h, S B md mo h → Run B.P B.A (execs ss B.env) h fun fl h' => Kp (XX B mo) h h' ∧ R fl h'
end

section
variable {sc : Sc} {B : Bd sc} {md : Md} {mo mo' mo1 mo2 : MoL}

theorem Ev.of_ke {e : Expr} {d : D} (x : ∀ h, S B md mo h → Run B.P B.A (eval e B.env) h fun v h' => Ke h h' ∧ Rep B.P (XX B mo) h' v d) : Ev B md mo e d mo := fun h s =>
  (x h s).mono fun _ _ ⟨k, r⟩ => ⟨s.goKe k, r⟩
theorem En.ev {e : Expr} {m : MO} (x : En B md mo e m mo') (hm : m.isD = true) : Ev B md mo e m.d mo' := fun h s =>
  (x h s).mono fun v h' ⟨g, a, e, n, r⟩ => by
    refine ⟨g, ?_⟩
    have na : ¬ XX B mo' a := by rw [XX_congr g.e]; exact s.new n
    have r' := (r _ (.head _)).ex (X' := XX B mo') fun b o _ t => .inl t
    cases m with
    | lst ds => obtain ⟨vs, l, q⟩ := r'; simp only [MO.d, Rep]; exact ⟨a, vs, e, na, l, q⟩
    | dct ks ds => obtain ⟨vs, ep, l, hl, q⟩ := r'; simp only [MO.d, Rep]; exact ⟨a, vs, ep, e, na, l, hl, q⟩
    | flds ks ds => cases hm
    | any => cases hm
    | obj o => cases hm
theorem En.evl {e : Expr} {ds : List D} (x : En B md mo e (.lst ds) mo') : Ev B md mo e (.list ds) mo' := x.ev rfl
theorem En.evd {e : Expr} {ks : List Str} {ds : List D} (x : En B md mo e (.dct ks ds) mo') : Ev B md mo e (.dict ks ds) mo' := x.ev rfl

theorem ev_int {i k pos} : Ev B md mo (.Constant (.int i) k pos) (.int i) mo := .of_ke fun h s => .of fun tk Q hq =>
  wpAny_Constant_int (hq _ _ _ ⟨.refl h, by simp only [Rep]; exact ⟨_, rfl⟩⟩)
theorem ev_str {x k pos} : Ev B md mo (.Constant (.str x) k pos) (.str x) mo := .of_ke fun h s => .of fun tk Q hq =>
  wpAny_Constant_str (hq _ _ _ ⟨.refl h, by simp only [Rep]; exact ⟨_, rfl⟩⟩)
theorem ev_bool {x k pos} : Ev B md mo (.Constant (.bool x) k pos) (.bool x) mo := .of_ke fun h s => .of fun tk Q hq =>
  wpAny_Constant_bool (hq _ _ _ ⟨.refl h, by simp only [Rep]⟩)
theorem ev_none {k pos} : Ev B md mo (.Constant .none k pos) .none mo := .of_ke fun h s => .of fun tk Q hq =>
  wpAny_Constant_none (hq _ _ _ ⟨.refl h, by simp only [Rep]⟩)
theorem ev_bytes {x k pos} : Ev B md mo (.Constant (.bytes x) k pos) (.bytes x) mo := .of_ke fun h s => .of fun tk Q hq =>
  Constant_bytes (hq _ _ _ ⟨.refl h, by simp only [Rep]; exact ⟨_, rfl⟩⟩)

theorem Bd.kind (B : Bd sc) (x : Str) : B.env.kindOf x = kin sc x := by
  unfold Env.kindOf kin; rw [B.es]
theorem Bd.ek' (B : Bd sc) : B.env.scope.kind = .function := by rw [B.es]; exact B.ek
theorem Bd.np (B : Bd sc) : (B.env.scope.kind == .class || (B.env.scope.kind == .module && B.env.locals != B.env.globals)) = false := by rw [B.ek']; rfl
theorem Bd.ok0 (B : Bd sc) : OkA 0 B.A := B.ok.le (Nat.zero_le _)

theorem ev_name {x : Str} {pos : Pos} {d : D} (e : md.lookup x = some d) (k : kld sc x = true) (hd : (x == ("__debug__" : Str)) = false) :
    Ev B md mo (.Name x pos) d mo := .of_ke fun h s => by
  obtain ⟨f, V, r⟩ := s.vars
  obtain ⟨v, hv, rv⟩ := r x d e
  refine .of fun tk Q hq => wpAny_Name ?_ hd
  unfold kld at k
  rw [Bool.or_eq_true, beq_iff_eq, beq_iff_eq, ← B.kind] at k
  rcases k with k | k
  · obtain ⟨g, n, hg⟩ := V.loc
    exact wpAny_loadName_local B.ek' k n (hg x v k hv) (hq _ _ _ ⟨.refl h, rv⟩)
  · obtain ⟨c, l, ic⟩ := V.cel x v k hv
    exact wpAny_loadName_cell B.ek' k l ic (hq _ _ _ ⟨.refl h, rv⟩)

theorem ev_global {x : Str} {pos : Pos} {v : Value} {d : D} (e : nsIn B.P.K mainGlobals x = some (some v)) (k : kin sc x = some .globalImplicit) (hd : (x == ("__debug__" : Str)) = false)
    (r : ∀ X h, B.P.K.In h → (∀ b, X b → B.P.hT.get? b = none) → Rep B.P X h v d) : Ev B md mo (.Name x pos) d mo := .of_ke fun h s => .of fun tk Q hq =>
  Name_function_global B.ek' ((B.kind x).trans k) (loadGlobal_global (env := B.env) (by rw [B.eg]; exact B.P.g.keeps s.base.top) (mg_of B.P.KX B.P.g e) (hq _ _ _ ⟨.refl h, r _ _ s.K s.base.xt⟩)) hd
theorem ev_builtin {x : Str} {pos : Pos} {v : Value} (e : nsIn B.P.K mainGlobals x = some none) (hv : bootBuiltins x = some v) (hn : x ≠ "__name__") (k : kin sc x = some .globalImplicit) (hd : (x == ("__debug__" : Str)) = false) :
    Ev B md mo (.Name x pos) (.raw v) mo := .of_ke fun h s => .of fun tk Q hq =>
  Name_function_global B.ek' ((B.kind x).trans k) (loadGlobal_builtin (env := B.env) (by rw [B.eg]; exact B.P.g.keeps s.base.top) (mg_none_of B.P.KX B.P.g e) (by rw [B.eb]; exact B.P.b.keeps s.base.top) ((B.P.builtins x hn).trans hv)
    (hq _ _ _ ⟨.refl h, by simp only [Rep]⟩)) hd

theorem evs_nil : Evs B md mo [] [] mo := fun pos h s => .of fun tk Q hq => wpAny_items_nil (hq _ _ _ ⟨s.refl, by simp only [Reps]⟩)
theorem evs_cons {e : Expr} {rest : List Expr} {d : D} {ds : List D} (x : Ev B md mo e d mo1) (xs : Evs B md mo1 rest ds mo2)
    (he : starEach (e :: rest) B.env = (false, eval e B.env) :: starEach rest B.env := by rfl) : Evs B md mo (e :: rest) (d :: ds) mo2 := fun pos h s => .of fun tk Q hq =>
  wpAny_items_cons ((x h s).to fun v h1 tk1 ⟨g1, r1⟩ => (xs pos h1 g1.s).to fun vs h2 tk2 ⟨g2, r2⟩ =>
    hq _ _ _ ⟨g1.trans g2, by simp only [Reps]; exact ⟨g2.rep r1, r2⟩⟩) he

theorem ev_tuple {elts : List Expr} {k : Nat} {pos : Pos} {ds : List D} (x : Evs B md mo elts ds mo') (hz : ds.length ≤ 1000) : Ev B md mo (.Tuple elts k pos) (.tup ds) mo' := fun h s => .of fun tk Q hq =>
  wpAny_Tuple ((x pos h s).to fun vs h1 tk1 ⟨g1, r1⟩ => ⟨by rw [r1.length, sizeLine_eq]; omega, hq _ _ _ ⟨g1.ke (Ke.push _ _), by
    simp only [Rep]
    exact ⟨_, vs, rfl, g1.s.new (size_none _), ⟨_, Heap.get?_push_size _ rfl, rfl, _, rfl⟩, r1.ke (Ke.push _ _)⟩⟩⟩)
theorem size_mono {h h' : Heap} {T : Addr → Prop} (k : Kp T h h') {a : Addr} (n : h'.get? a = none) : h.get? a = none := by
  cases e : h.get? a with
  | none => rfl
  | some o => obtain ⟨_, g⟩ := (k a o e).2; rw [n] at g; cases g
theorem Reps.also {P : Pm} {X : Addr → Prop} {h : Heap} {a : Addr} (n : h.get? a = none) {vs : List Value} {ds : List D} (r : Reps P X h vs ds) : Reps P (fun b => X b ∨ b = a) h vs ds := r.ex fun b o g t => by
  rcases t with t | rfl
  · exact t
  · rw [n] at g; cases g
theorem Rep.also {P : Pm} {X : Addr → Prop} {h : Heap} {a : Addr} (n : h.get? a = none) {v : Value} {d : D} (r : Rep P X h v d) : Rep P (fun b => X b ∨ b = a) h v d := r.ex fun b o g t => by
  rcases t with t | rfl
  · exact t
  · rw [n] at g; cases g
theorem en_list {elts : List Expr} {pos : Pos} {ds : List D} (x : Evs B md mo elts ds mo') (hz : ds.length ≤ 1000) : En B md mo (.List elts pos) (.lst ds) mo' := fun h s => .of fun tk Q hq =>
  wpAny_List ((x pos h s).to fun vs h1 tk1 ⟨g1, r1⟩ => ⟨by rw [r1.length, sizeLine_eq]; omega, hq _ _ _ ⟨g1.ke (Ke.push _ _),
    _, rfl, size_mono g1.k (size_none _), fun p hp => by
      rcases List.mem_cons.mp hp with rfl | hp
      · exact ⟨vs, ⟨0, Heap.get?_push_size _ rfl⟩, (r1.also (size_none _)).ke (Ke.push _ _)⟩
      · exact ((g1.s.mos p hp).1.also (size_none _)).ke (Ke.push _ _)⟩⟩)

theorem Go.new {h h' : Heap} {a : Addr} {m : MO} (g : Go B md mo h mo' h') (s : S B md mo h) (n : h.get? a = none) (q : ∀ p ∈ (a, m) :: mo', MoAt B.P (fun b => XX B mo' b ∨ b = a) h' p.1 p.2) : S B md ((a, m) :: mo') h' := by
  have xe : XX B ((a, m) :: mo') = fun b => XX B mo' b ∨ b = a := by
    funext b; apply propext; unfold XX Am; simp only [List.map_cons, List.mem_cons]
    constructor
    · rintro (x | x | x | x)
      · exact .inl (.inl x)
      · exact .inl (.inr (.inl x))
      · exact .inr x
      · exact .inl (.inr (.inr x))
    · rintro ((x | x | x) | x)
      · exact .inl x
      · exact .inr (.inl x)
      · exact .inr (.inr (.inr x))
      · exact .inr (.inr (.inl x))
  have nx : ¬ XX B mo a := s.new n
  refine ⟨g.s.keep, ?_, fun p hp => ?_, ?_⟩
  · obtain ⟨f, V, r⟩ := s.vars
    refine ⟨f, V.keeps fun b o x e => (g.k b o e).1 fun y => s.nv y x, fun x d e => ?_⟩
    obtain ⟨v, e1, e2⟩ := r x d e
    refine ⟨v, e1, ?_⟩
    rw [xe, XX_congr g.e]
    exact (e2.also n).kp g.k fun b t => .inl (.inr (.inr t))
  · rw [xe]
    refine ⟨q p hp, ?_⟩
    rcases List.mem_cons.mp hp with rfl | hp
    · refine ⟨.inr ?_, fun v => nx (.inr (.inl v))⟩
      cases e : B.h₀.get? a with
      | none => rfl
      | some o => obtain ⟨o', e'⟩ := (s.keep a o e).2; rw [n] at e'; cases e'
    · exact (g.s.mos p hp).2
  · rw [List.map_cons, List.nodup_cons]
    refine ⟨fun x => nx ?_, g.s.nd⟩
    have : XX B mo' a := .inr (.inr x)
    rwa [XX_congr g.e] at this
theorem S.drop {h : Heap} {p : Addr × MO} (s : S B md (p :: mo) h) : S B md mo h := by
  have k : ∀ b o, h.get? b = some o → XX B mo b → XX B (p :: mo) b := fun b o _ t => by
    rcases t with t | t | t
    · exact .inl t
    · exact .inr (.inl t)
    · exact .inr (.inr (List.mem_cons_of_mem _ t))
  refine ⟨s.keep, ?_, fun q hq => ?_, (List.nodup_cons.mp (by simpa using s.nd)).2⟩
  · obtain ⟨f, V, r⟩ := s.vars
    exact ⟨f, V, fun x d e => let ⟨v, a, b⟩ := r x d e; ⟨v, a, b.ex k⟩⟩
  · obtain ⟨a, b⟩ := s.mos q (List.mem_cons_of_mem _ hq)
    exact ⟨a.ex k, b⟩

theorem ex_nil {R : Flow → Heap → Prop} (r : ∀ h, S B md mo h → R .next h) : Ex B md mo [] R := fun h s => .of fun tk Q hq =>
  wpAny_execs_nil (hq _ _ _ ⟨.refl _ _, r h s⟩)
theorem ex_cons {st : Stmt} {rest : List Stmt} {R : Flow → Heap → Prop} (x : ∀ h, S B md mo h → Run B.P B.A (exec st B.env) h fun fl h' => Kp (XX B mo) h h' ∧
    match fl with | .next => Run B.P B.A (execs rest B.env) h' fun fl h'' => Kp (XX B mo) h h'' ∧ R fl h'' | f => R f h') : Ex B md mo (st :: rest) R := fun h s => .of fun tk Q hq =>
  wpAny_execs_cons ((x h s).to fun fl h' tk' ⟨k, r⟩ => by
    cases fl with
    | next => exact r.to fun fl h'' tk'' ⟨k, r⟩ => hq _ _ _ ⟨k, r⟩
    | _ => exact hq _ _ _ ⟨k, r⟩)
theorem Ex.after {md' : Md} {rest : List Stmt} {R : Flow → Heap → Prop} {h h' : Heap} (x : Ex B md' mo' rest R) (s : S B md' mo' h') (k : Kp (XX B mo) h h') (t : ∀ b o, h.get? b = some o → XX B mo' b → XX B mo b) :
    Run B.P B.A (execs rest B.env) h' fun fl h'' => Kp (XX B mo) h h'' ∧ R fl h'' := (x h' s).mono fun fl h'' ⟨k2, r⟩ => ⟨fun b o g => by
      obtain ⟨k1, o', g'⟩ := k b o g
      exact ⟨fun nt => (k2 b o (k1 nt)).1 fun q => nt (t b o g q), (k2 b o' g').2⟩, r⟩
theorem Go.kp {h h' : Heap} (g : Go B md mo h mo' h') : Kp (XX B mo) h h' := g.k.mono fun b t => .inr (.inr t)
theorem Go.xx {h h' : Heap} (g : Go B md mo h mo' h') {b : Addr} (t : XX B mo' b) : XX B mo b := by rwa [XX_congr g.e] at t

theorem store {x : Str} {v : Value} {d : D} {h : Heap} (s : S B md mo h) (k : kst sc x = true) (r : Rep B.P (XX B mo) h v d) :
    Run B.P B.A (storeName B.env x v) h fun _ h' => Kp (fun b => Vz B.env b ∧ B.h₀.get? b = none) h h' ∧ S B ((x, d) :: md) mo h' := by
  obtain ⟨f, V, rs⟩ := s.vars
  have fin : ∀ h' L, Vz B.env L → (¬ ∃ o, B.h₀.get? L = some o) → Heap.SameBut L h h' → h'.get? L ≠ none → Vars B.env h' (fun y => if y = x then some v else f y) → Kp (fun b => Vz B.env b ∧ B.h₀.get? b = none) h h' ∧ S B ((x, d) :: md) mo h' := by
    intro h' L vL nL sb al V'
    have kL : Kp (fun b => b = L) h h' := fun b o g => ⟨fun n => sb.extBut b o n g, by
      by_cases e : b = L
      · subst e; cases g : h'.get? b with
        | none => exact absurd g al
        | some o => exact ⟨o, rfl⟩
      · exact ⟨o, sb.extBut b o e g⟩⟩
    have kX : ∀ b, b = L → XX B mo b := fun b e => .inr (.inl (e ▸ vL))
    refine ⟨kL.mono fun b e => ⟨e ▸ vL, by cases g : B.h₀.get? b with | none => rfl | some o => exact absurd ⟨o, e ▸ g⟩ nL⟩, fun b o g => ⟨fun t => (kL b o ((s.keep b o g).1 t)).1 fun e => nL ⟨o, e ▸ g⟩, let ⟨o', g'⟩ := (s.keep b o g).2; (kL b o' g').2⟩, ⟨_, V', fun y d' e => ?_⟩, fun p hp => ?_, s.nd⟩
    · rw [List.lookup_cons] at e
      by_cases q : y = x
      · subst q
        simp only [beq_self_eq_true, Option.some.injEq] at e
        subst e
        exact ⟨v, by simp, r.kp kL kX⟩
      · rw [show (y == x) = false from beq_eq_false_iff_ne.mpr q] at e
        obtain ⟨u, a, b⟩ := rs y d' e
        exact ⟨u, by rw [if_neg q]; exact a, b.kp kL kX⟩
    · obtain ⟨a, b, c⟩ := s.mos p hp
      exact ⟨a.kp kL kX fun e => c (e ▸ vL), b, c⟩
  unfold kst at k
  rw [Bool.or_eq_true, Bool.and_eq_true, beq_iff_eq, beq_iff_eq, ← B.kind] at k
  rcases k with k | ⟨k, hf⟩
  · obtain ⟨g, n, hg⟩ := V.loc
    refine .of fun tk Q hq => wpAny_storeName_local k n (fun h' n' sb => hq _ _ _ ?_) B.np
    refine fin h' B.env.locals (.inl rfl) (fun ⟨o, e⟩ => by rw [B.lo] at e; cases e) sb (by obtain ⟨o, _, _, e, _⟩ := n'; rw [e]; exact fun q => by cases q) ⟨⟨_, n', fun y u ky e => ?_⟩, fun y u ky e => ?_, fun y c l => ?_, V.celE, V.apart, V.la⟩
    · by_cases q : y = x
      · subst q; simpa using e
      · simp only [if_neg q] at e ⊢; exact hg y u ky e
    · have q : y ≠ x := by rintro rfl; rw [k] at ky; cases ky
      rw [if_neg q] at e
      obtain ⟨c, l, ic⟩ := V.cel y u ky e
      exact ⟨c, l, ic.sameBut sb (V.la y c l)⟩
    · obtain ⟨u, ic⟩ := V.celA y c l; exact ⟨u, ic.sameBut sb (V.la y c l)⟩
  · obtain ⟨c, l⟩ := V.celE x k
    obtain ⟨v0, ic⟩ := V.celA x c l
    have al : ¬ ∃ o, B.h₀.get? c = some o := fun ⟨o, e⟩ => by have := B.fd hf c (.inr ⟨x, l⟩); rw [e] at this; cases this
    refine .of fun tk Q hq => wpAny_storeName_cell B.ek' k l ic fun h' ic' sb => hq _ _ _ ?_
    obtain ⟨g, n, hg⟩ := V.loc
    refine fin h' c (.inr ⟨x, l⟩) al sb (by obtain ⟨o, e, _⟩ := ic'; rw [e]; exact fun q => by cases q) ⟨⟨g, n.sameBut sb (Ne.symm (V.la x c l)), fun y u ky e => ?_⟩, fun y u ky e => ?_, fun y c' l' => ?_, V.celE, V.apart, V.la⟩
    · have q : y ≠ x := by rintro rfl; rw [k] at ky; cases ky
      rw [if_neg q] at e; exact hg y u ky e
    · by_cases q : y = x
      · subst q; simp only [if_true, Option.some.injEq] at e; subst e; exact ⟨c, l, ic'⟩
      · rw [if_neg q] at e
        obtain ⟨c', l', i'⟩ := V.cel y u ky e
        exact ⟨c', l', i'.sameBut sb fun z => q (V.apart y x c (z ▸ l') l)⟩
    · by_cases z : c' = c
      · subst z; exact ⟨_, ic'⟩
      · obtain ⟨u, i'⟩ := V.celA y c' l'; exact ⟨u, i'.sameBut sb z⟩
end
end Mine

end
section
open PySem PySem.W PySem.Calls PyProof.Rows
namespace Mine

noncomputable def Al (X : Addr → Prop) (h : Heap) : Prop := ∀ b, X b → ∃ o, h.get? b = some o
theorem Al.new {X : Addr → Prop} {h : Heap} (x : Al X h) {a : Addr} (n : h.get? a = none) : ¬ X a := fun t => by
  obtain ⟨o, e⟩ := x a t; rw [n] at e; cases e

noncomputable def Op2 (P : Pm) (f : Value → Value → Sem Value) (a b d : D) : Prop :=
  ∀ A X h u v, OkA 0 A → Al X h → Rep P X h u a → Rep P X h v b → Run P A (f u v) h fun r h' => Ke h h' ∧ Rep P X h' r d
noncomputable def Op1 (P : Pm) (f : Value → Sem Value) (a d : D) : Prop :=
  ∀ A X h u, OkA 0 A → Al X h → Rep P X h u a → Run P A (f u) h fun r h' => Ke h h' ∧ Rep P X h' r d
noncomputable def Tru (P : Pm) (a : D) (b : Bool) : Prop :=
  ∀ A X h u, OkA 0 A → Al X h → Rep P X h u a → Run P A (truthy u) h fun r h' => r = b ∧ Ke h h'

section
variable {P : Pm}
theorem rep_int {X h v i} : Rep P X h v (.int i) = ∃ t, v = .int i t := by simp only [Rep]
theorem rep_str {X h v i} : Rep P X h v (.str i) = ∃ t, v = .str i t := by simp only [Rep]
theorem rep_bytes {X h v i} : Rep P X h v (.bytes i) = ∃ t, v = .bytes i.toArray t := by simp only [Rep]
theorem rep_bool {X h v i} : Rep P X h v (.bool i) = (v = .bool i) := by simp only [Rep]
theorem rep_none {X h v} : Rep P X h v .none = (v = .none) := by simp only [Rep]
theorem rep_raw {X h v u} : Rep P X h v (.raw u) = (v = u) := by simp only [Rep]
theorem rep_list {X h v ds} : Rep P X h v (.list ds) = ∃ a vs, v = .ref a ∧ ¬ X a ∧ h.PlainList a vs.toArray ∧ Reps P X h vs ds := by simp only [Rep]
theorem rep_tup {X h v ds} : Rep P X h v (.tup ds) = ∃ a vs, v = .ref a ∧ ¬ X a ∧ h.IsTuple a vs.toArray ∧ Reps P X h vs ds := by simp only [Rep]
theorem rep_dict {X h v ks ds} : Rep P X h v (.dict ks ds) = ∃ a vs ep, v = .ref a ∧ ¬ X a ∧ DAt P h a (ks.zip vs) ep ∧ ks.length = vs.length ∧ Reps P X h vs ds := by simp only [Rep]
theorem rep_rng {X h v x y z} : Rep P X h v (.rng x y z) = ∃ a t u r, v = .ref a ∧ ¬ X a ∧ IsRange h a x y z t u r := by simp only [Rep]
theorem rep_inst {X h v C ks ds} : Rep P X h v (.inst C ks ds) = ∃ a dx es n vs, v = .ref a ∧ ¬ X a ∧ ¬ X dx ∧ h.get? a = some (instObj C dx) ∧ h.get? dx = some (dictOf es n) ∧ Ents es ks vs ∧ Reps P X h vs ds := by simp only [Rep]
theorem reps_nil {X h} : Reps P X h [] [] = True := by simp only [Reps]
theorem reps_cons {X h v vs d ds} : Reps P X h (v :: vs) (d :: ds) = (Rep P X h v d ∧ Reps P X h vs ds) := by simp only [Reps]

theorem Op2.ints {f : Value → Value → Sem Value} {a b : Int} {d : D}
    (x : ∀ A (X : Addr → Prop) h t u, OkA 0 A → Run P A (f (.int a t) (.int b u)) h fun r h' => Ke h h' ∧ Rep P X h' r d) : Op2 P f (.int a) (.int b) d := fun A X h u v ok _ r1 r2 => by
  rw [rep_int] at r1 r2
  obtain ⟨t, rfl⟩ := r1; obtain ⟨u, rfl⟩ := r2
  exact x A X h t u ok
theorem o_add {a b : Int} : Op2 P (binaryOp .Add) (.int a) (.int b) (.int (a + b)) := .ints fun A X h t u ok => .of fun tk Q hq => add_int (hq _ _ _ ⟨.refl h, by rw [rep_int]; exact ⟨_, rfl⟩⟩)
theorem o_sub {a b : Int} : Op2 P (binaryOp .Sub) (.int a) (.int b) (.int (a - b)) := .ints fun A X h t u ok => .of fun tk Q hq => sub_int (hq _ _ _ ⟨.refl h, by rw [rep_int]; exact ⟨_, rfl⟩⟩)
theorem o_mul {a b : Int} (m : IntMulOk a b) : Op2 P (binaryOp .Mult) (.int a) (.int b) (.int (a * b)) := .ints fun A X h t u ok => .of fun tk Q hq => PyProof.Rows.mul_int (hq _ _ _ ⟨.refl h, by rw [rep_int]; exact ⟨_, rfl⟩⟩) m
theorem o_div {a b : Int} (n : b ≠ 0) (m : b.natAbs < 1073741824) : Op2 P (binaryOp .FloorDiv) (.int a) (.int b) (.int (a.fdiv b)) := .ints fun A X h t u ok => .of fun tk Q hq => floordiv_int n (hq _ _ _ ⟨.refl h, by rw [rep_int]; exact ⟨_, rfl⟩⟩) (.inl (PyProof.noPylong_small m))
theorem o_mod {a b : Int} (n : b ≠ 0) : Op2 P (binaryOp .Mod) (.int a) (.int b) (.int (a.fmod b)) := .ints fun A X h t u ok => .of fun tk Q hq => mod_int' n (hq _ _ _ ⟨.refl h, by rw [rep_int]; exact ⟨_, rfl⟩⟩)
theorem o_pow {a b : Int} (n : 0 ≤ b) (m : b ≤ 1000000) (l : a.natAbs < 2 ^ 64) : Op2 P (binaryOp .Pow) (.int a) (.int b) (.int (a ^ b.toNat)) := .ints fun A X h t u ok => .of fun tk Q hq => pow_int_small n m l (hq _ _ _ ⟨.refl h, by rw [rep_int]; exact ⟨_, rfl⟩⟩)
theorem o_shl {a b : Int} (n : 0 ≤ b) (m : b ≤ 1000000) (l : a.natAbs < 2 ^ 64) : Op2 P (binaryOp .LShift) (.int a) (.int b) (.int (a * 2 ^ b.toNat)) := .ints fun A X h t u ok => .of fun tk Q hq => lshift_int_small n m l (hq _ _ _ ⟨.refl h, by rw [rep_int]; exact ⟨_, rfl⟩⟩)
theorem o_or {a b : Int} : Op2 P (binaryOp .BitOr) (.int a) (.int b) (.int (Builtin.bitOr a b)) := .ints fun A X h t u ok => .of fun tk Q hq => or_int (hq _ _ _ ⟨.refl h, by rw [rep_int]; exact ⟨_, rfl⟩⟩)
theorem o_and {a b : Int} : Op2 P (binaryOp .BitAnd) (.int a) (.int b) (.int (Builtin.bitAnd a b)) := .ints fun A X h t u ok => .of fun tk Q hq => and_int (hq _ _ _ ⟨.refl h, by rw [rep_int]; exact ⟨_, rfl⟩⟩)
theorem o_lt {a b : Int} : Op2 P (compareOp .Lt) (.int a) (.int b) (.bool (decide (a < b))) := .ints fun A X h t u ok => .of fun tk Q hq => lt_int (hq _ _ _ ⟨.refl h, by rw [rep_bool]⟩)
theorem o_le {a b : Int} : Op2 P (compareOp .LtE) (.int a) (.int b) (.bool (decide (a ≤ b))) := .ints fun A X h t u ok => .of fun tk Q hq => le_int (hq _ _ _ ⟨.refl h, by rw [rep_bool]⟩)
theorem o_gt {a b : Int} : Op2 P (compareOp .Gt) (.int a) (.int b) (.bool (decide (a > b))) := .ints fun A X h t u ok => .of fun tk Q hq => gt_int (hq _ _ _ ⟨.refl h, by rw [rep_bool]⟩)
theorem o_ge {a b : Int} : Op2 P (compareOp .GtE) (.int a) (.int b) (.bool (decide (a ≥ b))) := .ints fun A X h t u ok => .of fun tk Q hq => ge_int (hq _ _ _ ⟨.refl h, by rw [rep_bool]⟩)
theorem o_eq {a b : Int} : Op2 P (compareOp .Eq) (.int a) (.int b) (.bool (a == b)) := .ints fun A X h t u ok => .of fun tk Q hq => eq_int (hq _ _ _ ⟨.refl h, by rw [rep_bool]⟩)
theorem o_ne {a b : Int} : Op2 P (compareOp .NotEq) (.int a) (.int b) (.bool (a != b)) := .ints fun A X h t u ok => .of fun tk Q hq => ne_int (hq _ _ _ ⟨.refl h, by rw [rep_bool]⟩)

theorem o_seq {a b : Str} : Op2 P (compareOp .Eq) (.str a) (.str b) (.bool (a == b)) := fun A X h u v ok _ r1 r2 => by
  rw [rep_str] at r1 r2
  obtain ⟨t, rfl⟩ := r1; obtain ⟨u, rfl⟩ := r2
  exact .of fun tk Q hq => PyProof.Rows.eq_str (hq _ _ _ ⟨.refl h, by rw [rep_bool]⟩)
theorem o_sge {a b : Str} : Op2 P (compareOp .GtE) (.str a) (.str b) (.bool (!(a.cps.toList < b.cps.toList))) := fun A X h u v ok _ r1 r2 => by
  rw [rep_str] at r1 r2
  obtain ⟨t, rfl⟩ := r1; obtain ⟨u, rfl⟩ := r2
  exact .of fun tk Q hq => PySem.P.ge_str (hq _ _ _ ⟨.refl h, by rw [rep_bool]⟩)
theorem o_badd {a b : List UInt8} (m : a.length + b.length ≤ 16777216) : Op2 P (binaryOp .Add) (.bytes a) (.bytes b) (.bytes (a ++ b)) := fun A X h u v ok _ r1 r2 => by
  rw [rep_bytes] at r1 r2
  obtain ⟨t, rfl⟩ := r1; obtain ⟨u, rfl⟩ := r2
  exact .of fun tk Q hq => KBy.add_bytes (by simpa using m) fun t' k => hq _ _ _ ⟨.refl h, by rw [rep_bytes]; exact ⟨t', by rw [List.append_toArray]⟩⟩
theorem o_bne {a b : List UInt8} : Op2 P (compareOp .NotEq) (.bytes a) (.bytes b) (.bool (a != b)) := fun A X h u v ok _ r1 r2 => by
  rw [rep_bytes] at r1 r2
  obtain ⟨t, rfl⟩ := r1; obtain ⟨u, rfl⟩ := r2
  exact .of fun tk Q hq => ne_bytes (hq _ _ _ ⟨.refl h, by rw [rep_bool]⟩)
theorem o_ladd {a b : List D} (m : a.length + b.length ≤ 1000000) : Op2 P (binaryOp .Add) (.list a) (.list b) (.list (a ++ b)) := fun A X h u v ok al r1 r2 => by
  rw [rep_list] at r1 r2
  obtain ⟨l, vs, rfl, x1, ⟨n1, l1⟩, q1⟩ := r1; obtain ⟨l', us, rfl, x2, ⟨n2, l2⟩, q2⟩ := r2
  refine .of fun tk Q hq => PySem.P.add_list (n := n1) (n2 := n2) l1 l2 (hq _ _ _ ⟨Ke.push _ _, ?_⟩) (by have e1 := q1.length; have e2 := q2.length; rw [sizeLine_eq]; simp; omega)
  rw [rep_list]
  exact ⟨_, vs ++ us, rfl, al.new (size_none _), ⟨0, by rw [← List.append_toArray]; exact Heap.get?_push_size _ rfl⟩, (q1.append q2).ke (Ke.push _ _)⟩
end

theorem S.al {sc : Sc} {B : Bd sc} {md : Md} {mo : MoL} {h : Heap} (s : S B md mo h) : Al (XX B mo) h := s.base.xa

section
variable {sc : Sc} {B : Bd sc} {md : Md} {mo mo' mo1 mo2 mo3 : MoL}
theorem ev_bin {l r : Expr} {op : Operator} {pos : Pos} {a b d : D} (x : Ev B md mo l a mo1) (y : Ev B md mo1 r b mo2) (o : Op2 B.P (binaryOp op) a b d) : Ev B md mo (.BinOp l op r pos) d mo2 := fun h s => .of fun tk Q hq =>
  wpAny_BinOp ((x h s).to fun u h1 tk1 ⟨g1, r1⟩ => (y h1 g1.s).to fun v h2 tk2 ⟨g2, r2⟩ =>
    (o B.A _ h2 u v B.ok0 g2.s.al (g2.rep r1) r2).to fun w h3 tk3 ⟨k3, r3⟩ => hq _ _ _ ⟨(g1.trans g2).ke k3, r3⟩)
theorem ev_cmp {l r : Expr} {op : CmpOp} {pos : Pos} {a b d : D} (x : Ev B md mo l a mo1) (y : Ev B md mo1 r b mo2) (o : Op2 B.P (compareOp op) a b d) (hm : behindInMarks op r = false := by rfl) : Ev B md mo (.Compare l [op] [r] pos) d mo2 := fun h s => .of fun tk Q hq =>
  wpAny_Compare1 ((x h s).to fun u h1 tk1 ⟨g1, r1⟩ => (y h1 g1.s).to fun v h2 tk2 ⟨g2, r2⟩ =>
    (o B.A _ h2 u v B.ok0 g2.s.al (g2.rep r1) r2).to fun w h3 tk3 ⟨k3, r3⟩ => hq _ _ _ ⟨(g1.trans g2).ke k3, r3⟩) hm
theorem et_cmp {l r : Expr} {op : CmpOp} {pos : Pos} {a b : D} {c : Bool} (x : Ev B md mo l a mo1) (y : Ev B md mo1 r b mo2) (o : Op2 B.P (compareOp op) a b (.bool c)) (hm : behindInMarks op r = false := by rfl) : Et B md mo (.Compare l [op] [r] pos) c mo2 := fun h s => .of fun tk Q hq =>
  wpAny_isTrue_Compare1 ((x h s).to fun u h1 tk1 ⟨g1, r1⟩ => (y h1 g1.s).to fun v h2 tk2 ⟨g2, r2⟩ =>
    (o B.A _ h2 u v B.ok0 g2.s.al (g2.rep r1) r2).to fun w h3 tk3 ⟨k3, r3⟩ => by
      rw [rep_bool] at r3; subst r3
      exact wpAny_truthy_bool (hq _ _ _ ⟨rfl, (g1.trans g2).ke k3⟩)) hm
theorem et_not {x : Expr} {pos : Pos} {c : Bool} (t : Et B md mo x c mo1) : Et B md mo (.UnaryOp .Not x pos) (!c) mo1 := fun h s => .of fun tk Q hq =>
  isTrue_not ((t h s).to fun b h1 tk1 ⟨e, g1⟩ => by subst e; exact hq _ _ _ ⟨rfl, g1⟩)
theorem et_and_nil {pos : Pos} : Et B md mo (.BoolOp .And [] pos) true mo := fun h s => .of fun tk Q hq => isTrue_and_nil (hq _ _ _ ⟨rfl, s.refl⟩)
theorem et_or_nil {pos : Pos} : Et B md mo (.BoolOp .Or [] pos) false mo := fun h s => .of fun tk Q hq => isTrue_or_nil (hq _ _ _ ⟨rfl, s.refl⟩)
theorem et_and {x : Expr} {rest : List Expr} {pos : Pos} {b c : Bool} (t : Et B md mo x b mo) (y : b = true → Et B md mo (.BoolOp .And rest pos) c mo) : Et B md mo (.BoolOp .And (x :: rest) pos) (b && c) mo := fun h s => .of fun tk Q hq =>
  isTrue_and ((t h s).to fun r h1 tk1 ⟨e, g1⟩ => by
    subst e
    cases r with
    | false => exact hq _ _ _ ⟨rfl, g1⟩
    | true => exact (y rfl h1 g1.s).to fun r h2 tk2 ⟨e, g2⟩ => by subst e; exact hq _ _ _ ⟨rfl, g1.trans g2⟩)
theorem et_or {x : Expr} {rest : List Expr} {pos : Pos} {b c : Bool} (t : Et B md mo x b mo) (y : b = false → Et B md mo (.BoolOp .Or rest pos) c mo) : Et B md mo (.BoolOp .Or (x :: rest) pos) (b || c) mo := fun h s => .of fun tk Q hq =>
  isTrue_or ((t h s).to fun r h1 tk1 ⟨e, g1⟩ => by
    subst e
    cases r with
    | true => exact hq _ _ _ ⟨rfl, g1⟩
    | false => exact (y rfl h1 g1.s).to fun r h2 tk2 ⟨e, g2⟩ => by subst e; exact hq _ _ _ ⟨rfl, g1.trans g2⟩)
theorem et_val {e : Expr} {d : D} {c : Bool} (x : Ev B md mo e d mo1) (t : Tru B.P d c) (he : isTrue e B.env (eval e B.env) = (do let v ← eval e B.env; standAt e.pos; holding [v] (truthy v)) := by rfl) : Et B md mo e c mo1 := fun h s => .of fun tk Q hq =>
  isTrue_plain ((x h s).to fun u h1 tk1 ⟨g1, r1⟩ => (t B.A _ h1 u B.ok0 g1.s.al r1).to fun b h2 tk2 ⟨e, k2⟩ => by
    subst e; exact hq _ _ _ ⟨rfl, g1.ke k2⟩) he
theorem tru_bool {b : Bool} {P : Pm} : Tru P (.bool b) b := fun A X h u ok al r => by
  rw [rep_bool] at r; subst r
  exact .of fun tk Q hq => wpAny_truthy_bool (hq _ _ _ ⟨rfl, .refl h⟩)

theorem ev_neg {x : Expr} {pos : Pos} {a : Int} (t : Ev B md mo x (.int a) mo1) : Ev B md mo (.UnaryOp .USub x pos) (.int (-a)) mo1 := fun h s => .of fun tk Q hq =>
  UnaryOp_ ((t h s).to fun u h1 tk1 ⟨g1, r1⟩ => by
    rw [rep_int] at r1; obtain ⟨t, rfl⟩ := r1
    exact neg_int (hq _ _ _ ⟨g1, by rw [rep_int]; exact ⟨_, rfl⟩⟩))
theorem ev_not {x : Expr} {pos : Pos} {d : D} {c : Bool} (t : Ev B md mo x d mo1) (y : Tru B.P d c) : Ev B md mo (.UnaryOp .Not x pos) (.bool (!c)) mo1 := fun h s => .of fun tk Q hq =>
  UnaryOp_ ((t h s).to fun u h1 tk1 ⟨g1, r1⟩ => not_of ((y B.A _ h1 u B.ok0 g1.s.al r1).to fun b h2 tk2 ⟨e, k2⟩ => by
    subst e; exact hq _ _ _ ⟨g1.ke k2, by rw [rep_bool]⟩))
theorem ev_ife {test body orelse : Expr} {pos : Pos} {c : Bool} {d : D} (t : Et B md mo test c mo1) (y : c = true → Ev B md mo1 body d mo2) (n : c = false → Ev B md mo1 orelse d mo2) : Ev B md mo (.IfExp test body orelse pos) d mo2 := fun h s => .of fun tk Q hq =>
  IfExp_ ((t h s).to fun b h1 tk1 ⟨e, g1⟩ => by
    subst e
    cases b with
    | true => exact (y rfl h1 g1.s).to fun v h2 tk2 ⟨g2, r2⟩ => hq _ _ _ ⟨g1.trans g2, r2⟩
    | false => exact (n rfl h1 g1.s).to fun v h2 tk2 ⟨g2, r2⟩ => hq _ _ _ ⟨g1.trans g2, r2⟩)
theorem en_ife {test body orelse : Expr} {pos : Pos} {c : Bool} {m : MO} (t : Et B md mo test c mo1) (y : c = true → En B md mo1 body m mo2) (n : c = false → En B md mo1 orelse m mo2) : En B md mo (.IfExp test body orelse pos) m mo2 := fun h s => .of fun tk Q hq =>
  IfExp_ ((t h s).to fun b h1 tk1 ⟨e, g1⟩ => by
    subst e
    cases b with
    | true => exact (y rfl h1 g1.s).to fun v h2 tk2 ⟨g2, r2⟩ => hq _ _ _ ⟨g1.trans g2, r2.mono fun _ => size_mono g1.k⟩
    | false => exact (n rfl h1 g1.s).to fun v h2 tk2 ⟨g2, r2⟩ => hq _ _ _ ⟨g1.trans g2, r2.mono fun _ => size_mono g1.k⟩)
theorem ev_and {e₁ e₂ : Expr} {pos : Pos} {d d1 : D} {c : Bool} (x : Ev B md mo e₁ d1 mo1) (t : Tru B.P d1 c) (y : c = true → Ev B md mo1 e₂ d mo2) (n : c = false → d1 = d ∧ mo1 = mo2) : Ev B md mo (.BoolOp .And [e₁, e₂] pos) d mo2 := fun h s => .of fun tk Q hq =>
  BoolOp_and ((x h s).to fun u h1 tk1 ⟨g1, r1⟩ => (t B.A _ h1 u B.ok0 g1.s.al r1).to fun b h2 tk2 ⟨e, k2⟩ => by
    subst e
    have g2 := g1.ke k2
    cases b with
    | true => exact BoolOp_one ((y rfl h2 g2.s).to fun v h3 tk3 ⟨g3, r3⟩ => hq _ _ _ ⟨g2.trans g3, r3⟩)
    | false => obtain ⟨rfl, rfl⟩ := n rfl; exact hq _ _ _ ⟨g2, r1.ke k2⟩)
theorem ev_or {e₁ e₂ : Expr} {pos : Pos} {d d1 : D} {c : Bool} (x : Ev B md mo e₁ d1 mo1) (t : Tru B.P d1 c) (y : c = false → Ev B md mo1 e₂ d mo2) (n : c = true → d1 = d ∧ mo1 = mo2) : Ev B md mo (.BoolOp .Or [e₁, e₂] pos) d mo2 := fun h s => .of fun tk Q hq =>
  BoolOp_or ((x h s).to fun u h1 tk1 ⟨g1, r1⟩ => (t B.A _ h1 u B.ok0 g1.s.al r1).to fun b h2 tk2 ⟨e, k2⟩ => by
    subst e
    have g2 := g1.ke k2
    cases b with
    | false => exact BoolOp_one ((y rfl h2 g2.s).to fun v h3 tk3 ⟨g3, r3⟩ => hq _ _ _ ⟨g2.trans g3, r3⟩)
    | true => obtain ⟨rfl, rfl⟩ := n rfl; exact hq _ _ _ ⟨g2, r1.ke k2⟩)
end
end Mine

end
section
open PySem PySem.W PySem.Calls PyProof.Rows
namespace Mine

theorem cells_look : ∀ (names : List (Str × NameKind)) (n : Nat) (acc : List (Str × Addr)) (x : Str), ((acc.lookup x).isSome = true ∨ names.lookup x = some .cell) → ((cellsFrom n names acc).lookup x).isSome = true
  | [], n, acc, x, h => by
    rcases h with h | h
    · exact h
    · cases h
  | (y, k) :: r, n, acc, x, h => by
    unfold cellsFrom
    split
    · rename_i hk
      refine cells_look r _ _ x ?_
      by_cases e : x = y
      · subst e; left; simp [List.lookup_cons]
      · rcases h with h | h
        · left; rw [List.lookup_cons, show (x == y) = false from beq_eq_false_iff_ne.mpr e]; exact h
        · right; rwa [List.lookup_cons, show (x == y) = false from beq_eq_false_iff_ne.mpr e] at h
    · rename_i hk
      refine cells_look r _ _ x ?_
      rcases h with h | h
      · exact .inl h
      · right
        rw [List.lookup_cons] at h
        split at h
        · cases h; exact absurd rfl hk
        · exact h

theorem bindL_look {kindOf : Str → Option NameKind} : ∀ {binds : List (Str × Value)} {m : Str → Option Value} {x : Str} {v : Value}, (binds.map (·.1)).Nodup → kindOf x = some .local → binds.lookup x = some v → bindL kindOf binds m x = some v := by
  have keep : ∀ {binds : List (Str × Value)} {m : Str → Option Value} {x : Str}, x ∉ binds.map (·.1) → bindL kindOf binds m x = m x := by
    intro binds
    induction binds with
    | nil => intro m x _; rfl
    | cons p r ih =>
      intro m x hx
      obtain ⟨n, u⟩ := p
      simp only [List.map_cons, List.mem_cons, not_or] at hx
      unfold bindL
      rw [ih hx.2]
      split
      · exact if_neg hx.1
      · rfl
  intro binds
  induction binds with
  | nil => intro m x v _ _ h; cases h
  | cons p r ih =>
    intro m x v nd hk h
    obtain ⟨n, u⟩ := p
    simp only [List.map_cons, List.nodup_cons] at nd
    unfold bindL
    rw [List.lookup_cons] at h
    by_cases e : x = n
    · subst e
      simp only [beq_self_eq_true, Option.some.injEq] at h
      subst h
      rw [keep nd.1, if_pos hk]; simp
    · rw [show (x == n) = false from beq_eq_false_iff_ne.mpr e] at h
      exact ih nd.2 hk h
theorem bindC_look {kindOf : Str → Option NameKind} : ∀ {binds : List (Str × Value)} {m : Str → Option Value} {x : Str} {v : Value}, (binds.map (·.1)).Nodup → kindOf x ≠ some .local → binds.lookup x = some v → bindC kindOf binds m x = some v := by
  have keep : ∀ {binds : List (Str × Value)} {m : Str → Option Value} {x : Str}, x ∉ binds.map (·.1) → bindC kindOf binds m x = m x := by
    intro binds
    induction binds with
    | nil => intro m x _; rfl
    | cons p r ih =>
      intro m x hx
      obtain ⟨n, u⟩ := p
      simp only [List.map_cons, List.mem_cons, not_or] at hx
      unfold bindC
      rw [ih hx.2]
      split
      · rfl
      · exact if_neg hx.1
  intro binds
  induction binds with
  | nil => intro m x v _ _ h; cases h
  | cons p r ih =>
    intro m x v nd hk h
    obtain ⟨n, u⟩ := p
    simp only [List.map_cons, List.nodup_cons] at nd
    unfold bindC
    rw [List.lookup_cons] at h
    by_cases e : x = n
    · subst e
      simp only [beq_self_eq_true, Option.some.injEq] at h
      subst h
      rw [keep nd.1, if_neg hk]; simp
    · rw [show (x == n) = false from beq_eq_false_iff_ne.mpr e] at h
      exact ih nd.2 hk h
theorem zip_look {P : Pm} {X : Addr → Prop} {h : Heap} : ∀ {ns : List Str} {vs : List Value} {ds : List D}, Reps P X h vs ds → ∀ {x : Str} {d : D}, (ns.zip ds).lookup x = some d → ∃ v, (ns.zip vs).lookup x = some v ∧ Rep P X h v d
  | [], _, _, _, _, _, e => by simp at e
  | n :: ns, [], [], _, _, _, e => by simp at e
  | n :: ns, v :: vs, d :: ds, r, x, d', e => by
    rw [reps_cons] at r
    rw [List.zip_cons_cons, List.lookup_cons] at e ⊢
    split at e
    · cases e; exact ⟨v, rfl, r.1⟩
    · exact zip_look r.2 e
  | _ :: _, [], _ :: _, r, _, _, _ => by simp only [Reps] at r
  | _ :: _, _ :: _, [], r, _, _, _ => by simp only [Reps] at r

noncomputable def Ends {sc : Sc} (B : Bd sc) (mo' : MoL) (z : Rz) (fl : Flow) (h' : Heap) : Prop :=
  Kp B.ext B.h₀ h' ∧ (∀ p ∈ mo', MoAt B.P B.X0 h' p.1 p.2) ∧ RzAt B.P B.X0 mo' B.h₀ h' (match fl with | .ret v => v | _ => .none) z

noncomputable def localsOk (scope : Scope) (names : List Str) : Bool := names.all fun x => scope.names.lookup x == some .local || scope.names.lookup x == some .cell
theorem ctr_def {P : Pm} {n f : Nat} {ds : List D} {mo mo' : MoL} {z : Rz} {name qual : Str} {params : Arguments} {body : List Stmt} {scope : Scope} {dV kV doc pm cdv ct oc : Value} {an od : Option Addr} {osl : Array (Option Value)} {names : List Str}
    (ho : P.K.lookup f = some ⟨oc, od, .func (fnOf name qual params body scope dV kV doc pm an cdv ct), osl⟩) (hcd : codeIn P.K cdv qual = true)
    (hbind : ∀ vs : List Value, vs.length = ds.length → bindArgs (fnOf name qual params body scope dV kV doc pm an cdv ct) ⟨vs, []⟩ = pure (names.zip vs))
    (hn : names.length = ds.length) (hnd : names.Nodup) (hl : localsOk scope names = true)
    (he : mo'.map (·.1) = mo.map (·.1))
    (hb : ∀ B : Bd ⟨scope, true, n⟩, B.P = P → B.ext = Am mo → Ex B (names.zip ds) mo body (Ends B mo' z))
    (hco : scope.isCoroutine = false := by rfl) (hgen : scope.isGenerator = false := by rfl) (hk : scope.kind = .function := by rfl) : Ctr P (n + 1) (.ref f) ds mo z mo' := by
  intro A X h vs ok bs rs hmo nd
  refine .of fun tk Q hq => wpAny_call ?_
  have hK : P.K.In h := P.KX.keeps bs.top
  have hlen := rs.length
  have hnm : (names.zip vs).map (·.1) = names := by rw [List.map_fst_zip]; omega
  refine codeAny_call_cells (fd := fnOf name qual params body scope dV kV doc pm an cdv ct) (body := body) ok.room (hK _ _ ho) rfl (P.nolimit.keeps bs.top) (codeRec_of hK hcd) rfl (hbind vs hlen) rfl (fun x hx => ?_) (fun s₁ IC => ?_) hco hgen hk
  · have hx' : x.1 ∈ names := hnm ▸ List.mem_map_of_mem hx
    have := List.all_eq_true.mp hl x.1 hx'
    simp only [Bool.or_eq_true, beq_iff_eq] at this
    rcases this with e | e
    · exact .inl e
    · exact .inr ⟨e, cells_look _ _ _ _ (.inr e)⟩
  · obtain ⟨h1, tk1, rfl, hke⟩ := IC.done
    generalize hen : callEnvC (fnOf name qual params body scope dV kV doc pm an cdv ct) _ f = env at IC ⊢
    have e1 : env.scope = scope := by rw [← hen]; rfl
    have e2 : env.locals = h.objs.size := by rw [← hen]; rfl
    have e3 : env.cells = cellsFrom (h.objs.size + 1) scope.names [] := by rw [← hen]; rfl
    have dead : ∀ b, Vz env b → h.get? b = none := fun b v => by
      have : h.objs.size ≤ b := by
        rcases v with rfl | ⟨x, l⟩
        · exact Nat.le_of_eq e2.symm
        · have := IC.above x b (mem_of_lookup l); rw [e2] at this; exact Nat.le_of_lt this
      cases g : h.get? b with
      | none => rfl
      | some o => exact absurd (Heap.lt_size g) (Nat.not_lt.mpr this)
    let B : Bd ⟨scope, true, n⟩ := {
      P := P, X0 := X, ext := Am mo, env := env, h₀ := h, A := A.deeper env, ok := ok.deeper, es := e1
      eg := by rw [← hen]; rfl
      eb := by rw [← hen]; rfl
      ek := hk
      base := bs
      extX := fun b x => by obtain ⟨p, hp, rfl⟩ := List.mem_map.mp x; exact (hmo p hp).1
      vz := fun b v => .inr (dead b v)
      lo := dead _ (.inl rfl)
      fd := fun _ => dead }
    have ke : Ke h h1 := hke
    have xx : ∀ b o, h.get? b = some o → XX B mo b → X b := fun b o g t => by
      rcases t with t | t | t
      · exact t
      · rw [dead b t] at g; cases g
      · obtain ⟨p, hp, rfl⟩ := List.mem_map.mp t; exact (hmo p hp).1
    have hcell : ∀ x, B.env.kindOf x = some .cell → ∃ c, B.env.cells.lookup x = some c := fun x hk => by
      rw [show B.env.cells = _ from e3]
      exact Option.isSome_iff_exists.mp (cells_look _ _ _ _ (.inr (by unfold Env.kindOf at hk; rwa [show B.env.scope = scope from e1] at hk)))
    have s0 : S B (names.zip ds) mo h1 := {
      keep := ke.kp
      vars := by
        refine ⟨fun x => (names.zip vs).lookup x, ⟨⟨_, IC.toInCall.ns, fun x v hk e => bindL_look (by rw [hnm]; exact hnd) hk e⟩, fun x v hk e => ?_, fun x c l => ⟨_, IC.cell x c l⟩, hcell, fun x y c l l' => name_of_addr IC.apart (mem_of_lookup l) (mem_of_lookup l'), fun x c l => Nat.ne_of_gt (IC.above x c (mem_of_lookup l))⟩, fun x d e => ?_⟩
        · obtain ⟨c, l⟩ := hcell x hk
          exact ⟨c, l, (bindC_look (kindOf := env.kindOf) (m := fun _ => none) (by rw [hnm]; exact hnd) (by rw [show env.kindOf x = some .cell from hk]; decide) e) ▸ IC.cell x c l⟩
        · obtain ⟨v, a, b⟩ := zip_look rs e
          exact ⟨v, a, (b.ex xx).ke ke⟩
      mos := fun p hp => ⟨((hmo p hp).2.ex xx).ke ke, .inl (List.mem_map_of_mem hp), fun v => by
        obtain ⟨o, g⟩ := (hmo p hp).2.get
        rw [dead _ v] at g; cases g⟩
      nd := nd }
    refine (hb B rfl rfl h1 s0).to fun fl h2 tk2 ⟨_, k2, m2, z2⟩ => ?_
    exact hq _ _ _ ⟨k2, m2, he, z2⟩
end Mine

end
section
open PySem PySem.W PySem.Calls PyProof.Rows
namespace Mine

inductive Upd1 : MoL → MoL → MoL → MoL → Prop
  | nil {mo} : Upd1 mo [] [] mo
  | take {a m m' r l l' r'} : Upd1 r l l' r' → Upd1 ((a, m) :: r) ((a, m) :: l) ((a, m') :: l') ((a, m') :: r')
  | there {p r l l' r'} : Upd1 r l l' r' → Upd1 (p :: r) l l' (p :: r')
theorem Upd1.here {a : Addr} {m m' : MO} {r : MoL} : Upd1 ((a, m) :: r) [(a, m)] [(a, m')] ((a, m') :: r) := .take .nil
theorem Upd1.addrs {mo l l' mo' : MoL} (u : Upd1 mo l l' mo') : mo'.map (·.1) = mo.map (·.1) := by
  induction u with
  | nil => rfl
  | take _ ih => simp only [List.map_cons, ih]
  | there _ ih => simp only [List.map_cons, ih]
theorem Upd1.sub {mo l l' mo' : MoL} (u : Upd1 mo l l' mo') : l.Sublist mo := by
  induction u with
  | nil => exact List.nil_sublist _
  | take _ ih => exact ih.cons_cons _
  | there _ ih => exact ih.cons _
theorem Upd1.mem {mo l l' mo' : MoL} (u : Upd1 mo l l' mo') : ∀ p ∈ l, p ∈ mo := fun p hp => u.sub.subset hp
theorem Upd1.nd {mo l l' mo' : MoL} (u : Upd1 mo l l' mo') (nd : (mo.map (·.1)).Nodup) : (l.map (·.1)).Nodup := (u.sub.map _).nodup nd
theorem Upd1.am {mo l l' mo' : MoL} (u : Upd1 mo l l' mo') {b : Addr} (x : Am l b) : Am mo b := by
  obtain ⟨p, hp, rfl⟩ := List.mem_map.mp x; exact List.mem_map_of_mem (u.mem p hp)
theorem Upd1.back {mo l l' mo' : MoL} (u : Upd1 mo l l' mo') : (mo.map (·.1)).Nodup → ∀ p ∈ mo', p ∈ l' ∨ (p ∈ mo ∧ ¬ Am l p.1) := by
  induction u with
  | nil => exact fun _ p hp => .inr ⟨hp, fun x => by cases x⟩
  | take u ih =>
    rename_i a m m' r l l' r'
    intro nd p hp
    rw [List.map_cons, List.nodup_cons] at nd
    rcases List.mem_cons.mp hp with rfl | hp
    · exact .inl (.head _)
    · rcases ih nd.2 p hp with q | ⟨q, z⟩
      · exact .inl (.tail _ q)
      · refine .inr ⟨.tail _ q, fun x => ?_⟩
        rcases List.mem_cons.mp x with x | x
        · exact nd.1 (List.mem_map.mpr ⟨p, q, x⟩)
        · exact z x
  | there u ih =>
    rename_i p' r l l' r'
    intro nd p hp
    rw [List.map_cons, List.nodup_cons] at nd
    rcases List.mem_cons.mp hp with rfl | hp
    · exact .inr ⟨.head _, fun x => nd.1 (u.am x)⟩
    · rcases ih nd.2 p hp with q | ⟨q, z⟩
      · exact .inl q
      · exact .inr ⟨.tail _ q, z⟩
theorem S.part {sc : Sc} {B : Bd sc} {md : Md} {mo mo' l l' : MoL} {h h' : Heap} (s : S B md mo h) (u : Upd1 mo l l' mo') (k : Kp (Am l) h h') (m : ∀ p ∈ l', MoAt B.P (XX B mo) h' p.1 p.2) : Go B md mo h mo' h' :=
  s.go (k.mono fun b x => u.am x) u.addrs fun p hp => by
    rcases u.back s.nd p hp with q | ⟨q, n⟩
    · exact m p q
    · exact (s.mos p q).1.kp k (fun b x => .inr (.inr (u.am x))) n

section
variable {sc : Sc} {B : Bd sc} {md : Md} {mo mo1 mo2 l l' : MoL}
theorem Ctr.use {n : Nat} {f : Value} {ds : List D} {z : Rz} (c : Ctr B.P n f ds l z l') (hn : n ≤ sc.n) (u : Upd1 mo l l' mo2) {h : Heap} (s : S B md mo h) {vs : List Value} (r : Reps B.P (XX B mo) h vs ds) :
    Run B.P B.A (call f vs) h fun v h' => Go B md mo h mo2 h' ∧ RzAt B.P (XX B mo2) mo2 h h' v z :=
  (c B.A (XX B mo) h vs (B.ok.le hn) s.base r (fun p hp => ⟨.inr (.inr (List.mem_map_of_mem (u.mem p hp))), (s.mos p (u.mem p hp)).1⟩) (u.nd s.nd)).mono fun v h' ⟨k, m, e, rz⟩ =>
    have g := s.part u k m
    ⟨g, by
      rw [XX_congr g.e]
      have rest : ∀ a, h.get? a = none → (∀ p ∈ l', MoAt B.P (fun b => XX B mo b ∨ b = a) h' p.1 p.2) → ∀ p ∈ mo2, MoAt B.P (fun b => XX B mo b ∨ b = a) h' p.1 p.2 := fun a n q p hp => by
        rcases u.back s.nd p hp with x | ⟨x, y⟩
        · exact q p x
        · exact ((s.mos p x).1.also n).kp k (fun b t => .inl (.inr (.inr (u.am t)))) y
      cases z with
      | d x => exact rz
      | n m =>
        obtain ⟨a, e, n, q⟩ := rz
        exact ⟨a, e, n, fun p hp => by
          rcases List.mem_cons.mp hp with rfl | hp
          · exact q _ (.head _)
          · exact rest a n (fun p hp => q p (.tail _ hp)) p hp⟩
      | o C ks ds =>
        obtain ⟨a, dx, e, ne, n, n', e', q⟩ := rz
        exact ⟨a, dx, e, ne, n, n', e', fun p hp => by
          rcases List.mem_cons.mp hp with rfl | hp
          · exact q _ (.head _)
          · exact rest dx n' (fun p hp => q p (.tail _ hp)) p hp⟩⟩

noncomputable def noStar : List Expr → Bool
  | [] => true
  | .Starred .. :: _ => false
  | _ :: r => noStar r
theorem star_cons {e : Expr} {r : List Expr} {env : Env} (h : noStar (e :: r) = true) : starEach (e :: r) env = (false, eval e env) :: starEach r env ∧ noStar r = true := by
  cases e <;> first | exact ⟨rfl, h⟩ | cases h
theorem star_any : ∀ {es : List Expr} {env : Env} {pos : Pos}, noStar es = true → (backTo pos (starEach es env)).any (·.1) = false
  | [], _, _, _ => rfl
  | e :: r, env, pos, h => by
    obtain ⟨a, b⟩ := star_cons (env := env) h
    rw [a]
    show (false || (backTo pos (starEach r env)).any (·.1)) = false
    rw [star_any b]; rfl
theorem args_run {M : Model} {A : Around} {E : Value → Shared → Prop} {s : Shared} {es : List Expr} {env : Env} {pos : Pos} {f : Value} {Q : Args → Shared → Prop} (hs : noStar es = true)
    (h : wpAny M A (spliced (backTo pos (starEach es env))) (fun vs s' => Q ⟨vs, []⟩ s') E s) : wpAny M A (evalArgs f true (backTo pos (starEach es env)) []) Q E s := by
  cases es with
  | nil =>
    unfold evalArgs
    show wpAny M A (spliced [] >>= _) Q E s
    refine wpAny_bind (wpAny_mono h (fun vs s' h' => ?_) fun _ _ e => e)
    exact wpAny_bind (wpAny_pure (wpAny_holding (wpAny_bind (wpAny_pure (wpAny_bind (wpAny_pure (wpAny_pure h')))))))
  | cons e r =>
    obtain ⟨a, b⟩ := star_cons (env := env) hs
    rw [a] at h ⊢
    exact evalArgs_plain h

noncomputable def Cw (K : Frag) (f : Value) : Prop := ∀ {M : Model} {A : Around} {E : Value → Shared → Prop} {s : Shared} {env : Env} {pos : Pos} {first : List Value} {es : List Expr} {Q : Value → Shared → Prop}, noStar es = true →
  wpAny M A (spliced (backTo pos (starEach es env))) (fun vs s₁ => K.In s₁.heap ∧ wpAny M A (call f (first ++ vs)) Q E s₁) E s → wpAny M A (callWith pos f first (backTo pos (starEach es env)) []) Q E s
theorem cw_K {K : Frag} {f : Value} (hk : keepIn K f = true) : Cw K f := fun hs h => callWith_of (by rw [star_any hs]; rfl) (keeps_K hk) (args_run hs h)
theorem cw_b {K : Frag} {id : String} : Cw K (.builtin id) := fun hs h => callWith_builtin (star_any hs) (args_run hs (wpAny_mono h (fun _ _ x => x.2) fun _ _ x => x))
theorem cw_t {K : Frag} {T : String} : Cw K (.type T) := fun hs h => PyProof.Rows.callWith_type (star_any hs) (args_run hs (wpAny_mono h (fun _ _ x => x.2) fun _ _ x => x))

theorem call_run {x : Str} {p pos : Pos} {f : Value} {es : List Expr} {ds : List D} {n : Nat} {z : Rz} (hf : Ev B md mo (.Name x p) (.raw f) mo) (w : Cw B.P.K f) (hs : noStar es = true) (xs : Evs B md mo es ds mo1) (c : Ctr B.P n f ds l z l') (hn : n ≤ sc.n) (u : Upd1 mo1 l l' mo2) {h : Heap} (s : S B md mo h) :
    Run B.P B.A (eval (.Call (.Name x p) es [] pos) B.env) h fun v h' => Go B md mo h mo2 h' ∧ RzAt B.P (XX B mo2) mo2 h h' v z := .of fun tk Q hq =>
  Call_Name rfl ((hf h s).to fun g h1 tk1 ⟨g1, r1⟩ => by
    rw [rep_raw] at r1; subst r1
    refine w hs ((xs pos h1 g1.s).to fun vs h2 tk2 ⟨g2, r2⟩ => ⟨g2.s.K, ?_⟩)
    rw [List.nil_append]
    refine (c.use hn u g2.s r2).to fun v h3 tk3 ⟨g3, r3⟩ => hq _ _ _ ⟨(g1.trans g2).trans g3, r3.mono fun _ => size_mono (g1.trans g2).k⟩)
theorem ev_call {x : Str} {p pos : Pos} {f : Value} {es : List Expr} {ds : List D} {n : Nat} {d : D} (hf : Ev B md mo (.Name x p) (.raw f) mo) (w : Cw B.P.K f) (hs : noStar es = true) (xs : Evs B md mo es ds mo1) (c : Ctr B.P n f ds l (.d d) l') (hn : n ≤ sc.n) (u : Upd1 mo1 l l' mo2) :
    Ev B md mo (.Call (.Name x p) es [] pos) d mo2 := fun h s => call_run hf w hs xs c hn u s
theorem en_call {x : Str} {p pos : Pos} {f : Value} {es : List Expr} {ds : List D} {n : Nat} {m : MO} (hf : Ev B md mo (.Name x p) (.raw f) mo) (w : Cw B.P.K f) (hs : noStar es = true) (xs : Evs B md mo es ds mo1) (c : Ctr B.P n f ds l (.n m) l') (hn : n ≤ sc.n) (u : Upd1 mo1 l l' mo2) :
    En B md mo (.Call (.Name x p) es [] pos) m mo2 := fun h s => call_run hf w hs xs c hn u s
noncomputable def Eo (B : Bd sc) (md : Md) (mo : MoL) (e : Expr) (C : Addr) (ks : List Str) (ds : List D) (mo' : MoL) : Prop :=
  ∀ h, S B md mo h → Run B.P B.A (eval e B.env) h fun v h' => Go B md mo h mo' h' ∧ RzAt B.P (XX B mo') mo' h h' v (.o C ks ds)
theorem eo_call {x : Str} {p pos : Pos} {f : Value} {es : List Expr} {ds : List D} {n : Nat} {C : Addr} {ks : List Str} {vs : List D} (hf : Ev B md mo (.Name x p) (.raw f) mo) (w : Cw B.P.K f) (hs : noStar es = true) (xs : Evs B md mo es ds mo1) (c : Ctr B.P n f ds l (.o C ks vs) l') (hn : n ≤ sc.n) (u : Upd1 mo1 l l' mo2) :
    Eo B md mo (.Call (.Name x p) es [] pos) C ks vs mo2 := fun h s => call_run hf w hs xs c hn u s

noncomputable def Hm (B : Bd sc) (md : Md) (mo : MoL) (d : D) (name : Str) (f : Value) : Prop :=
  ∀ h v, S B md mo h → Rep B.P (XX B mo) h v d → ∀ pl tk (Q : Value × List Value → Shared → Prop), Q (f, [v]) { B.P.σ with heap := h, toks := tk } → wpAny (model B.P.prog B.P.w) B.A (getMethod v name pl) Q (fun _ _ => False) { B.P.σ with heap := h, toks := tk }
theorem meth_run {o : Expr} {name : Str} {apos pos : Pos} {f : Value} {es : List Expr} {d : D} {ds : List D} {n : Nat} {z : Rz} {mo0 : MoL} (ho : Ev B md mo o d mo0) (hm : Hm B md mo0 d name f) (w : Cw B.P.K f) (hs : noStar es = true) (xs : Evs B md mo0 es ds mo1) (c : Ctr B.P n f (d :: ds) l z l') (hn : n ≤ sc.n) (u : Upd1 mo1 l l' mo2)
    (hb : attributeBase o name B.env (eval o B.env) = eval o B.env) (hl : (decide (es.length < 30) && apos.endLine == pos.line) = true) {h : Heap} (s : S B md mo h) :
    Run B.P B.A (eval (.Call (.Attribute o name apos) es [] pos) B.env) h fun v h' => Go B md mo h mo2 h' ∧ RzAt B.P (XX B mo2) mo2 h h' v z := .of fun tk Q hq => by
  rw [Bool.and_eq_true, decide_eq_true_eq] at hl
  rw [arm_eval_Call, hb]
  refine wpAny_bind ((ho h s).to fun ov h0 tk0 ⟨g0, r0⟩ => wpAny_bind (wpAny_standAt ?_))
  have hform : methodCallForm (es.length + ([] : List Keyword).length) (backTo pos (starEach es B.env)) (backToKw pos (keywordEach [] B.env)) = true := by
    unfold methodCallForm
    have h1 : (backTo pos (starEach es B.env)).all (fun x => !x.1) = true := by
      have := star_any (env := B.env) (pos := pos) hs
      rw [List.all_eq_true]; intro y hy
      rw [List.any_eq_false] at this
      have := this y hy
      simpa using this
    rw [h1]
    show (true && true && decide (es.length + 0 + 0 < 30)) = true
    simpa using hl.1
  have hpos : methodCallPos true o B.env apos pos = pure pos := by unfold methodCallPos; simp [hl.2]
  unfold methodCall
  rw [hform]
  refine wpAny_bind (wpAny_holding ?_)
  show wpAny _ _ (getMethod ov name _) _ _ _
  refine hm h0 ov g0.s r0 _ _ _ (wpAny_bind (wpAny_of_eq hpos ?_))
  show wpAny _ _ (callWith pos f [ov] (backTo pos (starEach es B.env)) []) _ _ _
  refine w hs ((xs pos h0 g0.s).to fun vs h2 tk2 ⟨g2, r2⟩ => ⟨g2.s.K, ?_⟩)
  refine (c.use hn u g2.s (by rw [List.singleton_append, reps_cons]; exact ⟨g2.rep r0, r2⟩)).to fun v h3 tk3 ⟨g3, r3⟩ => hq _ _ _ ⟨(g0.trans g2).trans g3, r3.mono fun _ => size_mono (g0.trans g2).k⟩
theorem ev_meth {o : Expr} {name : Str} {apos pos : Pos} {f : Value} {es : List Expr} {d d' : D} {ds : List D} {n : Nat} {mo0 : MoL} (ho : Ev B md mo o d mo0) (hm : Hm B md mo0 d name f) (w : Cw B.P.K f) (hs : noStar es = true) (xs : Evs B md mo0 es ds mo1) (c : Ctr B.P n f (d :: ds) l (.d d') l') (hn : n ≤ sc.n) (u : Upd1 mo1 l l' mo2)
    (hb : attributeBase o name B.env (eval o B.env) = eval o B.env) (hl : (decide (es.length < 30) && apos.endLine == pos.line) = true) :
    Ev B md mo (.Call (.Attribute o name apos) es [] pos) d' mo2 := fun h s => meth_run ho hm w hs xs c hn u hb hl s

theorem ents_get {name : Str} : ∀ {es : List DictEntry} {ks : List Str} {vs : List Value}, Ents es ks vs → getL name es = some ((ks.zip vs).lookup name)
  | [], [], [], _ => rfl
  | e :: es, k :: ks, v :: vs, h => by
    obtain ⟨⟨t, h1⟩, h2, h3⟩ := h
    have ih := ents_get (name := name) h3
    unfold getL at ih ⊢
    rw [List.find?_cons, List.zip_cons_cons, List.lookup_cons]
    have e1 : e.key.isStr name = (name == k) := by rw [h1]; show (k == name) = _; exact BEq.comm
    rw [e1]
    cases q : name == k with
    | true => dsimp only; rw [h2]
    | false =>
      dsimp only
      rw [← ih]
      have e2 : e.refKey = false := by unfold DictEntry.refKey; rw [h1]
      rw [List.any_cons, e2, Bool.false_or]
  | [], _ :: _, _, h => by simp [Ents] at h
  | [], [], _ :: _, h => by simp [Ents] at h
  | _ :: _, [], _, h => by simp [Ents] at h
  | _ :: _, _ :: _, [], h => by simp [Ents] at h
theorem Reps.look {P : Pm} {X : Addr → Prop} {h : Heap} {ks : List Str} {vs : List Value} {ds : List D} (r : Reps P X h vs ds) {name : Str} {d : D} (e : (ks.zip ds).lookup name = some d) : ∃ v, (ks.zip vs).lookup name = some v ∧ Rep P X h v d := zip_look r e
theorem zip_none {name : Str} : ∀ {ks : List Str} {vs : List Value} {ds : List D}, vs.length = ds.length → (ks.zip ds).lookup name = none → (ks.zip vs).lookup name = none
  | [], _, _, _, _ => by simp
  | k :: ks, [], [], _, _ => by simp
  | k :: ks, v :: vs, d :: ds, hl, h => by
    rw [List.zip_cons_cons, List.lookup_cons] at h ⊢
    split at h
    · cases h
    · exact zip_none (by simpa using hl) h
  | _ :: _, [], _ :: _, hl, _ => by simp at hl
  | _ :: _, _ :: _, [], hl, _ => by simp at hl
inductive Fld (mo : MoL) : D → Addr → List Str → List D → Prop
  | inst {C ks ds} : Fld mo (.inst C ks ds) C ks ds
  | obj {C dx ks ds} : (dx, MO.flds ks ds) ∈ mo → Fld mo (.obj C dx) C ks ds
theorem Fld.at {d : D} {C : Addr} {ks : List Str} {ds : List D} (f : Fld mo d C ks ds) {h : Heap} (s : S B md mo h) {v : Value} (r : Rep B.P (XX B mo) h v d) :
    ∃ a dx es n vs, v = .ref a ∧ h.get? a = some (instObj C dx) ∧ h.get? dx = some (dictOf es n) ∧ Ents es ks vs ∧ Reps B.P (XX B mo) h vs ds := by
  cases f with
  | inst => rw [rep_inst] at r; obtain ⟨a, dx, es, n, vs, e, _, _, q1, q2, q3, q4⟩ := r; exact ⟨a, dx, es, n, vs, e, q1, q2, q3, q4⟩
  | obj hm =>
    simp only [Rep] at r
    obtain ⟨a, e, _, q1⟩ := r
    obtain ⟨es, n, vs, q2, q3, q4⟩ := (s.mos _ hm).1
    exact ⟨a, _, es, n, vs, e, q1, q2, q3, q4⟩
theorem inst_at {h : Heap} {a C dx : Addr} {es : List DictEntry} {n : Nat} (h1 : h.get? a = some (instObj C dx)) (h2 : h.get? dx = some (dictOf es n)) : InstAt h a (instObj C dx) C (some (dictOf es n)) := ⟨h1, rfl, rfl, h2⟩
theorem handed_rep {P : Pm} {X : Addr → Prop} {h : Heap} {v : Value} {d : D} (r : Rep P X h v d) (hd : ∀ u, d ≠ .raw u) : handedIn v = true := by
  cases d <;> simp only [Rep] at r
  case raw u => exact absurd rfl (hd u)
  all_goals first
    | (subst r; rfl)
    | (obtain ⟨t, rfl⟩ := r; rfl)
    | (obtain ⟨a, r⟩ := r; obtain ⟨rfl, _⟩ := r; rfl)
    | (obtain ⟨a, _, r⟩ := r; obtain ⟨rfl, _⟩ := r; rfl)
    | (obtain ⟨a, _, _, r⟩ := r; obtain ⟨rfl, _⟩ := r; rfl)
    | (obtain ⟨a, _, _, _, r⟩ := r; obtain ⟨rfl, _⟩ := r; rfl)
    | (obtain ⟨a, _, _, _, _, r⟩ := r; obtain ⟨rfl, _⟩ := r; rfl)
noncomputable def D.notRaw : D → Bool
  | .raw _ => false
  | _ => true
theorem ev_attr {o : Expr} {name : Str} {pos : Pos} {d d' : D} {C : Addr} {ks : List Str} {ds : List D} {attr : Option Value} (ho : Ev B md mo o d mo1) (f : Fld mo1 d C ks ds) (hl : (ks.zip ds).lookup name = some d') (hr : d'.notRaw = true)
    (hg : plainGet B.P.K C name = true) (hh : hasDictIn B.P.K C = true) (ha : findIn B.P.K (.ref C) name = some attr) (hn : noGet B.P.K attr = true)
    (he : eval (.Attribute o name pos) B.env = (do let u ← eval o B.env; standAt pos.atName; let r ← holding [u] (getAttr u name true); letTemporaryGo o u r; pure r) := by rfl) : Ev B md mo (.Attribute o name pos) d' mo1 := fun h s => .of fun tk Q hq =>
  Attribute_any_ ((ho h s).to fun v h1 tk1 ⟨g1, r1⟩ => by
    obtain ⟨a, dx, es, n, vs, rfl, q1, q2, q3, q4⟩ := f.at g1.s r1
    obtain ⟨u, e, ru⟩ := q4.look hl
    refine get_value g1.s.K (inst_at q1 q2) (plainGet_of hg).1 (findObj_own (v := u) hh ha hn (by rw [lookIn_dict, ents_get q3, e])) (handed_rep ru fun w e => by rw [e] at hr; cases hr) ?_
    exact hq u h1 _ ⟨g1, ru⟩) he
theorem hm_inst {d : D} {C fn : Addr} {ks : List Str} {ds : List D} {name : Str} (f : Fld mo d C ks ds) (hl : (ks.zip ds).lookup name = none) (hg : plainGet B.P.K C name = true) (hf : findIn B.P.K (.ref C) name = some (some (.ref fn))) (ht : isFn B.P.K (.ref fn) = true) : Hm B md mo d name (.ref fn) := fun h v s r pl tk Q hq => by
  obtain ⟨a, dx, es, n, vs, rfl, q1, q2, q3, q4⟩ := f.at s r
  exact method_fn s.K (inst_at q1 q2) (plainGet_of hg).1 (plainGet_of hg).2 hf (beq_iff_eq.mp ht) (by show (lookIn name (dictOf es n)).map _ = _; rw [lookIn_dict, ents_get q3, zip_none q4.length hl]; rfl) hq
theorem hm_builtin {d : D} {T id : String} {name : Str} (pa : PlainAttrs T) (slot : Slot T name id) (hty : typeOf (.builtin id) = pure (.type "method_descriptor"))
    (ht : ∀ h v, S B md mo h → Rep B.P (XX B mo) h v d → ∀ tk, ({ B.P.σ with heap := h, toks := tk } : Shared).TypeIs v T ∧ ∀ a, v = .ref a → ∃ o, h.get? a = some o ∧ o.dict = none) : Hm B md mo d name (.builtin id) := fun h v s r pl tk Q hq =>
  getMethod_builtin (ht h v s r tk).1 pa slot hty (ht h v s r tk).2 hq
end
end Mine

end
section
open PySem PySem.W PySem.Calls PyProof.Rows
namespace Mine

section
variable {sc : Sc} {B : Bd sc} {md md' : Md} {mo mo1 mo2 mo' : MoL} {R : Flow → Heap → Prop} {rest : List Stmt}

theorem Kp.vx {h h' : Heap} (k : Kp (fun b => Vz B.env b ∧ B.h₀.get? b = none) h h') : Kp (XX B mo) h h' := k.mono fun b x => .inr (.inl x.1)
theorem S.next {h : Heap} (s : S B md mo h) {a : Addr} (n : h.get? a = none) : ¬ B.ext a := fun x => by obtain ⟨o, e⟩ := B.base.xa a (B.extX a x); obtain ⟨o', e'⟩ := (s.keep a o e).2; rw [n] at e'; cases e'
theorem ex_step {st : Stmt} (x : ∀ h, S B md mo h → ∀ (Q : Flow → Shared → Prop) tk,
      (∀ md' mo' h' tk', S B md' mo' h' → Kp (XX B mo) h h' → (∀ b o, h.get? b = some o → XX B mo' b → XX B mo b) → Ex B md' mo' rest R → Q .next { B.P.σ with heap := h', toks := tk' }) →
      wpAny (model B.P.prog B.P.w) B.A (exec st B.env) Q (fun _ _ => False) { B.P.σ with heap := h, toks := tk }) : Ex B md mo (st :: rest) R := ex_cons fun h s => .of fun tk Q hq =>
  x h s _ tk fun md' mo' h' tk' s' k t y => hq _ _ _ ⟨k, y.after s' k t⟩
noncomputable def Nx (B : Bd sc) (md' : Md) (mo' : MoL) (fl : Flow) (h : Heap) : Prop := fl = .next ∧ S B md' mo' h
theorem ex_end : Ex B md mo [] (Nx B md mo) := ex_nil fun h s => ⟨rfl, s⟩
theorem Ex.mono {ss : List Stmt} {R' : Flow → Heap → Prop} (x : Ex B md mo ss R) (k : ∀ fl h, R fl h → R' fl h) : Ex B md mo ss R' := fun h s => (x h s).mono fun fl h' ⟨a, b⟩ => ⟨a, k fl h' b⟩
theorem Ex.sub {ss : List Stmt} (x : Ex B md' mo ss R) (k : ∀ x d, md'.lookup x = some d → md.lookup x = some d) : Ex B md mo ss R := fun h s => x h (s.sub k)
theorem Ex.drop {ss : List Stmt} {p : Addr × MO} (x : Ex B md mo ss R) : Ex B md (p :: mo) ss R := fun h s => (x h s.drop).mono fun fl h' ⟨k, r⟩ => ⟨k.mono fun b t => by
  rcases t with t | t | t
  · exact .inl t
  · exact .inr (.inl t)
  · exact .inr (.inr (List.mem_cons_of_mem _ t)), r⟩

theorem xx_go {h h' : Heap} (g : Go B md mo h mo' h') : ∀ b o, h.get? b = some o → XX B mo' b → XX B mo b := fun b o _ t => g.xx t
theorem xx_new {h h' : Heap} {a : Addr} {m : MO} (g : Go B md mo h mo' h') (n : h.get? a = none) : ∀ b o, h.get? b = some o → XX B ((a, m) :: mo') b → XX B mo b := fun b o e t => by
  rcases t with t | t | t
  · exact .inl t
  · exact .inr (.inl t)
  · rcases List.mem_cons.mp t with t | t
    · subst t; rw [n] at e; cases e
    · exact g.xx (.inr (.inr t))

theorem ex_assign {x : Str} {px pos : Pos} {value : Expr} {d : D} (v : Ev B md mo value d mo1) (k : kst sc x = true) (r : Ex B ((x, d) :: md) mo1 rest R)
    (hs : swapsWith value (some (.Name x px)) pos.line B.env = pure false := by rfl) : Ex B md mo (.Assign [.Name x px] value pos :: rest) R := ex_step fun h s Q tk hq =>
  wpAny_Assign_Name ((v h s).to fun u h1 tk1 ⟨g1, r1⟩ => (store g1.s k r1).to fun _ h2 tk2 ⟨k2, s2⟩ => hq _ _ _ _ s2 (g1.kp.trans k2.vx) (xx_go g1) r) hs
theorem ex_new {x : Str} {px pos : Pos} {value : Expr} {m : MO} (v : En B md mo value m mo1) (k : kst sc x = true) (r : ∀ a, ¬ B.ext a → Ex B ((x, .raw (.ref a)) :: md) ((a, m) :: mo1) rest R)
    (hs : swapsWith value (some (.Name x px)) pos.line B.env = pure false := by rfl) : Ex B md mo (.Assign [.Name x px] value pos :: rest) R := ex_step fun h s Q tk hq =>
  wpAny_Assign_Name ((v h s).to fun u h1 tk1 ⟨g1, a, e, n, q⟩ => by
    subst e
    exact (store (d := .raw (.ref a)) (g1.new s n q) k (by rw [rep_raw])).to fun _ h2 tk2 ⟨k2, s2⟩ => hq _ _ _ _ s2 (g1.kp.trans k2.vx) (xx_new g1 n) (r a (s.next n))) hs
theorem Go.newObj {h h' : Heap} {a dx C : Addr} {ks : List Str} {ds : List D} (g : Go B md mo h mo1 h') (s : S B md mo h) (ne : a ≠ dx) (n : h.get? a = none) (n' : h.get? dx = none) (e' : h'.get? a = some (instObj C dx))
    (q : ∀ p ∈ (dx, MO.flds ks ds) :: mo1, MoAt B.P (fun b => XX B mo1 b ∨ b = dx) h' p.1 p.2) : S B md ((dx, .flds ks ds) :: mo1) h' ∧ Rep B.P (XX B ((dx, .flds ks ds) :: mo1)) h' (.ref a) (.obj C dx) := by
  refine ⟨g.new s n' q, ?_⟩
  simp only [Rep]
  refine ⟨a, rfl, fun t => ?_, e'⟩
  rcases t with t | t | t
  · exact s.new n (.inl t)
  · exact s.new n (.inr (.inl t))
  · rcases List.mem_cons.mp t with t | t
    · exact ne t
    · exact s.new n (g.xx (.inr (.inr t)))
theorem ex_obj {x : Str} {px pos : Pos} {value : Expr} {C : Addr} {ks : List Str} {ds : List D} (v : Eo B md mo value C ks ds mo1) (k : kst sc x = true) (r : ∀ dx, ¬ B.ext dx → Ex B ((x, .obj C dx) :: md) ((dx, .flds ks ds) :: mo1) rest R)
    (hs : swapsWith value (some (.Name x px)) pos.line B.env = pure false := by rfl) : Ex B md mo (.Assign [.Name x px] value pos :: rest) R := ex_step fun h s Q tk hq =>
  wpAny_Assign_Name ((v h s).to fun u h1 tk1 ⟨g1, a, dx, e, ne, n, n', e', q⟩ => by
    subst e
    obtain ⟨s1, r1⟩ := g1.newObj s ne n n' e' q
    exact (store s1 k r1).to fun _ h2 tk2 ⟨k2, s2⟩ => hq _ _ _ _ s2 (g1.kp.trans k2.vx) (xx_new g1 n') (r dx (s.next n'))) hs
theorem ex_expr {e : Expr} {pos : Pos} {d : D} (v : Ev B md mo e d mo1) (r : Ex B md mo1 rest R) (hs : swapsWith e none pos.line B.env = pure false := by rfl) : Ex B md mo (.Expr e pos :: rest) R := ex_step fun h s Q tk hq =>
  wpAny_Expr_any ((v h s).to fun u h1 tk1 ⟨g1, r1⟩ => hq _ _ _ _ g1.s g1.kp (xx_go g1) r) (by unfold interactive; rw [B.ek']; rfl) hs
theorem ex_ret {e : Expr} {pos : Pos} {d : D} (v : Ev B md mo e d mo1) (r : ∀ h u, S B md mo1 h → Rep B.P (XX B mo1) h u d → R (.ret u) h) : Ex B md mo (.Return (some e) pos :: rest) R := ex_cons fun h s => .of fun tk Q hq =>
  wpAny_Return_some ((v h s).to fun u h1 tk1 ⟨g1, r1⟩ => hq _ _ _ ⟨g1.kp, r h1 u g1.s r1⟩)
theorem S.ends {h : Heap} {u : Value} {d : D} (s : S B md mo h) (r : Rep B.P (XX B mo) h u d) (hm : ∀ p ∈ mo', p ∈ mo) : Ends B mo' (.d d) (.ret u) h :=
  ⟨s.keep, fun p hp => (s.mos p (hm p hp)).1.ex fun b o _ t => .inl t, r.ex fun b o _ t => .inl t⟩
theorem ex_retd {e : Expr} {pos : Pos} {d : D} (v : Ev B md mo e d mo1) (hm : ∀ p ∈ mo', p ∈ mo1) : Ex B md mo (.Return (some e) pos :: rest) (Ends B mo' (.d d)) := ex_ret v fun h u s r => s.ends r hm
theorem MoAt.rep {P : Pm} {X : Addr → Prop} {h : Heap} {a : Addr} {m : MO} (nx : ¬ X a) (x : MoAt P X h a m) (hm : m.isD = true) : Rep P X h (.ref a) m.d := by
  cases m with
  | lst ds => obtain ⟨vs, l, q⟩ := x; simp only [MO.d, Rep]; exact ⟨a, vs, rfl, nx, l, q⟩
  | dct ks ds => obtain ⟨vs, ep, l, hl, q⟩ := x; simp only [MO.d, Rep]; exact ⟨a, vs, ep, rfl, nx, l, hl, q⟩
  | flds ks ds => cases hm
  | any => cases hm
  | obj o => cases hm
theorem S.dead0 {h : Heap} (s : S B md mo h) {a : Addr} (x : Am mo a) (ne : ¬ B.ext a) : B.h₀.get? a = none := (s.am x).resolve_left ne
theorem nx0 {a : Addr} (n : B.h₀.get? a = none) : ¬ B.X0 a := fun x => by obtain ⟨o, e⟩ := B.base.xa a x; rw [n] at e; cases e
theorem ex_retm {e : Expr} {pos : Pos} {a : Addr} {m : MO} (v : Ev B md mo e (.raw (.ref a)) mo1) (ha : (a, m) ∈ mo1) (ne : ¬ B.ext a) (hm : ∀ p ∈ mo', p ∈ mo1) (hk : m.isD = true) : Ex B md mo (.Return (some e) pos :: rest) (Ends B mo' (.d m.d)) := ex_ret v fun h u s r => by
  rw [rep_raw] at r; subst r
  exact ⟨s.keep, fun p hp => (s.mos p (hm p hp)).1.ex fun b o _ t => .inl t, ((s.mos _ ha).1.ex fun b o _ t => .inl t).rep (nx0 (s.dead0 (List.mem_map_of_mem ha) ne)) hk⟩
theorem ex_retn {e : Expr} {pos : Pos} {a : Addr} {m : MO} (v : Ev B md mo e (.raw (.ref a)) mo1) (ha : (a, m) ∈ mo1) (ne : ¬ B.ext a) (hm : ∀ p ∈ mo', p ∈ mo1) : Ex B md mo (.Return (some e) pos :: rest) (Ends B mo' (.n m)) := ex_ret v fun h u s r => by
  rw [rep_raw] at r; subst r
  have k : ∀ b o, h.get? b = some o → (B.X0 b ∨ b = a) → XX B mo1 b := fun b o _ t => by
    rcases t with t | t
    · exact .inl t
    · subst t; exact .inr (.inr (List.mem_map_of_mem (f := (·.1)) ha))
  refine ⟨s.keep, fun p hp => (s.mos p (hm p hp)).1.ex fun b o _ t => .inl t, a, rfl, s.dead0 (List.mem_map_of_mem ha) ne, fun p hp => ?_⟩
  rcases List.mem_cons.mp hp with rfl | hp
  · exact (s.mos _ ha).1.ex k
  · exact (s.mos p (hm p hp)).1.ex k
theorem ex_none (hm : ∀ p ∈ mo', p ∈ mo) : Ex B md mo [] (Ends B mo' (.d .none)) := ex_nil fun h s =>
  ⟨s.keep, fun p hp => (s.mos p (hm p hp)).1.ex fun b o _ t => .inl t, by rw [show RzAt _ _ _ _ _ _ (.d .none) = Rep _ _ _ _ _ from rfl, rep_none]⟩

theorem S.freeze {h : Heap} {x : Str} {a : Addr} {m : MO} (s : S B ((x, .raw (.ref a)) :: md) ((a, m) :: mo) h) (ne : ¬ B.ext a) (hk : m.isD = true) : S B ((x, m.d) :: md) mo h := by
  have s' := s.drop
  have nx : ¬ XX B mo a := fun t => by
    rcases t with t | t | t
    · exact nx0 (s.dead0 (a := a) (by simp [Am]) ne) t
    · exact s.nv (by simp [Am]) t
    · have := s.nd; rw [List.map_cons, List.nodup_cons] at this; exact this.1 t
  have k : ∀ b o, h.get? b = some o → XX B mo b → XX B ((a, m) :: mo) b := fun b o _ t => by
    rcases t with t | t | t
    · exact .inl t
    · exact .inr (.inl t)
    · exact .inr (.inr (List.mem_cons_of_mem _ t))
  refine ⟨s'.keep, ?_, s'.mos, s'.nd⟩
  obtain ⟨f, V, r⟩ := s'.vars
  refine ⟨f, V, fun y d e => ?_⟩
  rw [List.lookup_cons] at e
  by_cases q : y = x
  · subst q
    simp only [beq_self_eq_true, Option.some.injEq] at e
    subst e
    obtain ⟨v, e1, e2⟩ := r y (.raw (.ref a)) (by simp [List.lookup_cons])
    rw [rep_raw] at e2; subst e2
    exact ⟨_, e1, ((s.mos _ (.head _)).1.ex k).rep nx hk⟩
  · rw [show (y == x) = false from beq_eq_false_iff_ne.mpr q] at e
    exact r y d (by rw [List.lookup_cons, show (y == x) = false from beq_eq_false_iff_ne.mpr q]; exact e)
theorem Ex.freeze {ss : List Stmt} {x : Str} {a : Addr} {m : MO} (ne : ¬ B.ext a) (hk : m.isD = true) (r : Ex B ((x, m.d) :: md) mo ss R) : Ex B ((x, .raw (.ref a)) :: md) ((a, m) :: mo) ss R := fun h s =>
  (r h (s.freeze ne hk)).mono fun fl h' ⟨k, q⟩ => ⟨k.mono fun b t => by
    rcases t with t | t | t
    · exact .inl t
    · exact .inr (.inl t)
    · exact .inr (.inr (List.mem_cons_of_mem _ t)), q⟩

theorem ex_if {test : Expr} {body orelse : List Stmt} {pos : Pos} {c : Bool} (t : Et B md mo test c mo1) (y : c = true → Ex B md mo1 body (Nx B md' mo2)) (n : c = false → Ex B md mo1 orelse (Nx B md' mo2))
    (ha : mo2.map (·.1) = mo1.map (·.1)) (r : Ex B md' mo2 rest R) : Ex B md mo (.If test body orelse pos :: rest) R := ex_step fun h s Q tk hq =>
  wpAny_If ((t h s).to fun b h1 tk1 ⟨e, g1⟩ => by
    subst e
    have fin : ∀ {ss}, Ex B md mo1 ss (Nx B md' mo2) → wpAny (model B.P.prog B.P.w) B.A (execs ss B.env) Q (fun _ _ => False) { B.P.σ with heap := h1, toks := tk1 } := fun {ss} x =>
      (x h1 g1.s).to fun fl h2 tk2 ⟨k2, e2, s2⟩ => by
        subst e2
        refine hq _ _ _ _ s2 (g1.kp.trans (k2.mono fun b t => g1.xx t)) (fun b o _ t => g1.xx ?_) r
        rwa [XX_congr ha] at t
    cases b with
    | true => exact fin (y rfl)
    | false => exact fin (n rfl))
theorem ex_ifr {test : Expr} {body : List Stmt} {pos : Pos} {c : Bool} (t : Et B md mo test c mo1) (y : c = true → Ex B md mo1 body fun fl h => R fl h ∧ fl ≠ .next) (n : c = false → Ex B md mo1 rest R) : Ex B md mo (.If test body [] pos :: rest) R := ex_cons fun h s => .of fun tk Q hq =>
  wpAny_If ((t h s).to fun b h1 tk1 ⟨e, g1⟩ => by
    subst e
    cases b with
    | true => exact (y rfl h1 g1.s).to fun fl h2 tk2 ⟨k2, r2, nn⟩ => hq _ _ _ ⟨g1.kp.trans (k2.mono fun b t => g1.xx t), by cases fl <;> first | exact absurd rfl nn | exact r2⟩
    | false => exact wpAny_execs_nil (hq _ _ _ ⟨g1.kp, (n rfl).after g1.s g1.kp (xx_go g1)⟩))
theorem ex_iff {test : Expr} {body : List Stmt} {pos : Pos} {c : Bool} (t : Et B md mo test c mo1) (hc : c = false) (r : Ex B md mo1 rest R) : Ex B md mo (.If test body [] pos :: rest) R :=
  ex_ifr t (fun h => by rw [hc] at h; cases h) fun _ => r

end
end Mine

end
section
open PySem PySem.W PySem.Calls PyProof.Rows Builtin Builtin.ObjectAttr
namespace Mine

noncomputable def putK : List Str → Str → List Str
  | [], n => [n]
  | k :: ks, n => if k = n then k :: ks else k :: putK ks n
noncomputable def put {α : Type} : List Str → List α → Str → α → List α
  | k :: ks, d :: ds, n, x => if k = n then x :: ds else d :: put ks ds n x
  | _, _, _, x => [x]
theorem put_len {α : Type} : ∀ {ks : List Str} {vs : List α} {n : Str} {x : α}, ks.length = vs.length → (putK ks n).length = (put ks vs n x).length
  | [], [], _, _, _ => rfl
  | k :: ks, v :: vs, n, x, h => by
    unfold putK put
    split
    · simpa using h
    · simp only [List.length_cons, put_len (n := n) (x := x) (show ks.length = vs.length by simpa using h)]
  | [], _ :: _, _, _, h => by simp at h
  | _ :: _, [], _, _, h => by simp at h
theorem put_reps {P : Pm} {X : Addr → Prop} {h : Heap} : ∀ {ks : List Str} {vs : List Value} {ds : List D} {n : Str} {v : Value} {d : D}, ks.length = vs.length → Reps P X h vs ds → Rep P X h v d → Reps P X h (put ks vs n v) (put ks ds n d)
  | [], [], [], _, _, _, _, _, r => Reps.one r
  | k :: ks, v :: vs, d :: ds, n, u, e, hl, q, r => by
    rw [reps_cons] at q
    unfold put
    split
    · rw [reps_cons]; exact ⟨r, q.2⟩
    · rw [reps_cons]; exact ⟨q.1, put_reps (by simpa using hl) q.2 r⟩
  | [], _ :: _, _, _, _, _, h, _, _ => by simp at h
  | _ :: _, [], _, _, _, _, h, _, _ => by simp at h
  | _, [], _ :: _, _, _, _, _, q, _ => by simp only [Reps] at q
  | _, _ :: _, [], _, _, _, _, q, _ => by simp only [Reps] at q
theorem put_ents {n : Str} {hsh : Int} {t : Tok} {v : Value} : ∀ {es : List DictEntry} {ks : List Str} {vs : List Value}, Ents es ks vs → Ents (putL n hsh (.str n t) v es) (putK ks n) (put ks vs n v)
  | [], [], [], _ => ⟨⟨t, rfl⟩, rfl, trivial⟩
  | e :: es, k :: ks, u :: vs, h => by
    obtain ⟨⟨t', h1⟩, h2, h3⟩ := h
    have e1 : e.key.isStr n = (k == n) := by rw [h1]; rfl
    unfold putL putK put
    rw [e1]
    by_cases q : k = n
    · rw [if_pos q, if_pos q, if_pos (by simpa using q)]
      exact ⟨⟨t', h1⟩, rfl, h3⟩
    · rw [if_neg q, if_neg q, if_neg (by simpa using q)]
      exact ⟨⟨t', h1⟩, h2, put_ents h3⟩
  | [], _ :: _, _, h => by simp [Ents] at h
  | [], [], _ :: _, h => by simp [Ents] at h
  | _ :: _, [], _, h => by simp [Ents] at h
  | _ :: _, _ :: _, [], h => by simp [Ents] at h
theorem ents_len : ∀ {es : List DictEntry} {ks : List Str} {vs : List Value}, Ents es ks vs → es.length = ks.length ∧ ks.length = vs.length
  | [], [], [], _ => ⟨rfl, rfl⟩
  | e :: es, k :: ks, u :: vs, h => by
    obtain ⟨_, _, h3⟩ := h
    obtain ⟨a, b⟩ := ents_len h3
    exact ⟨by simp [a], by simp [b]⟩
  | [], _ :: _, _, h => by simp [Ents] at h
  | [], [], _ :: _, h => by simp [Ents] at h
  | _ :: _, [], _, h => by simp [Ents] at h
  | _ :: _, _ :: _, [], h => by simp [Ents] at h
theorem putL_len (n : Str) (hsh : Int) (key v : Value) : ∀ es : List DictEntry, (putL n hsh key v es).length ≤ es.length + 1
  | [] => by simp [putL]
  | e :: r => by unfold putL; split <;> simp [putL_len n hsh key v r]
theorem stored_zip {n : Str} {v : Value} : ∀ {ks : List Str} {vs : List Value}, ks.length = vs.length → ((ks.zip vs).map (·.1)).Nodup → stored (ks.zip vs) n v = (putK ks n).zip (put ks vs n v)
  | [], [], _, _ => by simp [stored, putK, put]
  | k :: ks, u :: vs, hl, nd => by
    have hl' : ks.length = vs.length := by simpa using hl
    rw [List.zip_cons_cons, List.map_cons, List.nodup_cons] at nd
    have ih := stored_zip (n := n) (v := v) hl' nd.2
    unfold putK put
    unfold stored at ih ⊢
    rw [List.zip_cons_cons, List.any_cons]
    by_cases q : k = n
    · rw [if_pos q, if_pos q, if_pos (by simp [q]), List.map_cons, if_pos q, List.zip_cons_cons]
      congr 1
      have : ∀ kv ∈ ks.zip vs, (if kv.1 = n then (kv.1, v) else kv) = kv := fun kv hkv => by
        rw [if_neg]
        intro q2
        exact nd.1 (List.mem_map.mpr ⟨kv, hkv, q2.trans q.symm⟩)
      rw [List.map_congr_left this]; simp
    · rw [if_neg q, if_neg q, List.zip_cons_cons, show (decide ((k, u).1 = n)) = false by simpa using q, Bool.false_or]
      by_cases z : (ks.zip vs).any (fun kv => decide (kv.1 = n)) = true
      · rw [if_pos z] at ih ⊢
        rw [List.map_cons, if_neg q, ih]
      · rw [if_neg z] at ih ⊢
        rw [← ih, List.cons_append]
  | [], _ :: _, h, _ => by simp at h
  | _ :: _, [], h, _ => by simp at h

section
variable {sc : Sc} {B : Bd sc} {md md' : Md} {mo mo1 mo2 mo3 mo' : MoL} {R : Flow → Heap → Prop} {rest : List Stmt}

theorem ex_setattr {o value : Expr} {name : Str} {pos' pos : Pos} {d : D} {C dx : Addr} {ks : List Str} {ds : List D} (v : Ev B md mo value d mo1) (ho : Ev B md mo1 o (.obj C dx) mo2) (u : Upd1 mo2 [(dx, .flds ks ds)] [(dx, .flds (putK ks name) (put ks ds name d))] mo3)
    (hs : findIn B.P.K (.ref C) "__setattr__" = some (some (.builtin "object.__setattr__"))) (hp : plainOver B.P.K C = true) (ht : takerIn B.P.K C name = some none) (hh : hasDictIn B.P.K C = true) (hz : ks.length ≤ 900)
    (r : Ex B md mo3 rest R) (hw : swapsWith value (some (.Attribute o name pos')) pos.line B.env = pure false := by rfl) : Ex B md mo (.Assign [.Attribute o name pos'] value pos :: rest) R := ex_step fun h s Q tk hq =>
  plainObj_wpAny_Assign_Attribute ((v h s).to fun w h1 tk1 ⟨g1, r1⟩ => (ho h1 g1.s).to fun ov h2 tk2 ⟨g2, r2⟩ => by
    simp only [Rep] at r2
    obtain ⟨a, rfl, nx, q1⟩ := r2
    obtain ⟨es, n, vs, q2, q3, q4⟩ := (g2.s.mos _ (u.mem _ (.head _))).1
    have I := inst_at q1 q2
    have X := g2.s.K
    obtain ⟨le, lk⟩ := ents_len q3
    refine set_plain X I hs ?_
    refine osa_open (s := { B.P.σ with heap := h2, toks := tk2 + 1 }) X I hp ht fun b => ?_
    obtain ⟨cd, hc, hd'⟩ := any_some hh
    refine wpAny_bind (wpAny_pure (wpAny_bind (wpAny_bind (wpAny_loadPart q1 (wpAny_bind ((looks_clsIn X hc).here ?_))))))
    rw [hd']
    refine wpAny_pure (a := some dx) (wpAny_bind (wpAny_pure (wpAny_bind ?_)))
    unfold nsSet
    refine wpAny_bind (wpAny_bind (wpAny_askSetting (wpAny_pure (wpAny_bind (wpAny_mkText (wpAny_bind (wpAny_loadPart q2 ?_)))))))
    dsimp only
    have nr : (!es.toArray.any (·.key.isStr name) && es.toArray.any (·.refKey)) = false := by
      rw [Bool.and_eq_false_iff]; right
      rw [List.any_toArray, List.any_eq_false]
      have : ∀ {es : List DictEntry} {ks : List Str} {vs : List Value}, Ents es ks vs → ∀ e ∈ es, ¬ e.refKey = true := by
        intro es
        induction es with
        | nil => intro _ _ _ e h; cases h
        | cons e es ih =>
          intro ks vs h
          cases ks with
          | nil => simp [Ents] at h
          | cons k ks =>
            cases vs with
            | nil => simp [Ents] at h
            | cons v vs =>
              obtain ⟨⟨t, h1⟩, _, h3⟩ := h
              intro x hx
              rcases List.mem_cons.mp hx with rfl | hx
              · unfold DictEntry.refKey; rw [h1]; exact Bool.false_ne_true
              · exact ih h3 x hx
      exact this q3
    rw [aRefKeyMayBeTheName_at, nr]
    refine wpAny_updatePart q2 ?_
    have e0 : Obj.putName name (PyData.keyHash B.P.w.params name) (.str name (tk2 + 1)) w (dictOf es n) = dictOf (putL name (PyData.keyHash B.P.w.params name) (.str name (tk2 + 1)) w es) (putN name es n) := putName_dict ..
    have D' : (h2.update dx (Obj.putName name (PyData.keyHash B.P.w.params name) (.str name (tk2 + 1)) w)).get? dx = some (dictOf (putL name (PyData.keyHash B.P.w.params name) (.str name (tk2 + 1)) w es) (putN name es n)) :=
      e0 ▸ Heap.get?_update_self _ q2 (by rw [e0]; rfl)
    refine wpAny_bind (wpAny_lookBehind D' (pastItsLine_dict (by have := putL_len name (PyData.keyHash B.P.w.params name) (.str name (tk2 + 1)) w es; rw [List.size_toArray, sizeLine_eq]; omega)) ?_)
    have kk : Kp (Am [(dx, .flds ks ds)]) h2 (h2.update dx (Obj.putName name (PyData.keyHash B.P.w.params name) (.str name (tk2 + 1)) w)) := fun b o e => by
      refine ⟨fun nt => (Heap.get?_update_ne _ _ _ _ fun q => nt (by simp [Am, q])).trans e, ?_⟩
      by_cases q : b = dx
      · subst q; exact ⟨_, D'⟩
      · exact ⟨o, (Heap.get?_update_ne _ _ _ _ q).trans e⟩
    have sub : ∀ b, Am [(dx, MO.flds ks ds)] b → XX B mo2 b := fun b t => .inr (.inr (u.am t))
    have g3 := g2.s.part u kk fun p hp => by
      rw [List.mem_singleton] at hp; subst hp
      exact ⟨_, _, _, D', put_ents q3, put_reps lk (q4.kp kk sub) ((g2.rep r1).kp kk sub)⟩
    exact wpAny_pure (hq _ _ _ _ g3.s ((g1.trans g2).trans g3).kp (xx_go ((g1.trans g2).trans g3)) r)) hw

theorem ex_setkey {o i value : Expr} {key : Str} {pos' pos : Pos} {d : D} {a : Addr} {ks : List Str} {ds : List D} (v : Ev B md mo value d mo1) (ho : Ev B md mo1 o (.raw (.ref a)) mo1) (hi : Ev B md mo1 i (.str key) mo2) (u : Upd1 mo2 [(a, .dct ks ds)] [(a, .dct (putK ks key) (put ks ds key d))] mo3) (hz : ks.length ≤ 900)
    (r : Ex B md mo3 rest R) (hw : swapsWith value (some (.Subscript o i pos')) pos.line B.env = pure false := by rfl) : Ex B md mo (.Assign [.Subscript o i pos'] value pos :: rest) R := ex_step fun h s Q tk hq => by
  refine wpAny_Assign_Subscript ((v h s).to fun w h1 tk1 ⟨g1, r1⟩ => (ho h1 g1.s).to fun ov h2 tk2 ⟨g2, r2⟩ => (hi h2 g2.s).to fun iv h3 tk3 ⟨g3, r3⟩ => ?_) hw
  rw [rep_raw] at r2; subst r2
  rw [rep_str] at r3; obtain ⟨t, rfl⟩ := r3
  obtain ⟨vs, ep, ⟨q0, q1⟩, q2, q3⟩ := (g3.s.mos _ (u.mem _ (.head _))).1
  have q1' := q1
  refine wpAny_setItem_pairs (knd := strKind B.P.prog B.P.w) (k := key) (by show Value.isStrOf key (.str key t) = true; simp [Value.isStrOf]) q1.dictOf (fun h' hd sb => ?_) (by rw [List.length_zip, sizeLine_eq]; omega)
  obtain ⟨ep', hd'⟩ := hd.dictAt
  rw [stored_zip q2 q1'.nodup] at hd'
  have kk : Kp (Am [(a, MO.dct ks ds)]) h3 h' := fun b o e => by
    refine ⟨fun nt => sb.extBut b o (fun q => nt (by simp [Am, q])) e, ?_⟩
    by_cases q : b = a
    · subst q; obtain ⟨o', _, e', _⟩ := hd'; exact ⟨o', e'⟩
    · exact ⟨o, sb.extBut b o q e⟩
  have sub : ∀ b, Am [(a, MO.dct ks ds)] b → XX B mo2 b := fun b t => .inr (.inr (u.am t))
  have g4 := g3.s.part u kk fun p hp => by
    rw [List.mem_singleton] at hp; subst hp
    exact ⟨_, ep', ⟨q0, hd'⟩, put_len q2, put_reps q2 (q3.kp kk sub) ((g3.rep (g2.rep r1)).kp kk sub)⟩
  exact hq _ _ _ _ g4.s (((g1.trans g2).trans g3).trans g4).kp (xx_go (((g1.trans g2).trans g3).trans g4)) r
end
end Mine

end
section
open PySem PySem.W PySem.Calls PyProof.Rows Builtin Builtin.ObjectAttr
namespace Mine

theorem Reps.set {P : Pm} {X : Addr → Prop} {h : Heap} : ∀ {vs : List Value} {ds : List D} {v : Value} {d : D}, Reps P X h vs ds → Rep P X h v d → ∀ i : Nat, Reps P X h (vs.set i v) (ds.set i d)
  | [], [], _, _, q, _, _ => q
  | _ :: _, _ :: _, _, _, q, r, 0 => by rw [reps_cons] at q; rw [List.set_cons_zero, List.set_cons_zero, reps_cons]; exact ⟨r, q.2⟩
  | _ :: _, _ :: _, _, _, q, r, i + 1 => by rw [reps_cons] at q; rw [List.set_cons_succ, List.set_cons_succ, reps_cons]; exact ⟨q.1, Reps.set q.2 r i⟩
  | [], _ :: _, _, _, q, _, _ => by simp only [Reps] at q
  | _ :: _, [], _, _, q, _, _ => by simp only [Reps] at q

section
variable {sc : Sc} {B : Bd sc} {md md' : Md} {mo mo1 mo2 mo3 mo4 mo' : MoL} {R : Flow → Heap → Prop} {rest : List Stmt}

theorem set_idx {h : Heap} {a : Addr} {ds : List D} {k : Int} {t : Tok} {v : Value} {d : D} (s : S B md mo h) (u : Upd1 mo [(a, .lst ds)] [(a, .lst (ds.set k.toNat d))] mo1) (h0 : 0 ≤ k) (h1 : k < ds.length) (hz : ds.length ≤ 1000000) (r : Rep B.P (XX B mo) h v d) :
    Run B.P B.A (setItem (.ref a) (.int k t) v) h fun _ h' => Go B md mo h mo1 h' := .of fun tk Q hq => by
  obtain ⟨vs, ⟨n, q1⟩, q2⟩ := (s.mos _ (u.mem _ (.head _))).1
  have hl := q2.length
  refine ki_setAt (n := n) (items := vs.toArray) q1 h0 (by omega) (by simp; omega) (hq _ _ _ ?_)
  have e1 : Obj.mapSeq (·.setIfInBounds k.toNat v) (listOf vs.toArray n) = listOf (vs.set k.toNat v).toArray n := by
    simp [Obj.mapSeq]
  have D' : (h.update a (Obj.mapSeq (·.setIfInBounds k.toNat v))).get? a = some (listOf (vs.set k.toNat v).toArray n) := e1 ▸ Heap.get?_update_self _ q1 (by rw [e1]; rfl)
  have kk : Kp (Am [(a, MO.lst ds)]) h (h.update a (Obj.mapSeq (·.setIfInBounds k.toNat v))) := fun b o e => by
    refine ⟨fun nt => (Heap.get?_update_ne _ _ _ _ fun q => nt (by simp [Am, q])).trans e, ?_⟩
    by_cases q : b = a
    · subst q; exact ⟨_, D'⟩
    · exact ⟨o, (Heap.get?_update_ne _ _ _ _ q).trans e⟩
  have sub : ∀ b, Am [(a, MO.lst ds)] b → XX B mo b := fun b t => .inr (.inr (u.am t))
  exact s.part u kk fun p hp => by
    rw [List.mem_singleton] at hp; subst hp
    exact ⟨_, ⟨n, D'⟩, (q2.kp kk sub).set (r.kp kk sub) _⟩
theorem ex_setidx {o i value : Expr} {k : Int} {pos' pos : Pos} {d : D} {a : Addr} {ds : List D} (v : Ev B md mo value d mo1) (ho : Ev B md mo1 o (.raw (.ref a)) mo1) (hi : Ev B md mo1 i (.int k) mo2) (u : Upd1 mo2 [(a, .lst ds)] [(a, .lst (ds.set k.toNat d))] mo3) (h0 : 0 ≤ k) (h1 : k < ds.length) (hz : ds.length ≤ 1000000)
    (r : Ex B md mo3 rest R) (hw : swapsWith value (some (.Subscript o i pos')) pos.line B.env = pure false := by rfl) : Ex B md mo (.Assign [.Subscript o i pos'] value pos :: rest) R := ex_step fun h s Q tk hq =>
  wpAny_Assign_Subscript ((v h s).to fun w h1' tk1 ⟨g1, r1⟩ => (ho h1' g1.s).to fun ov h2 tk2 ⟨g2, r2⟩ => (hi h2 g2.s).to fun iv h3 tk3 ⟨g3, r3⟩ => by
    rw [rep_raw] at r2; subst r2
    rw [rep_int] at r3; obtain ⟨t, rfl⟩ := r3
    exact (set_idx g3.s u h0 h1 hz (g3.rep (g2.rep r1))).to fun _ h4 tk4 g4 => hq _ _ _ _ g4.s (((g1.trans g2).trans g3).trans g4).kp (xx_go (((g1.trans g2).trans g3).trans g4)) r) hw
theorem ex_augidx {o i value : Expr} {k x y : Int} {pos' pos : Pos} {a : Addr} {ds : List D} (ho : Ev B md mo o (.raw (.ref a)) mo) (hi : Ev B md mo i (.int k) mo1) (v : Ev B md mo1 value (.int y) mo2) (hm : (a, .lst ds) ∈ mo1) (hx : ds[k.toNat]? = some (.int x))
    (u : Upd1 mo2 [(a, .lst ds)] [(a, .lst (ds.set k.toNat (.int (x + y))))] mo3) (h0 : 0 ≤ k) (hz : ds.length ≤ 1000000)
    (r : Ex B md mo3 rest R) (hw : ∀ ov iv new, augStore i ov iv new = (do holding [new, ov, iv] (setItem ov iv new); release [new, ov, iv] []; pure .next) := by intros; rfl) : Ex B md mo (.AugAssign (.Subscript o i pos') .Add value pos :: rest) R := ex_step fun h s Q tk hq =>
  wpAny_AugAssign_SubscriptAny ((ho h s).to fun ov h1 tk1 ⟨g1, r1⟩ => (hi h1 g1.s).to fun iv h2 tk2 ⟨g2, r2⟩ => by
    rw [rep_raw] at r1; subst r1
    rw [rep_int] at r2; obtain ⟨t, rfl⟩ := r2
    obtain ⟨vs, ⟨n, q1⟩, q2⟩ := (g2.s.mos _ hm).1
    obtain ⟨w, e, rw'⟩ := q2.at' hx
    rw [rep_int] at rw'; obtain ⟨tw, rfl⟩ := rw'
    have hlt : k.toNat < ds.length := (List.getElem?_eq_some_iff.mp hx).1
    refine wpAny_getItem_list (Heap.PlainList.isList ⟨n, q1⟩) h0 (by omega) (by simpa using e) ?_
    refine (v h2 g2.s).to fun vv h3 tk3 ⟨g3, r3⟩ => ?_
    rw [rep_int] at r3; obtain ⟨tv, rfl⟩ := r3
    refine wpAny_iadd_int ?_
    exact (set_idx (d := .int (x + y)) g3.s u h0 (by omega) hz (by rw [rep_int]; exact ⟨_, rfl⟩)).to fun _ h4 tk4 g4 => hq _ _ _ _ g4.s (((g1.trans g2).trans g3).trans g4).kp (xx_go (((g1.trans g2).trans g3).trans g4)) r) hw

noncomputable def Unp (B : Bd sc) (md : Md) (mo : MoL) (d : D) (ds : List D) : Prop := ∀ h v, S B md mo h → Rep B.P (XX B mo) h v d → ∃ vs, Reps B.P (XX B mo) h vs ds ∧ Run B.P B.A (unpackItems v ds.length none) h fun us h' => us = vs ∧ Ke h h'
theorem ke_ext {h h' : Heap} (x : Heap.ExtBut h.objs.size h h') : Ke h h' := fun b o e => x b o (Nat.ne_of_lt (Heap.lt_size e)) e
theorem unp_tup {ds : List D} : Unp B md mo (.tup ds) ds := fun h v s r => by
  rw [rep_tup] at r
  obtain ⟨a, vs, rfl, _, q1, q2⟩ := r
  refine ⟨vs, q2, .of fun tk Q hq => ?_⟩
  rw [show ds.length = vs.toArray.size by rw [List.size_toArray]; exact q2.length.symm]
  exact wpAny_unpackItems_tuple B.ok.1 q1 fun h' x => hq _ _ _ ⟨by simp, ke_ext x⟩
theorem unp_mo {a : Addr} {ds : List D} (hm : (a, .lst ds) ∈ mo) : Unp B md mo (.raw (.ref a)) ds := fun h v s r => by
  rw [rep_raw] at r; subst r
  obtain ⟨vs, q1, q2⟩ := (s.mos _ hm).1
  refine ⟨vs, q2, .of fun tk Q hq => ?_⟩
  rw [show ds.length = vs.toArray.size by rw [List.size_toArray]; exact q2.length.symm]
  exact kun_itemsOf B.ok.1 q1.isList fun h' x => hq _ _ _ ⟨by simp, ke_ext x⟩
theorem ex_unpack2 {x y : Str} {px py tp pos : Pos} {k : Nat} {value : Expr} {d d1 d2 : D} (v : Ev B md mo value d mo1) (up : Unp B md mo1 d [d1, d2]) (kx : kst sc x = true) (ky : kst sc y = true) (r : Ex B ((y, d2) :: (x, d1) :: md) mo1 rest R)
    (hs : swapsWithSole [.Tuple [.Name x px, .Name y py] k tp] value pos.line B.env = pure false := by rfl) (hw : ∀ l g c q f cd fr b, swappedStores [.Tuple [.Name x px, .Name y py] k tp] value ⟨sc.sc, l, g, c, q, f, cd, fr, b⟩ = pure none) :
    Ex B md mo (.Assign [.Tuple [.Name x px, .Name y py] k tp] value pos :: rest) R := ex_step fun h s Q tk hq =>
  Assign_Tuple ((v h s).to fun u h1 tk1 ⟨g1, r1⟩ => by
    obtain ⟨vs, rs, run⟩ := up h1 u g1.s r1
    rw [PyProof.Rows.assign_Tuple]
    refine wpAny_bind (wpAny_standAt ?_)
    show wpAny _ _ (unpack u [(false, assign (.Name x px) B.env), (false, assign (.Name y py) B.env)]) _ _ _
    unfold unpack
    refine wpAny_bind (wpAny_holding ?_)
    show wpAny _ _ (unpackItems u 2 none) _ _ _
    refine run.to fun us h2 tk2 ⟨e, k2⟩ => ?_
    subst e
    have g2 := g1.ke k2
    have rs2 := rs.ke k2
    rcases us with _ | ⟨u1, _ | ⟨u2, _ | ⟨_, _⟩⟩⟩ <;> simp only [Reps, and_true, and_false] at rs2
    show wpAny _ _ (assignInOrder [assign (.Name x px) B.env, assign (.Name y py) B.env] [u1, u2]) _ _ _
    refine assignInOrder_cons (wpAny_assign_Name ((store g2.s kx rs2.1).to fun _ h3 tk3 ⟨k3, s3⟩ => assignInOrder_cons (wpAny_assign_Name ((store s3 ky (rs2.2.kp k3 fun b t => .inr (.inl t.1))).to fun _ h4 tk4 ⟨k4, s4⟩ => assignInOrder_nil ?_))))
    exact hq _ _ _ _ s4 ((g2.kp.trans k3.vx).trans k4.vx) (xx_go g2) r) hs (by
      have := hw B.env.locals B.env.globals B.env.cells B.env.qual B.env.func B.env.code B.env.frame B.env.builtins
      rw [← B.es] at this; exact this)
theorem ex_unpack3 {x y z : Str} {px py pz tp vp pos : Pos} {k k' : Nat} {e1 e2 e3 : Expr} {d1 : D} {m2 m3 : MO} (v1 : Ev B md mo e1 d1 mo1) (v2 : En B md mo1 e2 m2 mo2) (v3 : ∀ a, En B md ((a, m2) :: mo2) e3 m3 ((a, m2) :: mo3))
    (kx : kst sc x = true) (ky : kst sc y = true) (kz : kst sc z = true) (r : ∀ a b, ¬ B.ext a → ¬ B.ext b → Ex B ((x, d1) :: (y, .raw (.ref a)) :: (z, .raw (.ref b)) :: md) ((b, m3) :: (a, m2) :: mo3) rest R)
    (hs : swapsWithSole [.Tuple [.Name x px, .Name y py, .Name z pz] k tp] (.Tuple [e1, e2, e3] k' vp) pos.line B.env = pure false := by rfl)
    (hw : ∀ l g c q f cd fr b, swappedStores [.Tuple [.Name x px, .Name y py, .Name z pz] k tp] (.Tuple [e1, e2, e3] k' vp) ⟨sc.sc, l, g, c, q, f, cd, fr, b⟩ = pure (some [x, y, z]))
    (h1e : starEach [e1, e2, e3] B.env = (false, eval e1 B.env) :: starEach [e2, e3] B.env := by rfl) (h2e : starEach [e2, e3] B.env = (false, eval e2 B.env) :: starEach [e3] B.env := by rfl) (h3e : starEach [e3] B.env = (false, eval e3 B.env) :: starEach [] B.env := by rfl) :
    Ex B md mo (.Assign [.Tuple [.Name x px, .Name y py, .Name z pz] k tp] (.Tuple [e1, e2, e3] k' vp) pos :: rest) R := ex_step fun h s Q tk hq =>
  Assign_Tuple_swapped (names := [x, y, z]) (wpAny_Tuple (wpAny_items_cons ((v1 h s).to fun u1 h1 tk1 ⟨g1, r1⟩ => wpAny_items_cons ((v2 h1 g1.s).to fun u2 h2 tk2 ⟨g2, a, e, n, q⟩ => by
    subst e
    have s2 := g2.new g1.s n q
    refine wpAny_items_cons ((v3 a h2 s2).to fun u3 h3 tk3 ⟨g3, b, e, n', q'⟩ => wpAny_items_nil ⟨by rw [sizeLine_eq]; show 3 ≤ _; omega, ?_⟩) h3e
    subst e
    have s3 := g3.new s2 n' q'
    have na : h1.get? a = none := n
    have kpush := Ke.push h3 { cls := .type "tuple", data := .seq [u1, .ref a, .ref b].toArray }
    have s4 := s3.ke' kpush
    have r1' : Rep B.P (XX B ((b, m3) :: (a, m2) :: mo3)) h3 u1 d1 := by
      have e1 : Rep B.P (XX B ((a, m2) :: mo2)) h2 u1 d1 := (r1.ex fun c o e t => xx_new g2 n c o e t).kp g2.k fun c t => by
        rcases g2.s.base.xa c (.inr (.inr (by unfold Am at t ⊢; rwa [g2.e]))) with ⟨o, _⟩
        exact .inr (.inr (List.mem_cons_of_mem _ (by unfold Am at t; rwa [g2.e])))
      exact (e1.ex fun c o e t => xx_new g3 n' c o e t).kp g3.k fun c t => .inr (.inr (List.mem_cons_of_mem _ (by unfold Am at t; rwa [g3.e])))
    refine (show Run B.P B.A (unpackItems (.ref h3.objs.size) 3 none) (h3.push { cls := .type "tuple", data := .seq [u1, .ref a, .ref b].toArray }) (fun us h' => us = [u1, .ref a, .ref b] ∧ Ke (h3.push { cls := .type "tuple", data := .seq [u1, .ref a, .ref b].toArray }) h') from .of fun tk Q hq =>
      wpAny_unpackItems_tuple (items := [u1, .ref a, .ref b].toArray) B.ok.1 ⟨_, Heap.get?_push_size _ rfl, rfl, _, rfl⟩ fun h' x => hq _ _ _ ⟨rfl, ke_ext x⟩).to fun us h5 tk5 ⟨e, k5⟩ => ?_
    subst e
    have s5 := s4.ke' k5
    have k35 : Ke h3 h5 := kpush.trans k5
    show wpAny _ _ (assignInOrder [bindName B.env z, bindName B.env y, bindName B.env x] [.ref b, .ref a, u1]) _ _ _
    refine assignInOrder_cons (bindName_ ((store (d := .raw (.ref b)) s5 kz (by rw [rep_raw])).to fun _ h6 tk6 ⟨k6, s6⟩ => assignInOrder_cons (bindName_ ((store (d := .raw (.ref a)) s6 ky (by rw [rep_raw])).to fun _ h7 tk7 ⟨k7, s7⟩ =>
      assignInOrder_cons (bindName_ ((store (d := d1) s7 kx (((r1'.ke k35).kp k6 fun b t => .inr (.inl t.1)).kp k7 fun b t => .inr (.inl t.1))).to fun _ h8 tk8 ⟨k8, s8⟩ => assignInOrder_nil ?_))))))
    have x12 : ∀ c o, h.get? c = some o → XX B ((b, m3) :: (a, m2) :: mo3) c → XX B mo c := fun c o e t => by
      obtain ⟨o1, e1⟩ := (g1.k c o e).2
      obtain ⟨o2, e2⟩ := (g2.k c o1 e1).2
      have t1 := xx_new g3 n' c o2 e2 t
      have t2 : XX B mo1 c := xx_new g2 n c o1 e1 t1
      exact g1.xx t2
    have kk2 : Kp (XX B mo) h h2 := g1.kp.trans (g2.kp.mono fun c t => g1.xx t)
    have kk3 : Kp (XX B mo) h h3 := fun c o e => by
      obtain ⟨p1, o2, e2⟩ := kk2 c o e
      refine ⟨fun nt => (g3.kp c o (p1 nt)).1 fun t => nt ?_, (g3.kp c o2 e2).2⟩
      obtain ⟨o1, e1⟩ := (g1.k c o e).2
      exact g1.xx (xx_new g2 n c o1 e1 t)
    exact hq _ _ _ _ s8 (((kk3.trans k35.kp).trans k6.vx).trans k7.vx |>.trans k8.vx) x12 (r a b (g1.s.next n) (s2.next n'))) h2e) h1e)) hs (by
      have := hw B.env.locals B.env.globals B.env.cells B.env.qual B.env.func B.env.code B.env.frame B.env.builtins
      rw [← B.es] at this; exact this)
end
end Mine

end
section
open PySem PySem.W PySem.Calls PyProof.Rows
namespace Mine

structure Its (P : Pm) (A : Around) (X : Addr → Prop) (h h' : Heap) (ds : List D) (I : Addr) (fp : List Addr) (Pi : Nat → Value → Prop) (St : Nat → Heap → Prop) : Prop where
  ke : Ke h h'
  new : h.get? I = none
  W : Walks P.prog P.w A I fp [I] ds.length Pi St
  st : St 0 h'
  live : ∀ i h, St i h → ∃ o, h.get? I = some o
  fp : ∀ b ∈ fp, ¬ X b ∧ ∃ o, h'.get? b = some o
  item : ∀ i u, i < ds.length → Pi i u → ∃ d, ds[i]? = some d ∧ Rep P X h u d
noncomputable def Src (P : Pm) (d : D) (ds : List D) : Prop := ∀ A X h v, OkA 0 A → Al X h → Rep P X h v d → Run P A (pyIter v) h fun it h' => ∃ I fp Pi St, it = .ref I ∧ Its P A X h h' ds I fp Pi St

theorem src_list {P : Pm} {ds : List D} : Src P (.list ds) ds := fun A X h v ok al r => by
  rw [rep_list] at r
  obtain ⟨a, vs, rfl, nx, q1, q2⟩ := r
  have ha : ∃ o, h.get? a = some o := let ⟨n, e⟩ := q1; ⟨_, e⟩
  have hne : a ≠ h.objs.size := by obtain ⟨o, e⟩ := ha; exact Nat.ne_of_lt (Heap.lt_size e)
  have ke := Ke.push h { cls := .type "list_iterator", data := .fields #[.ref a, .int 0 0] }
  have W := Walks.list (prog := P.prog) (w := P.w) ok.1 h.objs.size a hne vs.toArray
  have hl : vs.toArray.size = ds.length := by rw [List.size_toArray]; exact q2.length
  refine .of fun tk Q hq => wpAny_pyIter_list q1.isList (hq _ _ _ ⟨h.objs.size, [h.objs.size, a], _, _, rfl, ke, size_none h, hl ▸ W, ⟨⟨_, Heap.get?_push_size _ rfl, rfl, rfl⟩, (q1.at fun o e => ke _ _ e).isList⟩, (fun i h st => let ⟨o, e, _⟩ := st.1; ⟨o, e⟩), fun b hb => ?_, fun i u _ e => ?_⟩)
  · rcases List.mem_cons.mp hb with rfl | hb
    · exact ⟨al.new (size_none h), _, Heap.get?_push_size _ rfl⟩
    · rw [List.mem_singleton] at hb; subst hb
      obtain ⟨o, e⟩ := ha; exact ⟨nx, o, ke _ _ e⟩
  · exact q2.at (by simpa using e)
theorem src_tup {P : Pm} {ds : List D} : Src P (.tup ds) ds := fun A X h v ok al r => by
  rw [rep_tup] at r
  obtain ⟨a, vs, rfl, nx, q1, q2⟩ := r
  have ha : ∃ o, h.get? a = some o := let ⟨o, e, _⟩ := q1; ⟨_, e⟩
  have hne : a ≠ h.objs.size := by obtain ⟨o, e⟩ := ha; exact Nat.ne_of_lt (Heap.lt_size e)
  have ke := Ke.push h { cls := .type "tuple_iterator", data := .fields #[.ref a, .int 0 0] }
  have W := Walks.tuple (prog := P.prog) (w := P.w) ok.1 h.objs.size a hne vs.toArray
  have hl : vs.toArray.size = ds.length := by rw [List.size_toArray]; exact q2.length
  refine .of fun tk Q hq => wpAny_pyIter_tuple q1 (hq _ _ _ ⟨h.objs.size, [h.objs.size, a], _, _, rfl, ke, size_none h, hl ▸ W, ⟨⟨_, Heap.get?_push_size _ rfl, rfl, rfl⟩, q1.push _⟩, (fun i h st => let ⟨o, e, _⟩ := st.1; ⟨o, e⟩), fun b hb => ?_, fun i u _ e => ?_⟩)
  · rcases List.mem_cons.mp hb with rfl | hb
    · exact ⟨al.new (size_none h), _, Heap.get?_push_size _ rfl⟩
    · rw [List.mem_singleton] at hb; subst hb
      obtain ⟨o, e⟩ := ha; exact ⟨nx, o, ke _ _ e⟩
  · exact q2.at (by simpa using e)
noncomputable def rng (a b c : Int) : List Int := (List.range (Builtin.Range.rangeSize a b c).toNat).map fun (i : Nat) => a + (i : Int) * c
theorem rangeSize_nonneg (a b c : Int) : 0 ≤ Builtin.Range.rangeSize a b c := by
  unfold Builtin.Range.rangeSize
  split
  · split
    · have := Int.ediv_nonneg (show 0 ≤ b - a - 1 by omega) (show 0 ≤ c by omega); omega
    · omega
  · split
    · have := Int.ediv_nonneg (show 0 ≤ a - b - 1 by omega) (show 0 ≤ -c by omega); omega
    · omega
theorem src_rng {P : Pm} {a b c : Int} (hs : Builtin.Range.small a b c = true) : Src P (.rng a b c) ((rng a b c).map .int) := fun A X h v ok al r => by
  rw [rep_rng] at r
  obtain ⟨l, t, u, w, rfl, nx, q1⟩ := r
  have ke := Ke.push h { cls := .type "range_iterator", data := .fields #[rawInt a, rawInt (Builtin.Range.rangeSize a b c), rawInt c] }
  have hn := rangeSize_nonneg a b c
  have W := Walks.range (prog := P.prog) (w := P.w) ok.1 h.objs.size a c (Builtin.Range.rangeSize a b c).toNat
  have hl : (Builtin.Range.rangeSize a b c).toNat = ((rng a b c).map D.int).length := by simp [rng]
  refine .of fun tk Q hq => wpAny_pyIter_range q1 hs (hq _ _ _ ⟨h.objs.size, [h.objs.size], (fun i v => ∃ t, v = .int (a + (i : Int) * c) t), (fun i h' => IsRangeIter h' h.objs.size (a + (i : Nat) * c) (((Builtin.Range.rangeSize a b c).toNat : Int) - (i : Nat)) c), rfl, ke, size_none h, hl ▸ W, ?_, (fun i h st => ⟨_, st⟩), fun b hb => ?_, fun i u hi e => ?_⟩)
  · show IsRangeIter _ _ _ _ _
    rw [show a + ((0 : Nat) : Int) * c = a by simp, show ((Builtin.Range.rangeSize a b c).toNat : Int) - ((0 : Nat) : Int) = Builtin.Range.rangeSize a b c by rw [Int.toNat_of_nonneg hn]; simp]
    exact Heap.get?_push_size _ rfl
  · rw [List.mem_singleton] at hb; subst hb
    exact ⟨al.new (size_none h), _, Heap.get?_push_size _ rfl⟩
  · obtain ⟨t, rfl⟩ := e
    refine ⟨.int (a + (i : Int) * c), ?_, by rw [rep_int]; exact ⟨t, rfl⟩⟩
    rw [← hl] at hi
    simp [rng, hi]
noncomputable def bys (b : List UInt8) : List Int := b.map fun c => (c.toNat : Int)
theorem src_bytes {P : Pm} {b : List UInt8} : Src P (.bytes b) ((bys b).map .int) := fun A X h v ok al r => by
  rw [rep_bytes] at r
  obtain ⟨t, rfl⟩ := r
  have ke := Ke.push h { cls := .type "bytes_iterator", data := .fields #[.bytes b.toArray t, .int 0 0] }
  have W := KBw.walks (prog := P.prog) (w := P.w) ok.1 h.objs.size b.toArray t
  have hl : b.toArray.size = ((bys b).map D.int).length := by simp [bys]
  refine .of fun tk Q hq => KBw.pyIter_bytes (hq _ _ _ ⟨h.objs.size, [h.objs.size], _, _, rfl, ke, size_none h, hl ▸ W, ⟨_, Heap.get?_push_size _ rfl, rfl, rfl⟩, (fun i h st => let ⟨o, e, _⟩ := st; ⟨o, e⟩), fun b hb => ?_, fun i u hi e => ?_⟩)
  · rw [List.mem_singleton] at hb; subst hb
    exact ⟨al.new (size_none h), _, Heap.get?_push_size _ rfl⟩
  · obtain ⟨c, t', e', rfl⟩ := e
    refine ⟨.int (c.toNat : Int), ?_, by rw [rep_int]; exact ⟨t', rfl⟩⟩
    simp only [List.getElem?_toArray] at e'
    simp [bys, e']
theorem src_dict {P : Pm} {ks : List Str} {ds : List D} : Src P (.dict ks ds) (ks.map .str) := fun A X h v ok al r => by
  rw [rep_dict] at r
  obtain ⟨a, vs, ep, rfl, nx, ⟨q0, q1⟩, q2, q3⟩ := r
  have ha : ∃ o, h.get? a = some o := let ⟨o, _, e, _⟩ := q1; ⟨o, e⟩
  have hne : a ≠ h.objs.size := by obtain ⟨o, e⟩ := ha; exact Nat.ne_of_lt (Heap.lt_size e)
  have ke := Ke.push h { cls := .type "dict_keyiterator", data := .fields #[.ref a, .int 0 0, .int (ks.zip vs).length 0, .int ep 0] }
  have W := Walks.dictKeys (prog := P.prog) (w := P.w) (knd := strKind P.prog P.w) ok.1 h.objs.size a hne (ks.zip vs) ep
  have hl : (ks.zip vs).length = (ks.map D.str).length := by rw [List.length_zip, List.length_map]; omega
  refine .of fun tk Q hq => wpAny_pyIter_dict (knd := strKind P.prog P.w) q0 q1 (hq _ _ _ ⟨h.objs.size, [h.objs.size, a], _, _, rfl, ke, size_none h, hl ▸ W, ⟨⟨_, Heap.get?_push_size _ rfl, rfl, by rw [← hl]; rfl⟩, q1.push _⟩, (fun i h st => let ⟨o, e, _⟩ := st.1; ⟨o, e⟩), fun b hb => ?_, fun i u hi e => ?_⟩)
  · rcases List.mem_cons.mp hb with rfl | hb
    · exact ⟨al.new (size_none h), _, Heap.get?_push_size _ rfl⟩
    · rw [List.mem_singleton] at hb; subst hb
      obtain ⟨o, e⟩ := ha; exact ⟨nx, o, ke _ _ e⟩
  · obtain ⟨k, x, e1, e2⟩ := e
    obtain ⟨t, rfl⟩ := Value.isStrOf_shape e2
    refine ⟨.str k, ?_, by rw [rep_str]; exact ⟨t, rfl⟩⟩
    rw [List.getElem?_zip_eq_some] at e1
    simp [e1.1]
end Mine

end
section
open PySem PySem.W PySem.Calls PyProof.Rows
namespace Mine

noncomputable def relS (cs sc : Scope) : Scope := { cs with names := cs.names.map fun (n, k) => if (k == .free && sc.kind == .function && sc.names.lookup n == some .cell) then (n, .cell) else (n, k) }
noncomputable def cSc (cs : Scope) (sc : Sc) : Sc := ⟨relS cs sc.sc, false, sc.n⟩
theorem relabel_relS (cs : Scope) (env : Env) : relabel cs env = relS cs env.scope := rfl

noncomputable def clOf (cells : List (Str × Addr)) : List (Str × NameKind) → List (Str × Addr) → List (Str × Addr)
  | [], acc => acc
  | (n, k) :: r, acc => if k == .free then clOf cells r ((n, (cells.lookup n).getD 0) :: acc) else clOf cells r acc
theorem clOf_forIn {env : Env} (f : Str × NameKind → List (Str × Addr) → Sem (ForInStep (List (Str × Addr))))
    (hf : ∀ n k cs, f (n, k) cs = if k == .free then (do let c ← cellOf env n; pure (.yield ((n, c) :: cs))) else pure (.yield cs)) :
    ∀ (names : List (Str × NameKind)) (acc : List (Str × Addr)), (∀ n, (n, NameKind.free) ∈ names → ∃ c, env.cells.lookup n = some c) → forIn names acc f = pure (clOf env.cells names acc)
  | [], acc, _ => rfl
  | (n, k) :: r, acc, h => by
    rw [List.forIn_cons, hf]
    unfold clOf
    have ih := clOf_forIn f hf r
    cases hk : k == NameKind.free with
    | false =>
      rw [if_neg (by decide), if_neg (by decide)]
      exact ih acc fun m hm => h m (.tail _ hm)
    | true =>
      rw [if_pos rfl, if_pos rfl]
      have e : k = .free := beq_iff_eq.mp hk
      subst e
      obtain ⟨c, hc⟩ := h n (.head _)
      have e1 : cellOf env n = pure c := by unfold cellOf; rw [hc]
      rw [e1, hc]
      exact ih ((n, c) :: acc) fun m hm => h m (.tail _ hm)
theorem closure_of {cs : Scope} {env : Env} (h : ∀ n, (n, NameKind.free) ∈ cs.names → ∃ c, env.cells.lookup n = some c) : closureFor cs env = pure (clOf env.cells cs.names []) := by
  have z := clOf_forIn (env := env) (fun x __s => match x with
      | (name, kind) => if (kind == NameKind.free) = true then (do let c ← cellOf env name; pure (ForInStep.yield ((name, c) :: __s))) else pure (ForInStep.yield __s)) (fun n k c => rfl) cs.names [] h
  show (forIn cs.names [] (fun x __s => match x with
      | (name, kind) => if (kind == NameKind.free) = true then (do let c ← cellOf env name; pure (ForInStep.yield ((name, c) :: __s))) else pure (ForInStep.yield __s)) >>= fun s => pure s) = _
  rw [z]
  rfl
theorem clOf_look {cells : List (Str × Addr)} : ∀ (names : List (Str × NameKind)) (acc : List (Str × Addr)), (∀ n, (n, NameKind.free) ∈ names → ∃ c, cells.lookup n = some c) → (∀ x c, acc.lookup x = some c → cells.lookup x = some c) →
    ∀ x c, (clOf cells names acc).lookup x = some c → cells.lookup x = some c
  | [], acc, _, ha => ha
  | (n, k) :: r, acc, h, ha => by
    unfold clOf
    split
    · rename_i hk
      have e : k = .free := beq_iff_eq.mp hk
      subst e
      obtain ⟨c', hc⟩ := h n (.head _)
      refine clOf_look r _ (fun m hm => h m (.tail _ hm)) fun x c l => ?_
      rw [List.lookup_cons] at l
      split at l
      · rename_i q; cases l; rw [beq_iff_eq.mp q, hc]; rfl
      · exact ha x c l
    · exact clOf_look r acc (fun m hm => h m (.tail _ hm)) ha
theorem clOf_has {cells : List (Str × Addr)} : ∀ (names : List (Str × NameKind)) (acc : List (Str × Addr)) (x : Str), ((∃ c, acc.lookup x = some c) ∨ (x, NameKind.free) ∈ names) → ∃ c, (clOf cells names acc).lookup x = some c
  | [], acc, x, h => by
    rcases h with h | h
    · exact h
    · cases h
  | (n, k) :: r, acc, x, h => by
    unfold clOf
    split
    · rename_i hk
      refine clOf_has r _ x ?_
      by_cases q : x = n
      · left; subst q; exact ⟨_, by simp [List.lookup_cons]; rfl⟩
      · rcases h with ⟨c, h⟩ | h
        · left; exact ⟨c, by rw [List.lookup_cons, show (x == n) = false from beq_eq_false_iff_ne.mpr q]; exact h⟩
        · right
          rcases List.mem_cons.mp h with e | h
          · cases e; exact absurd rfl q
          · exact h
    · rename_i hk
      refine clOf_has r acc x ?_
      rcases h with h | h
      · exact .inl h
      · right
        rcases List.mem_cons.mp h with e | h
        · cases e; exact absurd rfl hk
        · exact h

section
variable {sc : Sc}
noncomputable def Ets (B : Bd sc) (md : Md) (mo : MoL) (ifs : List Expr) (c : Bool) (mo' : MoL) : Prop :=
  ∀ h, S B md mo h → Run B.P B.A (forIn ifs true fun t r => if r = true then do let ok ← isTrue t B.env (eval t B.env); pure (ForInStep.yield ok) else pure (ForInStep.yield r)) h fun ok h' => ok = c ∧ Go B md mo h mo' h'
theorem ets_nil {B : Bd sc} {md : Md} {mo : MoL} : Ets B md mo [] true mo := fun h s => .of fun tk Q hq => by
  rw [List.forIn_nil]; exact wpAny_pure (hq _ _ _ ⟨rfl, s.refl⟩)
theorem ets_one {B : Bd sc} {md : Md} {mo mo' : MoL} {t : Expr} {c : Bool} (x : Et B md mo t c mo') : Ets B md mo [t] c mo' := fun h s => .of fun tk Q hq => by
  rw [List.forIn_cons]
  refine wpAny_bind ?_
  rw [if_pos rfl]
  refine wpAny_bind ((x h s).to fun b h' tk' ⟨e, g⟩ => wpAny_pure ?_)
  dsimp only
  rw [List.forIn_nil]
  exact wpAny_pure (hq _ _ _ ⟨e, g⟩)

inductive CompR (B : Bd sc) (md : Md) (x : Str) (elt : Expr) (ifs : List Expr) : MoL → List D → List D → MoL → Prop
  | nil {mo} : CompR B md x elt ifs mo [] [] mo
  | skip {mo mo1 mo' d ds out} : Ets B ((x, d) :: md) mo ifs false mo1 → CompR B md x elt ifs mo1 ds out mo' → CompR B md x elt ifs mo (d :: ds) out mo'
  | take {mo mo1 mo2 mo' d ds e out} : Ets B ((x, d) :: md) mo ifs true mo1 → Ev B ((x, d) :: md) mo1 elt e mo2 → CompR B md x elt ifs mo2 ds out mo' → CompR B md x elt ifs mo (d :: ds) (e :: out) mo'
theorem CompR.len {B : Bd sc} {md : Md} {x : Str} {elt : Expr} {ifs : List Expr} {mo mo' : MoL} {ds out : List D} (c : CompR B md x elt ifs mo ds out mo') : out.length ≤ ds.length := by
  induction c with
  | nil => exact Nat.le_refl _
  | skip _ _ ih => simp only [List.length_cons]; omega
  | take _ _ _ ih => simp only [List.length_cons]; omega

theorem S.kpe {B : Bd sc} {md : Md} {mo : MoL} {h h' : Heap} {T : Addr → Prop} (s : S B md mo h) (k : Kp T h h') (t : ∀ b, T b → B.ext b ∧ ¬ Am mo b) : S B md mo h' := by
  have tx : ∀ b, T b → XX B mo b := fun b x => .inl (B.extX b (t b x).1)
  refine ⟨s.keep.trans (k.mono fun b x => (t b x).1), ?_, fun p hp => ?_, s.nd⟩
  · obtain ⟨f, V, r⟩ := s.vars
    refine ⟨f, V.keeps fun b o x e => (k b o e).1 fun y => ?_, fun y d e => let ⟨v, a, b⟩ := r y d e; ⟨v, a, b.kp k tx⟩⟩
    rcases B.vz b x with q | q
    · exact q.2 (t b y).1
    · obtain ⟨o', e'⟩ := B.base.xa b (B.extX b (t b y).1); rw [q] at e'; cases e'
  · obtain ⟨a, b, c⟩ := s.mos p hp
    exact ⟨a.kp k tx fun y => (t _ y).2 (List.mem_map_of_mem hp), b, c⟩
end

noncomputable def compOk (cs : Scope) (sc : Scope) (x : Str) : Bool := cs.names.all (fun p => p.2 != .cell && (p.2 != .free || sc.names.lookup p.1 == some .cell) && (p.2 != .local || cs.names.lookup p.1 == some .local)) && cs.kind == .function && cs.names.lookup x == some .local && sc.kind == .function
section
variable {sc : Sc} {B : Bd sc} {md : Md} {mo1 mo2 : MoL}

theorem comp_core {elt iter : Expr} {x : Str} {px : Pos} {ifs : List Expr} {scope : Scope} {pos : Pos} {ds out : List D} {h1 h2 : Heap} {tk : Nat} {I : Addr} {fp : List Addr} {Pi : Nat → Value → Prop} {St : Nat → Heap → Prop}
    {E : Value → Shared → Prop} {RR : Value → Addr → Result → Shared → Prop}
    (s : S B md mo1 h1) (it : Its B.P B.A (XX B mo1) h1 h2 ds I fp Pi St) (hr : ∀ B' : Bd (cSc scope sc), CompR B' md x elt ifs mo1 ds out mo2) (hok : compOk scope sc.sc x = true) (hx : (md.all fun p => kin (cSc scope sc) p.1 != some .local) = true) (hz : ds.length ≤ 1000000)
    (hRR : ∀ D C hE tk' m, h1.get? D = none → h1.get? C = none → D ≠ C → hE.Ns C m → Kp (Am mo1) h1 hE → (∀ p ∈ (D, MO.lst out) :: mo2, MoAt B.P (fun b => XX B mo1 b ∨ b = D ∨ b = C) hE p.1 p.2) → mo2.map (·.1) = mo1.map (·.1) →
      RR (.ref D) C (.ok .next) { B.P.σ with heap := hE, toks := tk' }) :
    wpAny (model B.P.prog B.P.w) B.A (newList []) (fun acc s₃ => wpAny (model B.P.prog B.P.w) B.A (newFunctionEnv scope B.env.globals (clOf B.env.cells scope.names []) [] B.env.qual none .none (some B.env)) (fun cenv s₄ =>
      codeAny (model B.P.prog B.P.w) B.A (.compStart (.ListComp elt [⟨.Name x px, iter, ifs, 0⟩] scope pos) 0 (.ref I) acc { cenv with scope := relabel scope B.env }) (RR acc cenv.locals) s₄) E s₃) E { B.P.σ with heap := h2, toks := tk } := by
  unfold compOk at hok
  simp only [Bool.and_eq_true, List.all_eq_true, beq_iff_eq, bne_iff_ne, Bool.or_eq_true] at hok
  obtain ⟨⟨⟨hall, hkind⟩, hloc⟩, hsk⟩ := hok
  have hcell : ∀ y ∈ scope.names, y.2 ≠ .cell := fun y hy => (hall y hy).1.1
  have hfree : ∀ n, (n, NameKind.free) ∈ scope.names → sc.sc.names.lookup n = some .cell := fun n hn => ((hall _ hn).1.2).resolve_left fun h => h rfl
  have hbk : ∀ n, B.env.kindOf n = sc.sc.names.lookup n := fun n => B.kind n
  obtain ⟨f0, V0, r0⟩ := s.vars
  have hcl : ∀ n, (n, NameKind.free) ∈ scope.names → ∃ c, B.env.cells.lookup n = some c := fun n hn => V0.celE n ((hbk n).trans (hfree n hn))
  refine wpAny_newObj_type (wpAny_newFunctionEnv hcell (by intro y hy; simp at hy) (fun h₁ hns₁ hsb₁ => ?_) hkind)
  dsimp only at hns₁ hsb₁ ⊢
  generalize hD : h2.objs.size = D at *
  generalize hH2 : h2.push { cls := .type "list", dict := none, data := .seq ([] : List Value).toArray } = H2 at hns₁ hsb₁ ⊢
  generalize hC : H2.objs.size = C at *
  have hC' : C = D + 1 := by rw [← hC, ← hH2, Heap.size_push, hD]
  have hDC : D ≠ C := by rw [hC']; exact Nat.ne_of_lt (Nat.lt_succ_self _)
  have k12 : Ke h1 h2 := it.ke
  have k2H : Ke h2 H2 := hH2 ▸ Ke.push h2 _
  have kH1 : Ke H2 h₁ := fun b o e => hsb₁.extBut b o (Nat.ne_of_lt (hC ▸ Heap.lt_size e)) (Heap.get?_push_of_some _ e)
  have dC : H2.get? C = none := hC ▸ size_none H2
  have dD2 : h2.get? D = none := hD ▸ size_none h2
  have dead1 : ∀ b, h2.get? b = none → h1.get? b = none := fun b n => size_mono (k12.kp (T := fun _ => False)) n
  have dC1 : h1.get? C = none := dead1 C (size_mono (k2H.kp (T := fun _ => False)) dC)
  have dD1 : h1.get? D = none := dead1 D dD2
  have aI : ∃ o, h2.get? I = some o := (it.fp I (it.W.sub I (by simp))).2
  have hID : I ≠ D := by rintro rfl; obtain ⟨o, e⟩ := aI; rw [dD2] at e; cases e
  have hIC : I ≠ C := by rintro rfl; obtain ⟨o, e⟩ := aI; have := k2H _ _ e; rw [dC] at this; cases this
  have b1 := s.base
  have bH : Base B.P (XX B mo1) H2 := b1.ke (k12.trans k2H)
  have hT : ∀ b, h1.get? b = none → B.P.hT.get? b = none := fun b n => by
    cases e : B.P.hT.get? b with
    | none => rfl
    | some o => have := b1.top b o e; rw [n] at this; cases this
  have clsub : ∀ y c, (clOf B.env.cells scope.names []).lookup y = some c → B.env.cells.lookup y = some c := clOf_look _ _ hcl (fun y c e => by cases e)
  let env' : Env := compEnvC scope (clOf B.env.cells scope.names []) C B.env
  have es' : env'.scope = relS scope sc.sc := by show relabel scope B.env = _; rw [relabel_relS, B.es]
  let B' : Bd (cSc scope sc) := {
    P := B.P, X0 := fun b => XX B mo1 b ∨ b = I ∨ b = D, ext := fun b => Am mo1 b ∨ b = I ∨ b = D, env := env', h₀ := H2, A := B.A, ok := B.ok, es := es'
    eg := B.eg
    eb := B.eb
    ek := hkind
    base := ⟨bH.top, fun b t => by
      rcases t with t | t | t
      · exact b1.xt b t
      · exact t ▸ hT I it.new
      · exact t ▸ hT D dD1, fun b t => by
      rcases t with t | t | t
      · exact bH.xa b t
      · obtain ⟨o, e⟩ := aI; exact ⟨o, t ▸ k2H _ _ e⟩
      · exact ⟨{ cls := .type "list", dict := none, data := .seq ([] : List Value).toArray }, by rw [t, ← hH2, ← hD]; exact Heap.get?_push_size _ rfl⟩⟩
    extX := fun b t => by
      rcases t with t | t
      · exact .inl (.inr (.inr t))
      · exact .inr t
    vz := fun b v => by
      rcases v with v | ⟨y, l⟩
      · right; rw [show b = C from v]; exact dC
      · left
        have l' := clsub y b l
        have vb : Vz B.env b := .inr ⟨y, l'⟩
        refine ⟨.inl (.inr (.inl vb)), fun t => ?_⟩
        rcases t with t | t | t
        · exact s.nv t vb
        · obtain ⟨o, e⟩ := V0.alive vb; rw [t, it.new] at e; cases e
        · obtain ⟨o, e⟩ := V0.alive vb; rw [t, dD1] at e; cases e
    lo := dC
    fd := fun e => by cases e }
  have inner : ∀ y, env'.kindOf y = some .cell → B.env.kindOf y = some .cell ∧ (y, NameKind.free) ∈ scope.names := fun y hk => by
    unfold Env.kindOf at hk
    rw [es'] at hk
    have := mem_of_lookup hk
    unfold relS at this
    obtain ⟨⟨n, k⟩, hm, e⟩ := List.mem_map.mp this
    dsimp only at e
    split at e
    · rename_i q
      simp only [Bool.and_eq_true, beq_iff_eq] at q
      cases e
      exact ⟨(hbk y).trans q.2, by rw [← q.1.1]; exact hm⟩
    · cases e; exact absurd rfl (hcell _ hm)
  have hxk : kin (cSc scope sc) x = some .local := by
    show (relS scope sc.sc).names.lookup x = _
    have := lookup_relabel_local (env := B.env) hloc
    rw [show (relS scope sc.sc).names = (relabel scope B.env).names by rw [relabel_relS, B.es]]
    exact this
  have nI : ¬ XX B mo1 I := b1.new it.new
  have nD : ¬ XX B mo1 D := b1.new dD1
  have nC : ¬ XX B mo1 C := b1.new dC1
  have nmI : ¬ Am mo1 I := fun t => nI (.inr (.inr t))
  have nmD : ¬ Am mo1 D := fun t => nD (.inr (.inr t))
  have xx' : ∀ b, XX B' mo1 b → (XX B mo1 b ∨ b = I ∨ b = D ∨ b = C) := fun b t => by
    rcases t with t | t | t
    · rcases t with t | t | t
      · exact .inl t
      · exact .inr (.inl t)
      · exact .inr (.inr (.inl t))
    · rcases t with t | ⟨y, l⟩
      · exact .inr (.inr (.inr t))
      · exact .inl (.inr (.inl (.inr ⟨y, clsub y b l⟩)))
    · exact .inl (.inr (.inr t))
  have xxo : ∀ b, XX B mo1 b ∨ b = D ∨ b = C → XX B' mo1 b := fun b t => by
    rcases t with t | t | t
    · exact .inl (.inl t)
    · exact .inl (.inr (.inr t))
    · exact .inr (.inl (.inl t))
  have ex1 : ∀ b o, h1.get? b = some o → XX B' mo1 b → XX B mo1 b := fun b o e t => by
    rcases xx' b t with t | t | t | t
    · exact t
    · rw [t, it.new] at e; cases e
    · rw [t, dD1] at e; cases e
    · rw [t, dC1] at e; cases e
  have ke1 : Ke h1 h₁ := (k12.trans k2H).trans kH1
  have s0 : S B' md mo1 h₁ := {
    keep := kH1.kp
    vars := by
      refine ⟨fun y => if env'.kindOf y = some .local then none else f0 y, ⟨⟨_, hns₁, fun y v hk e => ?_⟩, fun y v hk e => ?_, fun y c l => ?_, fun y hk => ?_, fun y z c l l' => V0.apart y z c (clsub y c l) (clsub z c l'), fun y c l => ?_⟩, fun y d e => ?_⟩
      · rw [if_pos hk] at e; cases e
      · obtain ⟨k1, k2⟩ := inner y hk
        split at e
        · cases e
        · obtain ⟨c, l, ic⟩ := V0.cel y v k1 e
          obtain ⟨c', l'⟩ := clOf_has (cells := B.env.cells) scope.names [] y (.inr k2)
          have := clsub y c' l'
          rw [l] at this; cases this
          exact ⟨c, l', ic.keeps ke1⟩
      · obtain ⟨v, ic⟩ := V0.celA y c (clsub y c l)
        exact ⟨v, ic.keeps ke1⟩
      · exact clOf_has (cells := B.env.cells) scope.names [] y (.inr (inner y hk).2)
      · intro q
        obtain ⟨v, o, e, _⟩ := V0.celA y _ (clsub y _ l)
        rw [q, show env'.locals = C from rfl, dC1] at e; cases e
      · obtain ⟨v, a, b⟩ := r0 y d e
        refine ⟨v, ?_, (b.ex ex1).ke ke1⟩
        dsimp only
        rw [if_neg]
        · exact a
        · have := List.all_eq_true.mp hx _ (mem_of_lookup e)
          simp only [bne_iff_ne] at this
          intro q
          apply this
          unfold Env.kindOf at q
          rw [es'] at q
          exact q
    mos := fun p hp => by
      obtain ⟨a, b, c⟩ := s.mos p hp
      have am : Am mo1 p.1 := List.mem_map_of_mem hp
      refine ⟨(a.ex ex1).ke ke1, .inl (.inl am), fun v => ?_⟩
      rcases v with v | ⟨y, l⟩
      · obtain ⟨o, e⟩ := a.get; rw [show p.1 = C from v, dC1] at e; cases e
      · exact c (.inr ⟨y, clsub y _ l⟩)
    nd := s.nd }
  have mdx : ∀ {d : Mine.D} {y : Str} {d' : Mine.D}, md.lookup y = some d' → ((x, d) :: md).lookup y = some d' := fun {d y d'} e => by
    rw [List.lookup_cons]
    split
    · rename_i q
      rw [beq_iff_eq] at q; subst q
      have := List.all_eq_true.mp hx _ (mem_of_lookup e)
      simp only [bne_iff_ne] at this
      exact absurd hxk this
    · exact e
  have xeq : ∀ {mo : MoL}, mo.map (·.1) = mo1.map (·.1) → XX B' mo = XX B' mo1 := fun e => XX_congr e
  have fpk : ∀ b ∈ fp, ¬ Am mo1 b ∧ b ≠ C ∧ b ≠ D := fun b hb => by
    obtain ⟨n, o, e⟩ := it.fp b hb
    refine ⟨fun t => n (.inr (.inr t)), ?_, ?_⟩
    · rintro rfl; have := k2H _ _ e; rw [dC] at this; cases this
    · rintro rfl; rw [dD2] at e; cases e
  have hlen : out.length ≤ ds.length := (hr B').len
  have loop : ∀ tk, codeAny (model B.P.prog B.P.w) B.A (.compLoop (.ListComp elt [⟨.Name x px, iter, ifs, 0⟩] scope pos) 0 (.ref I) (.ref D) env') (RR (.ref D) C) { B.P.σ with heap := h₁, toks := tk } := fun tk => by
    refine codeAny_compLoop_tests (fun k s' => ∃ i h tk mo outr acc vs, s' = { B.P.σ with heap := h, toks := tk } ∧ St i h ∧ i ≤ ds.length ∧ k = ds.length + 1 - i ∧ S B' md mo h ∧ mo.map (·.1) = mo1.map (·.1) ∧
      CompR B' md x elt ifs mo (ds.drop i) outr mo2 ∧ acc ++ outr = out ∧ h.PlainList D (List.toArray vs) ∧ Reps B.P (XX B' mo1) h vs acc ∧ Kp (fun b => Am mo1 b ∨ b = I ∨ b = D ∨ b = C) h₁ h) ?_ (ds.length + 1)
      ⟨0, h₁, tk, mo1, out, [], [], rfl, it.W.frame _ _ _ it.st fun b hb o e => kH1 b o (k2H b o e), Nat.zero_le _, rfl, s0, rfl, by rw [List.drop_zero]; exact hr B', rfl,
        ⟨0, by rw [hsb₁.extBut D { cls := .type "list", dict := none, data := .seq ([] : List Value).toArray } hDC (Heap.get?_push_of_some _ (by rw [← hH2, ← hD]; exact Heap.get?_push_size _ rfl))]⟩, by simp only [Reps], .refl _ _⟩
    rintro k s' ⟨i, h, tk, mo, outr, acc, vs, rfl, hst, hi, rfl, sB, em, hc, ha, hp, hrep, hkp⟩
    by_cases hlt : i < ds.length
    · -- an item
      obtain ⟨d, hd⟩ : ∃ d, ds[i]? = some d := ⟨_, List.getElem?_eq_getElem hlt⟩
      have hdrop : ds.drop i = d :: ds.drop (i + 1) := by
        rw [List.drop_eq_getElem_cons hlt]
        rw [List.getElem?_eq_getElem hlt] at hd; cases hd; rfl
      rw [hdrop] at hc
      refine it.W.item i _ _ _ hlt hst fun v hA tkA hPv hstA hkA => ?_
      have kA : Kp (fun b => b = I) h hA := fun b o e => by
        refine ⟨fun n => hkA b o (by simpa using n) e, ?_⟩
        by_cases q : b = I
        · rw [q]; exact it.live _ _ hstA
        · exact ⟨o, hkA b o (by simpa using q) e⟩
      have am : ∀ {mo : MoL} {b : Addr}, mo.map (·.1) = mo1.map (·.1) → Am mo b → Am mo1 b := fun e t => by unfold Am at t ⊢; rwa [e] at t
      have T4x : ∀ b, (Am mo1 b ∨ b = I ∨ b = D ∨ b = C) → XX B' mo1 b := fun b t => by
        rcases t with t | t | t | t
        · exact .inl (.inl (.inr (.inr t)))
        · exact .inl (.inr (.inl t))
        · exact .inl (.inr (.inr t))
        · exact .inr (.inl (.inl t))
      have sA : S B' md mo hA := sB.kpe kA fun b e => ⟨.inr (.inl e), fun t => nmI (e ▸ am em t)⟩
      have k1A : Kp (fun b => Am mo1 b ∨ b = I ∨ b = D ∨ b = C) h₁ hA := hkp.trans (kA.mono fun b t => .inr (.inl t))
      have rv : Rep B'.P (XX B' mo) hA v d := by
        obtain ⟨d', e1, e2⟩ := it.item i v hlt hPv
        rw [hd] at e1; cases e1
        rw [xeq em]
        exact ((e2.ex ex1).ke ke1).kp k1A T4x
      have kstx : kst (cSc scope sc) x = true := by unfold kst; rw [hxk]; rfl
      refine wpAny_assign_Name ((store sA kstx rv).to fun _ hB tkB ⟨kB, sB2⟩ => ?_)
      have kBC : Kp (fun b => b = C) hA hB := kB.mono fun b t => by
        rcases t.1 with q | ⟨y, l⟩
        · exact q
        · exfalso
          obtain ⟨v, o, e, _⟩ := V0.celA y _ (clsub y _ l)
          have := k2H _ _ (k12 _ _ e)
          rw [t.2] at this; cases this
      have stay : ∀ {hX : Heap}, Kp (fun b => Am mo1 b ∨ b = D ∨ b = C) hA hX → St (i + 1) hX := fun k => it.W.frame _ _ _ hstA fun b hb o e => (k b o e).1 fun t => by
        obtain ⟨n1, n2, n3⟩ := fpk b hb
        rcases t with t | t | t
        · exact n1 t
        · exact n3 t
        · exact n2 t
      have Dstay : ∀ {hX : Heap}, Kp (fun b => Am mo1 b ∨ b = C) h hX → hX.PlainList D (List.toArray vs) := fun k => hp.at fun o e => (k D o e).1 fun t => by
        rcases t with t | t
        · exact nmD t
        · exact hDC t
      cases hc with
      | skip ht hc' =>
        refine (ht hB sB2).to fun ok hT tkT ⟨e, g⟩ => ?_
        subst e
        have eT := g.e.trans em
        have kAT : Kp (fun b => Am mo1 b ∨ b = C) hA hT := (kBC.mono fun b t => .inr t).trans (g.k.mono fun b t => .inl (am em t))
        refine ⟨ds.length + 1 - (i + 1), by omega, i + 1, hT, tkT, _, outr, acc, vs, rfl, stay (kAT.mono fun b t => t.elim .inl fun t => .inr (.inr t)), hlt, rfl, g.s.sub fun y d' e => mdx e, eT, hc', ha, ?_, ?_, ?_⟩
        · refine (hp.at fun o e => ?_)
          exact (kAT D o ((kA D o e).1 fun t => hID t.symm)).1 fun t => t.elim nmD hDC
        · exact (hrep.kp kA fun b t => T4x b (.inr (.inl t))).kp kAT fun b t => T4x b (t.elim .inl fun t => .inr (.inr (.inr t)))
        · exact k1A.trans (kAT.mono fun b t => t.elim .inl fun t => .inr (.inr (.inr t)))
      | take ht he hc' =>
        rename_i mo' mo'' e out'
        refine (ht hB sB2).to fun ok hT tkT ⟨eok, g⟩ => ?_
        subst eok
        have eT := g.e.trans em
        rw [if_pos rfl]
        refine (he hT g.s).to fun u hE tkE ⟨gE, rE⟩ => ?_
        have eE := gE.e.trans eT
        have kAE : Kp (fun b => Am mo1 b ∨ b = C) hA hE := ((kBC.mono fun b t => .inr t).trans (g.k.mono fun b t => .inl (am em t))).trans (gE.k.mono fun b t => .inl (am eT t))
        have hpE : hE.PlainList D (List.toArray vs) := hp.at fun o e => (kAE D o ((kA D o e).1 fun t => hID t.symm)).1 fun t => t.elim nmD hDC
        have hl1 := hrep.length
        have hl2 : acc.length + (out'.length + 1) = out.length := by rw [← ha]; simp
        refine wpAny_list_append_plain hpE (fun h5 hl5 hs5 => ?_) (by rw [List.size_toArray, sizeLine_eq]; omega)
        rw [List.push_toArray] at hl5
        have k5 : Kp (fun b => b = D) hE h5 := fun b o e => by
          refine ⟨fun n => hs5.extBut b o n e, ?_⟩
          by_cases q : b = D
          · subst q; obtain ⟨n, e⟩ := hl5; exact ⟨_, e⟩
          · exact ⟨o, hs5.extBut b o q e⟩
        have kA5 : Kp (fun b => Am mo1 b ∨ b = D ∨ b = C) hA h5 := (kAE.mono fun b t => t.elim .inl fun t => .inr (.inr t)).trans (k5.mono fun b t => .inr (.inl t))
        refine ⟨ds.length + 1 - (i + 1), by omega, i + 1, h5, tkE, _, out', acc ++ [e], vs ++ [u], rfl, stay kA5, hlt, rfl, (gE.s.sub fun y d' e => mdx e).kpe k5 fun b t => ⟨.inr (.inr t), fun z => nmD (t ▸ am eE z)⟩, eE, hc', by rw [← ha]; simp, hl5, ?_, ?_⟩
        · have r1 := ((hrep.kp kA fun b t => T4x b (.inr (.inl t))).kp kA5 fun b t => T4x b (t.elim .inl fun t => .inr (.inr t)))
          refine r1.append (Reps.one ?_)
          rw [xeq eE] at rE
          exact rE.kp k5 fun b t => T4x b (.inr (.inr (.inl t)))
        · exact k1A.trans (kA5.mono fun b t => t.elim .inl fun t => .inr (.inr t))
    · have hie : i = ds.length := by omega
      subst hie
      rw [List.drop_length] at hc
      cases hc
      rw [List.append_nil] at ha
      subst ha
      refine it.W.done _ _ _ hst fun hA tkA hkA => ?_
      have kA : Kw (fun b => b = I) h hA := fun b o e n => hkA b o (by simpa using n) e
      have k1h : Kp (Am mo1) h1 hA := fun b o e => by
        have e1 := ke1 b o e
        have nb : b ≠ I ∧ b ≠ D ∧ b ≠ C := ⟨(by intro q; rw [q, it.new] at e; cases e), (by intro q; rw [q, dD1] at e; cases e), (by intro q; rw [q, dC1] at e; cases e)⟩
        obtain ⟨p1, o2, p2⟩ := hkp b o e1
        refine ⟨fun n => kA b o (p1 fun t => ?_) nb.1, o2, kA b o2 p2 nb.1⟩
        rcases t with t | t | t | t
        · exact n t
        · exact nb.1 t
        · exact nb.2.1 t
        · exact nb.2.2 t
      obtain ⟨f, V, _⟩ := sB.vars
      obtain ⟨g, hg, _⟩ := V.loc
      have hgA : hA.Ns C g := hg.at' fun o e => kA C o e (Ne.symm hIC)
      have xI : ∀ b, b = I → XX B' mo1 b := fun b t => .inl (.inr (.inl t))
      refine hRR D C hA tkA g dD1 dC1 hDC hgA k1h (fun p hp' => ?_) em
      rcases List.mem_cons.mp hp' with rfl | hp'
      · refine ⟨vs, hp.at fun o e => kA D o e (Ne.symm hID), ?_⟩
        exact (hrep.kw kA xI).ex fun b o _ t => xxo b t
      · have m1 := (sB.mos p hp').1
        rw [xeq em] at m1
        exact (m1.kw kA xI fun q => nmI (by rw [← q]; unfold Am; rw [← em]; exact List.mem_map_of_mem hp')).ex fun b o _ t => xxo b t
  exact codeAny_compStart_list (loop _) (it.W.self 0 _ _ _ (it.W.frame _ _ _ it.st fun b hb o e => kH1 b o (k2H b o e)) (loop _))

theorem comp_pre (s : S B md mo1 h1) {scope : Scope} {x : Str} (hok : compOk scope sc.sc x = true) : closureFor scope B.env = pure (clOf B.env.cells scope.names []) ∧ scope.kind = .function ∧ (∀ y ∈ scope.names, y.2 = .local → scope.names.lookup y.1 = some .local) := by
  unfold compOk at hok
  simp only [Bool.and_eq_true, List.all_eq_true, beq_iff_eq, bne_iff_ne, Bool.or_eq_true] at hok
  obtain ⟨⟨⟨hall, hkind⟩, hloc⟩, hsk⟩ := hok
  obtain ⟨f0, V0, r0⟩ := s.vars
  refine ⟨closure_of fun n hn => V0.celE n ((B.kind n).trans ?_), hkind, fun y hy e => ?_⟩
  · exact ((hall _ hn).1.2).resolve_left fun h => h rfl
  · exact (hall y hy).2.resolve_left fun h => h e
theorem Go.news {h h' : Heap} {l mo mo' : MoL} (g : Go B md mo h mo' h') (s : S B md mo h) (n : ∀ p ∈ l, h.get? p.1 = none) (nd : (l.map (·.1)).Nodup) (q : ∀ p ∈ l ++ mo', MoAt B.P (fun b => XX B mo' b ∨ Am l b) h' p.1 p.2) : S B md (l ++ mo') h' := by
  have xe : XX B (l ++ mo') = fun b => XX B mo' b ∨ Am l b := by
    funext b; apply propext; unfold XX Am; simp only [List.map_append, List.mem_append]
    constructor
    · rintro (x | x | x | x)
      · exact .inl (.inl x)
      · exact .inl (.inr (.inl x))
      · exact .inr x
      · exact .inl (.inr (.inr x))
    · rintro ((x | x | x) | x)
      · exact .inl x
      · exact .inr (.inl x)
      · exact .inr (.inr (.inr x))
      · exact .inr (.inr (.inl x))
  have nx : ∀ p ∈ l, ¬ XX B mo p.1 := fun p hp => s.new (n p hp)
  refine ⟨g.s.keep, ?_, fun p hp => ?_, ?_⟩
  · obtain ⟨f, V, r⟩ := s.vars
    refine ⟨f, V.keeps fun b o x e => (g.k b o e).1 fun y => s.nv y x, fun x d e => ?_⟩
    obtain ⟨v, e1, e2⟩ := r x d e
    refine ⟨v, e1, ?_⟩
    rw [xe, XX_congr g.e]
    refine (e2.ex (X' := fun b => XX B mo b ∨ Am l b) fun b o e t => ?_).kp g.k fun b t => .inl (.inr (.inr t))
    rcases t with t | t
    · exact t
    · obtain ⟨p, hp, rfl⟩ := List.mem_map.mp t; rw [n p hp] at e; cases e
  · rw [xe]
    refine ⟨q p hp, ?_⟩
    rcases List.mem_append.mp hp with hp | hp
    · refine ⟨.inr ?_, fun v => nx p hp (.inr (.inl v))⟩
      cases e : B.h₀.get? p.1 with
      | none => rfl
      | some o => obtain ⟨o', e'⟩ := (s.keep p.1 o e).2; rw [n p hp] at e'; cases e'
    · exact (g.s.mos p hp).2
  · rw [List.map_append, List.nodup_append]
    refine ⟨nd, g.s.nd, fun a ha b hb e => ?_⟩
    subst e
    obtain ⟨p, hp, rfl⟩ := List.mem_map.mp ha
    have : XX B mo' p.1 := .inr (.inr hb)
    rw [XX_congr g.e] at this
    exact nx p hp this

theorem S.lose {h h' : Heap} {C : Addr} {m : MO} {mo : MoL} (s : S B md ((C, m) :: mo) h) (n : B.h₀.get? C = none) (k : Kw (fun b => b = C) h h') : S B md mo h' := by
  have xC : ∀ b, b = C → XX B ((C, m) :: mo) b := fun b t => .inr (.inr (by rw [t]; simp [Am]))
  have ex : ∀ b o, h'.get? b = some o → XX B mo b → XX B ((C, m) :: mo) b := fun b o _ t => by
    rcases t with t | t | t
    · exact .inl t
    · exact .inr (.inl t)
    · exact .inr (.inr (List.mem_cons_of_mem _ t))
  have nd := s.nd
  rw [List.map_cons, List.nodup_cons] at nd
  refine ⟨fun b o e => ?_, ?_, fun p hp => ?_, nd.2⟩
  · have nb : b ≠ C := by intro q; rw [q, n] at e; cases e
    obtain ⟨p1, o2, p2⟩ := s.keep b o e
    exact ⟨fun t => k b o (p1 t) nb, o2, k b o2 p2 nb⟩
  · obtain ⟨f, V, r⟩ := s.vars
    refine ⟨f, V.keeps fun b o v e => k b o e fun q => s.nv (b := C) (by simp [Am]) (q ▸ v), fun x d e => ?_⟩
    obtain ⟨v, a, b⟩ := r x d e
    exact ⟨v, a, (b.kw k xC).ex ex⟩
  · obtain ⟨a, b, c⟩ := s.mos p (.tail _ hp)
    exact ⟨(a.kw k xC fun q => nd.1 (List.mem_map.mpr ⟨p, hp, q⟩)).ex ex, b, c⟩

theorem comp_out {h1 hE h' : Heap} {D C : Addr} {out : List Mine.D} (s : S B md mo1 h1) (dD : h1.get? D = none) (dC : h1.get? C = none) (hDC : D ≠ C) (k : Kp (Am mo1) h1 hE) (m : ∀ p ∈ (D, MO.lst out) :: mo2, MoAt B.P (fun b => XX B mo1 b ∨ b = D ∨ b = C) hE p.1 p.2)
    (e : mo2.map (·.1) = mo1.map (·.1)) (sb : Heap.SameBut C hE h') : Go B md mo1 h1 mo2 h' ∧ RzAt B.P (XX B mo2) mo2 h1 h' (.ref D) (.n (.lst out)) := by
  have kC : Kw (fun b => b = C) hE h' := fun b o e n => sb.extBut b o n e
  have k' : Kp (Am mo1) h1 h' := fun b o e => by
    have nb : b ≠ C := by intro q; rw [q, dC] at e; cases e
    obtain ⟨p1, o2, p2⟩ := k b o e
    exact ⟨fun n => kC b o (p1 n) nb, o2, kC b o2 p2 nb⟩
  have m' : ∀ p ∈ (D, MO.lst out) :: mo2, MoAt B.P (fun b => XX B mo1 b ∨ b = D ∨ b = C) h' p.1 p.2 := fun p hp => (m p hp).kw kC (fun b t => .inr (.inr t)) fun q => by
    rcases List.mem_cons.mp hp with rfl | hp
    · exact hDC q
    · have : Am mo1 p.1 := by unfold Am; rw [← e]; exact List.mem_map_of_mem hp
      obtain ⟨o, g⟩ := s.base.xa p.1 (.inr (.inr this))
      rw [q, dC] at g; cases g
  refine ⟨s.go k' e fun p hp => (m' p (.tail _ hp)).ex fun b o _ t => .inl t, D, rfl, dD, fun p hp => (m' p hp).ex fun b o _ t => ?_⟩
  rw [XX_congr e] at t
  rcases t with t | t
  · exact .inl t
  · exact .inr (.inl t)

theorem en_comp {mo : MoL} {elt iter : Expr} {x : Str} {px : Pos} {ifs : List Expr} {scope : Scope} {pos : Pos} {d : Mine.D} {ds out : List Mine.D} (hi : Ev B md mo iter d mo1) (src : Src B.P d ds) (hr : ∀ B' : Bd (cSc scope sc), CompR B' md x elt ifs mo1 ds out mo2)
    (hok : compOk scope sc.sc x = true) (hx : (md.all fun p => kin (cSc scope sc) p.1 != some .local) = true) (hz : ds.length ≤ 1000000) (hs : ∀ x, foldedSetIterable iter B.env x = pure x := by intro _; rfl) :
    En B md mo (.ListComp elt [⟨.Name x px, iter, ifs, 0⟩] scope pos) (.lst out) mo2 := fun h s => .of fun tk Q hq => by
  obtain ⟨hclos, hkind, hnames⟩ := comp_pre s hok
  rw [eval_ListComp]
  refine wpAny_comprehension_free (use := none) rfl hs hclos hkind hnames ((hi h s).to fun v h1 tk1 ⟨g1, r1⟩ => (src B.A (XX B mo1) h1 v B.ok0 g1.s.al r1).to fun it h2 tk2 ⟨I, fp, Pi, St, e, hit⟩ => ?_)
  subst e
  refine comp_core (RR := fun acc C => compPost (model B.P.prog B.P.w) B.A (fun _ _ => False) none Q acc C) g1.s hit hr hok hx hz fun D C hE tk' m dD dC hDC hn k mm e => ?_
  refine ⟨m, hn, fun h' sb => ?_⟩
  obtain ⟨g2, rz⟩ := comp_out g1.s dD dC hDC k mm e sb
  exact hq _ _ _ ⟨g1.trans g2, rz.mono fun _ => size_mono g1.k⟩

theorem swaps_comp {y : Str} {py spos : Pos} {elt : Expr} {gens : List Comprehension} {scope : Scope} {pos : Pos} (hy : kin sc y = some .local) (hl : (py.line == pos.line && !(scope.names.any fun (n, k) => n == y && (k == .local || k == .cell))) = true) :
    swapsWith (.ListComp elt gens scope pos) (some (.Name y py)) spos.line B.env = pure true := by
  have h1 : B.env.blockKind = .function := by unfold Env.blockKind; rw [B.ek']; rfl
  have h2 : B.env.kindOf y = some .local := (B.kind y).trans hy
  rw [Bool.and_eq_true] at hl
  show (pure (B.env.blockKind == .function && B.env.kindOf y == some .local && py.line == pos.line && !(scope.names.any fun (n, k) => n == y && (k == .local || k == .cell))) : Sem Bool) = pure true
  rw [h1, h2, hl.1, hl.2]; rfl
theorem ex_comp {mo : MoL} {R : Flow → Heap → Prop} {rest : List Stmt} {elt iter : Expr} {x y : Str} {px py spos : Pos} {ifs : List Expr} {scope : Scope} {pos : Pos} {d : Mine.D} {ds out : List Mine.D} (hi : Ev B md mo iter d mo1) (src : Src B.P d ds) (hr : ∀ B' : Bd (cSc scope sc), CompR B' md x elt ifs mo1 ds out mo2)
    (hok : compOk scope sc.sc x = true) (hx : (md.all fun p => kin (cSc scope sc) p.1 != some .local) = true) (hz : ds.length ≤ 1000000)
    (hy : kin sc y = some .local) (hl : (py.line == pos.line && !(scope.names.any fun (n, k) => n == y && (k == .local || k == .cell))) = true)
    (r : ∀ a, ¬ B.ext a → Ex B ((y, .raw (.ref a)) :: md) ((a, .lst out) :: mo2) rest R) (hs : ∀ x, foldedSetIterable iter B.env x = pure x := by intro _; rfl) :
    Ex B md mo (.Assign [.Name y py] (.ListComp elt [⟨.Name x px, iter, ifs, 0⟩] scope pos) spos :: rest) R := ex_step fun h s Q tk hq => by
  obtain ⟨hclos, hkind, hnames⟩ := comp_pre s hok
  rw [exec_Assign_Name_used _ _ _ _ (swaps_comp hy hl)]
  refine wpAny_bind (wpAny_standAt (wpAny_bind ?_))
  show wpAny _ _ (do let _ ← comprehension (.ListComp elt [⟨.Name x px, iter, ifs, 0⟩] scope pos) scope B.env _ (newList []) false (eval iter B.env) (some (assign (.Name y py) B.env))) _ _ _
  refine wpAny_bind (wpAny_mono (wpAny_comprehension_free (Q := fun _ s' => Q .next s') (use := some (assign (.Name y py) B.env)) rfl hs hclos hkind hnames ((hi h s).to fun v h1 tk1 ⟨g1, r1⟩ => (src B.A (XX B mo1) h1 v B.ok0 g1.s.al r1).to fun it h2 tk2 ⟨I, fp, Pi, St, e, hit⟩ => ?_)) (fun _ s' z => wpAny_pure (wpAny_pure z)) fun _ _ z => z)
  subst e
  refine comp_core (RR := fun acc C => compPost (model B.P.prog B.P.w) B.A (fun _ _ => False) (some (assign (.Name y py) B.env)) (fun _ s' => Q .next s') acc C) g1.s hit hr hok hx hz fun D C hE tk' m dD dC hDC hn k mm e2 => ?_
  obtain ⟨g2, rz⟩ := comp_out g1.s dD dC hDC k mm e2 (Heap.SameBut.refl ..)
  have aC : ∃ o, hE.get? C = some o := let ⟨o, _, _, e, _⟩ := hn; ⟨o, e⟩
  have sE : S B md ([(C, .any), (D, .lst out)] ++ mo2) hE := g2.news g1.s (fun p hp => by
      rcases List.mem_cons.mp hp with rfl | hp
      · exact dC
      · rw [List.mem_singleton] at hp; subst hp; exact dD) (by simp [Ne.symm hDC]) fun p hp => by
    have xx : ∀ b o, hE.get? b = some o → (XX B mo2 b ∨ Am [(C, MO.any), (D, MO.lst out)] b) → XX B mo1 b ∨ b = D ∨ b = C := fun b o _ t => by
      rw [XX_congr e2] at t
      rcases t with t | t
      · exact .inl t
      · simp only [Am, List.map_cons, List.map_nil, List.mem_cons, List.not_mem_nil, or_false] at t
        rcases t with t | t
        · exact .inr (.inr t)
        · exact .inr (.inl t)
    rcases List.mem_append.mp hp with hp | hp
    · rcases List.mem_cons.mp hp with rfl | hp
      · exact aC
      · rw [List.mem_singleton] at hp; subst hp
        exact (mm _ (.head _)).ex xx
    · exact (mm p (.tail _ hp)).ex xx
  have ky : kst sc y = true := by unfold kst; rw [hy]; rfl
  show wpAny _ _ (assign (.Name y py) B.env (.ref D)) _ _ _
  refine wpAny_assign_Name ((store (d := .raw (.ref D)) sE ky (by rw [rep_raw])).to fun _ h3 tk3 ⟨k3, s3⟩ => ?_)
  have neC : C ≠ B.env.locals := fun q => s3.nv (b := C) (by simp [Am]) (.inl q)
  have vzC : ¬ Vz B.env C := s3.nv (b := C) (by simp [Am])
  refine ⟨m, hn.at' fun o e => (k3 C o e).1 fun t => vzC t.1, fun h' sb => ?_⟩
  have kC : Kw (fun b => b = C) h3 h' := fun b o e n => sb.extBut b o n e
  have s4 : S B ((y, .raw (.ref D)) :: md) ((D, .lst out) :: mo2) h' := s3.lose (by
    cases e : B.h₀.get? C with
    | none => rfl
    | some o => obtain ⟨o', e'⟩ := (g1.s.keep C o e).2; rw [dC] at e'; cases e') kC
  have kk : Kp (XX B mo) h h' := fun b o e => by
    have nb : b ≠ C := by
      intro q
      obtain ⟨o1, e1⟩ := (g1.k b o e).2
      rw [q, dC] at e1; cases e1
    obtain ⟨p1, o2, p2⟩ := ((g1.trans g2).kp.trans k3.vx) b o e
    exact ⟨fun n => kC b o (p1 n) nb, o2, kC b o2 p2 nb⟩
  refine hq _ _ _ _ s4 kk (fun b o e t => g1.xx ?_) (r D (g1.s.next dD))
  rcases t with t | t | t
  · exact .inl t
  · exact .inr (.inl t)
  · rcases List.mem_cons.mp t with t | t
    · obtain ⟨o1, e1⟩ := (g1.k b o e).2
      rw [t, dD] at e1; cases e1
    · exact .inr (.inr (by unfold Am; rw [← e2]; exact t))
end
end Mine

end
section
open PySem PySem.W PySem.Calls PyProof.Rows
namespace Mine

section
variable {sc : Sc}
inductive WhileR (B : Bd sc) (test : Expr) (body : List Stmt) : Nat → Md → MoL → Md → MoL → Prop
  | done {md mo mo'} : Et B md mo test false mo' → WhileR B test body 0 md mo md mo'
  | step {n md mo mo1 md1 mo2 md' mo'} : Et B md mo test true mo1 → Ex B md mo1 body (Nx B md1 mo2) → mo2.map (·.1) = mo.map (·.1) → WhileR B test body n md1 mo2 md' mo' → WhileR B test body (n + 1) md mo md' mo'
inductive ForR (B : Bd sc) (x : Str) (body : List Stmt) : Md → MoL → List D → Md → MoL → Prop
  | nil {md mo} : ForR B x body md mo [] md mo
  | cons {md mo d ds md1 mo1 md' mo'} : (∀ I o, Ex B ((x, d) :: md) ((I, .obj o) :: mo) body (Nx B md1 ((I, .obj o) :: mo1))) → mo1.map (·.1) = mo.map (·.1) → ForR B x body md1 mo1 ds md' mo' → ForR B x body md mo (d :: ds) md' mo'
end
section
variable {sc : Sc} {B : Bd sc} {md md' md1 : Md} {mo mo' mo1 mo2 : MoL} {R : Flow → Heap → Prop} {rest : List Stmt}

theorem ex_while {test : Expr} {body : List Stmt} {pos : Pos} {n : Nat} (w : WhileR B test body n md mo md' mo') (he : mo'.map (·.1) = mo.map (·.1)) (r : Ex B md' mo' rest R) : Ex B md mo (.While test body [] pos :: rest) R := ex_step fun h s Q tk hq =>
  wpAny_While (by
    refine codeAny_whileLoop (fun k s' => ∃ h1 tk1 md1 mo1, s' = { B.P.σ with heap := h1, toks := tk1 } ∧ S B md1 mo1 h1 ∧ mo1.map (·.1) = mo.map (·.1) ∧ Kp (XX B mo) h h1 ∧ WhileR B test body k md1 mo1 md' mo') ?_ n ⟨h, tk, md, mo, rfl, s, rfl, .refl _ _, w⟩
    rintro k s' ⟨h1, tk1, md1, mo1, rfl, s1, e1, k1, w1⟩
    have x1 : ∀ {b : Addr}, XX B mo1 b → XX B mo b := fun {b} t => by rwa [XX_congr e1] at t
    cases w1 with
    | done ht =>
      refine (ht h1 s1).to fun c h2 tk2 ⟨e, g⟩ => ?_
      subst e
      refine wpAny_execs_nil ?_
      exact hq _ _ _ _ g.s (k1.trans (g.kp.mono fun b t => x1 t)) (fun b o _ t => by rwa [XX_congr he] at t) r
    | step ht hb e2 w2 =>
      refine (ht h1 s1).to fun c h2 tk2 ⟨e, g⟩ => ?_
      subst e
      refine (hb h2 g.s).to fun fl h3 tk3 ⟨k3, e3, s3⟩ => ?_
      subst e3
      exact ⟨_, Nat.lt_succ_self _, h3, tk3, _, _, rfl, s3, e2.trans e1, (k1.trans (g.kp.mono fun b t => x1 t)).trans (k3.mono fun b t => x1 (g.xx t)), w2⟩)

theorem ForR.e {x : Str} {body : List Stmt} {ds : List D} (f : ForR B x body md mo ds md' mo') : mo'.map (·.1) = mo.map (·.1) := by
  induction f with
  | nil => rfl
  | cons _ e _ ih => exact ih.trans e
theorem ex_for {iter : Expr} {x : Str} {px pos : Pos} {body : List Stmt} {d : D} {ds : List D} (hi : Ev B md mo iter d mo1) (src : Src B.P d ds) (f : ForR B x body md mo1 ds md' mo2) (hx : kst sc x = true) (r : Ex B md' mo2 rest R)
    (hs : ∀ x, foldedSetIterable iter B.env x = pure x := by intro _; rfl) : Ex B md mo (.For (.Name x px) iter body [] pos :: rest) R := ex_step fun h s Q tk hq =>
  wpAny_For ((hi h s).to fun v h1 tk1 ⟨g1, r1⟩ => (src B.A (XX B mo1) h1 v B.ok0 g1.s.al r1).to fun it h2 tk2 ⟨I, fp, Pi, St, e, hit⟩ => by
    subst e
    have s1 := g1.s
    have nI : ¬ XX B mo1 I := s1.base.new hit.new
    have dI : B.h₀.get? I = none := by
      cases e : B.h₀.get? I with
      | none => rfl
      | some o => obtain ⟨o', e'⟩ := (s1.keep I o e).2; rw [hit.new] at e'; cases e'
    obtain ⟨oI, hoI⟩ := hit.live _ _ hit.st
    have s2 : S B md ((I, .obj oI) :: mo1) h2 := by
      have g2 : Go B md mo1 h1 mo1 h2 := s1.goKe hit.ke
      refine g2.new s1 hit.new fun p hp => ?_
      rcases List.mem_cons.mp hp with rfl | hp
      · exact hoI
      · exact ((s1.mos p hp).1.also hit.new).ke hit.ke
    have xI : ∀ {mo : MoL} {m : MO} {b : Addr}, mo.map (·.1) = mo1.map (·.1) → XX B ((I, m) :: mo) b → XX B mo1 b ∨ b = I := fun e t => by
      rcases t with t | t | t
      · exact .inl (.inl t)
      · exact .inl (.inr (.inl t))
      · rcases List.mem_cons.mp t with t | t
        · exact .inr t
        · exact .inl (.inr (.inr (by unfold Am; rw [← e]; exact t)))
    have fpn : ∀ b ∈ fp, ¬ XX B mo1 b := fun b hb => (hit.fp b hb).1
    refine codeAny_forLoop (fun k s' => ∃ i h3 tk3 md3 mo3 o3, s' = { B.P.σ with heap := h3, toks := tk3 } ∧ St i h3 ∧ i ≤ ds.length ∧ k = ds.length + 1 - i ∧ S B md3 ((I, .obj o3) :: mo3) h3 ∧ mo3.map (·.1) = mo1.map (·.1) ∧ ForR B x body md3 mo3 (ds.drop i) md' mo2 ∧
      Kp (fun b => XX B mo1 b ∨ b = I) h2 h3) ?_ (ds.length + 1) ⟨0, h2, tk2, md, mo1, oI, rfl, hit.st, Nat.zero_le _, rfl, s2, rfl, by rw [List.drop_zero]; exact f, .refl _ _⟩
    rintro k s' ⟨i, h3, tk3, md3, mo3, o3, rfl, st3, hi3, rfl, s3, e3, f3, k3⟩
    by_cases hlt : i < ds.length
    · have hdrop : ds.drop i = ds[i] :: ds.drop (i + 1) := List.drop_eq_getElem_cons hlt
      rw [hdrop] at f3
      refine hit.W.item i _ _ _ hlt st3 fun v h4 tk4 hPv st4 hk4 => ?_
      obtain ⟨o4, ho4⟩ := hit.live _ _ st4
      have k4 : Kp (Am [(I, MO.obj o3)]) h3 h4 := fun b o e => by
        refine ⟨fun n => hk4 b o (fun q => n (by simpa [Am] using q)) e, ?_⟩
        by_cases q : b = I
        · rw [q]; exact ⟨o4, ho4⟩
        · exact ⟨o, hk4 b o (by simpa using q) e⟩
      have s4 : S B md3 ((I, .obj o4) :: mo3) h4 := (s3.part (l' := [(I, .obj o4)]) .here k4 fun p hp => by
        rw [List.mem_singleton] at hp; subst hp; exact ho4).s
      have rv : Rep B.P (XX B ((I, .obj o4) :: mo3)) h4 v ds[i] := by
        obtain ⟨d, e1, e2⟩ := hit.item i v hlt hPv
        rw [List.getElem?_eq_getElem hlt] at e1; cases e1
        have z := (e2.also hit.new).ke hit.ke
        have z2 := (z.kp k3 fun b t => t).kp (k4.mono (T' := fun b => b = I) fun b t => by simpa [Am] using t) fun b t => .inr t
        exact z2.ex fun b o _ t => xI e3 t
      refine wpAny_assign_Name ((store s4 hx rv).to fun _ h5 tk5 ⟨k5, s5⟩ => ?_)
      cases f3 with
      | cons hb e6 f6 =>
        rename_i md6 mo6
        refine (hb I o4 h5 s5).to fun fl h6 tk6 ⟨k6, e, s6⟩ => ?_
        subst e
        have o6 : h6.get? I = some o4 := (s6.mos _ (.head _)).1
        have k46 : Kp (fun b => XX B mo1 b ∨ b = I) h4 h6 := (k5.mono fun b t => .inl (.inr (.inl t.1))).trans (k6.mono fun b t => xI e3 t)
        have st6 : St (i + 1) h6 := hit.W.frame _ _ _ st4 fun b hb' o e => by
          by_cases q : b = I
          · rw [q] at e ⊢; rw [o6]; rw [ho4] at e; exact e
          · exact (k46 b o e).1 fun t => t.elim (fpn b hb') q
        exact ⟨ds.length + 1 - (i + 1), by omega, i + 1, h6, tk6, md6, mo6, o4, rfl, st6, hlt, rfl, s6, e6.trans e3, f6, (k3.trans (k4.mono fun b t => .inr (by simpa [Am] using t))).trans k46⟩
    · have hie : i = ds.length := by omega
      subst hie
      rw [List.drop_length] at f3
      cases f3
      refine hit.W.done _ _ _ st3 fun h4 tk4 hk4 => ?_
      have k4 : Kw (fun b => b = I) h3 h4 := fun b o e n => hk4 b o (by simpa using n) e
      have s4 : S B md' mo2 h4 := s3.lose dI k4
      refine wpAny_execs_nil ?_
      have kk : Kp (XX B mo) h h4 := fun b o e => by
        obtain ⟨p1, o1, q1⟩ := g1.kp b o e
        have nb : b ≠ I := by intro q; rw [q, hit.new] at q1; cases q1
        obtain ⟨p3, o3', q3⟩ := k3 b o1 (hit.ke b o1 q1)
        refine ⟨fun n => k4 b o ((k3 b o (hit.ke b o (p1 n))).1 fun t => t.elim (fun t => n (g1.xx t)) nb) nb, o3', k4 b o3' q3 nb⟩
      exact hq _ _ _ _ s4 kk (fun b o _ t => g1.xx (by rwa [XX_congr e3] at t)) r) hs
end
end Mine

end
section
open PySem PySem.W PySem.Calls PyProof.Rows
namespace Mine

noncomputable def Gi (P : Pm) (a b d : D) : Prop := ∀ A X h u v, OkA 0 A → Al X h → Rep P X h u a → Rep P X h v b →
  (∃ T id, typeLookup (.type T) "__getitem__" = pure (some (.builtin id)) ∧ ∀ tk, ({ P.σ with heap := h, toks := tk } : Shared).TypeIs u T) ∧ Run P A (getItem u v) h fun r h' => Ke h h' ∧ Rep P X h' r d
noncomputable def Gs (P : Pm) (a : D) (lo hi : Option Int) (d : D) : Prop := ∀ A X h u sl l r, OkA 0 A → Al X h → Rep P X h u a → IsPart l lo → IsPart r hi → h.IsSliceOf sl l r .none →
  (∃ T id, typeLookup (.type T) "__getitem__" = pure (some (.builtin id)) ∧ ∀ tk, ({ P.σ with heap := h, toks := tk } : Shared).TypeIs u T) ∧ Run P A (getItem u (.ref sl)) h fun r h' => Ke h h' ∧ Rep P X h' r d

section
variable {sc : Sc} {B : Bd sc} {md : Md} {mo mo1 mo2 mo3 : MoL}
theorem ev_sub {value slice : Expr} {pos : Pos} {a b d : D} (x : Ev B md mo value a mo1) (y : Ev B md mo1 slice b mo2) (g : Gi B.P a b d) (hs : ∀ o i, ∃ ops, subscripted slice false o i = operate ops (getItem o i)) : Ev B md mo (.Subscript value slice pos) d mo2 := fun h s => .of fun tk Q hq =>
  Subscript_ ((x h s).to fun u h1 tk1 ⟨g1, r1⟩ => (y h1 g1.s).to fun v h2 tk2 ⟨g2, r2⟩ => by
    obtain ⟨⟨T, id, hl, hT⟩, run⟩ := g B.A _ h2 u v B.ok0 g2.s.al (g2.rep r1) r2
    obtain ⟨ops, e⟩ := hs u v
    exact tail_any (hT tk2) hl (run.to fun r h3 tk3 ⟨k3, r3⟩ => hq _ _ _ ⟨(g1.trans g2).ke k3, r3⟩) e)
noncomputable def Evo (B : Bd sc) (md : Md) (mo : MoL) (e : Option Expr) (i : Option Int) (mo' : MoL) : Prop := ∀ h, S B md mo h → Run B.P B.A (evalPart e B.env) h fun v h' => Go B md mo h mo' h' ∧ IsPart v i
theorem evo_none : Evo B md mo none none mo := fun h s => .of fun tk Q hq => by rw [evalPart_none]; exact wpAny_pure (hq _ _ _ ⟨s.refl, .none⟩)
theorem evo_some {e : Expr} {i : Int} (x : Ev B md mo e (.int i) mo1) : Evo B md mo (some e) (some i) mo1 := fun h s => by
  rw [evalPart_some]
  exact (x h s).mono fun v h' ⟨g, r⟩ => by rw [rep_int] at r; obtain ⟨t, rfl⟩ := r; exact ⟨g, .int i t⟩
theorem ev_slice {value : Expr} {lower upper : Option Expr} {p pos : Pos} {a d : D} {lo hi : Option Int} (x : Ev B md mo value a mo1) (l : Evo B md mo1 lower lo mo2) (r : Evo B md mo2 upper hi mo3) (g : Gs B.P a lo hi d) : Ev B md mo (.Subscript value (.Slice lower upper none p) pos) d mo3 := fun h s => .of fun tk Q hq =>
  Subscript_ ((x h s).to fun u h1 tk1 ⟨g1, r1⟩ => wpAny_Slice ((l h1 g1.s).to fun vl h2 tk2 ⟨g2, p2⟩ => (r h2 g2.s).to fun vr h3 tk3 ⟨g3, p3⟩ => by
    rw [evalPart_none]
    refine wpAny_pure ?_
    have kp := Ke.push h3 { cls := .type "slice", data := .fields #[vl, vr, .none] }
    have g4 := g3.ke kp
    obtain ⟨⟨T, id, hl, hT⟩, run⟩ := g B.A _ _ u h3.objs.size vl vr B.ok0 g4.s.al (g4.rep (g2.rep r1)) p2 p3 (Heap.IsSliceOf.new ..)
    exact tail_any (hT tk3) hl (run.to fun r h5 tk5 ⟨k5, r5⟩ => hq _ _ _ ⟨((g1.trans g2).trans g4).ke k5, r5⟩) rfl))
end

theorem rep_flat_int {P : Pm} {X : Addr → Prop} {h : Heap} {i : Int} {t : Tok} : Rep P X h (.int i t) (.int i) := by rw [rep_int]; exact ⟨t, rfl⟩
theorem valueAt_lookup : ∀ (kvs : List (Str × Value)) (k : Str), valueAt kvs k = kvs.lookup k
  | [], k => rfl
  | (y, v) :: r, k => by
    unfold valueAt
    rw [List.find?_cons, List.lookup_cons]
    by_cases q : y = k
    · subst q; simp
    · rw [show (k == y) = false from beq_eq_false_iff_ne.mpr (Ne.symm q)]
      simp only [q, decide_false]
      exact valueAt_lookup r k
section
variable {P : Pm}
theorem gi_bytes {b : List UInt8} {i : Int} (h0 : 0 ≤ i) (h1 : i < b.length) (hz : b.length ≤ 1000000) : Gi P (.bytes b) (.int i) (.int (b.getD i.toNat 0).toNat) := fun A X h u v ok al r1 r2 => by
  rw [rep_bytes] at r1; obtain ⟨t, rfl⟩ := r1
  rw [rep_int] at r2; obtain ⟨t', rfl⟩ := r2
  exact ⟨⟨"bytes", _, FB.slot_bytes_getitem.lookup, fun _ => typeIs_bytes _ _ _⟩, .of fun tk Q hq => getItem_bytes (by omega) h0 h1 (hq _ _ _ ⟨.refl h, rep_flat_int⟩)⟩
theorem gi_list {ds : List D} {i : Int} {d : D} (h0 : 0 ≤ i) (hd : ds[i.toNat]? = some d) (hz : ds.length ≤ 1000000) : Gi P (.list ds) (.int i) d := fun A X h u v ok al r1 r2 => by
  rw [rep_list] at r1; obtain ⟨a, vs, rfl, nx, q1, q2⟩ := r1
  rw [rep_int] at r2; obtain ⟨t', rfl⟩ := r2
  obtain ⟨w, e, rw'⟩ := q2.at' hd
  have := (List.getElem?_eq_some_iff.mp hd).1
  exact ⟨⟨"list", _, list_getitem_lookup, fun _ => Heap.IsList.typeIs (s := { P.σ with heap := h, toks := _ }) q1.isList⟩, .of fun tk Q hq => wpAny_getItem_list q1.isList h0 (by omega) (by simpa using e) (hq _ _ _ ⟨.refl h, rw'⟩)⟩
theorem gi_tup {ds : List D} {i : Int} {d : D} (h0 : 0 ≤ i) (hd : ds[i.toNat]? = some d) (hz : ds.length ≤ 1000000) : Gi P (.tup ds) (.int i) d := fun A X h u v ok al r1 r2 => by
  rw [rep_tup] at r1; obtain ⟨a, vs, rfl, nx, q1, q2⟩ := r1
  rw [rep_int] at r2; obtain ⟨t', rfl⟩ := r2
  obtain ⟨w, e, rw'⟩ := q2.at' hd
  have hlt := (List.getElem?_eq_some_iff.mp hd).1
  have hj : seqIndex? i vs.toArray.size = some i.toNat := by
    have h1 : ¬ i < 0 := by omega
    have h2 : 0 ≤ i := h0
    have h3 : i < (vs.toArray.size : Int) := by rw [List.size_toArray, q2.length]; omega
    simp only [seqIndex?, h1, if_false]
    simp [h2]; simpa using h3
  exact ⟨⟨"tuple", _, F.slot_tuple_getitem.lookup, fun _ => IsTup.typeIs (s := { P.σ with heap := h, toks := _ }) q1⟩, .of fun tk Q hq => getItem_tuple q1 (by omega) (by omega) hj (by simpa using e) (hq _ _ _ ⟨.refl h, rw'⟩)⟩
theorem gi_dict {ks : List Str} {ds : List D} {k : Str} {d : D} (hd : (ks.zip ds).lookup k = some d) : Gi P (.dict ks ds) (.str k) d := fun A X h u v ok al r1 r2 => by
  rw [rep_dict] at r1; obtain ⟨a, vs, ep, rfl, nx, ⟨q0, q1⟩, q2, q3⟩ := r1
  rw [rep_str] at r2; obtain ⟨t', rfl⟩ := r2
  obtain ⟨w, e, rw'⟩ := q3.look hd
  refine ⟨⟨"dict", _, F.slot_dict_getitem.lookup, fun _ => Heap.DictOf.typeIs (s := { P.σ with heap := h, toks := _ }) q1.dictOf⟩, .of fun tk Q hq => wpAny_getItem_of (knd := strKind P.prog P.w) (k := k) (by show Value.isStrOf k (.str k t') = true; simp [Value.isStrOf]) q1.dictOf.mapOf (v := w) ?_ (hq _ _ _ ⟨.refl h, rw'⟩)⟩
  rw [valueAt_lookup]; exact e

noncomputable def cut {α : Type} (l : List α) (lo hi : Option Int) : List α := (l.drop (lo.elim 0 (clipAt l.length))).take (hi.elim l.length (clipAt l.length) - lo.elim 0 (clipAt l.length))
theorem gs_bytes {b : List UInt8} {lo hi : Option Int} (hz : b.length ≤ 16777216) : Gs P (.bytes b) lo hi (.bytes (cut b lo hi)) := fun A X h u sl l r ok al r1 pl pr hsl => by
  rw [rep_bytes] at r1; obtain ⟨t, rfl⟩ := r1
  refine ⟨⟨"bytes", _, FB.slot_bytes_getitem.lookup, fun _ => typeIs_bytes _ _ _⟩, .of fun tk Q hq => getItem_meets (typeIs_bytes _ _ _) (by decide) FB.slot_bytes_getitem FB.entry_bytes_getitem (FB.args_bytes_getitem_2 _ _) (KBc.meets_slice2 b.toArray t sl pl pr)
    ⟨hsl, Nat.le_trans (KBc.size_picked_le _ lo hi) (by rw [List.size_toArray, sizeLine_eq]; exact hz), fun t' k => hq _ _ _ ⟨.refl h, ?_⟩⟩⟩
  rw [rep_bytes]
  exact ⟨t', by rw [KBc.picked_eq]; simp [cut]⟩
theorem Reps.take {X : Addr → Prop} {h : Heap} : ∀ {vs : List Value} {ds : List D}, Reps P X h vs ds → ∀ n, Reps P X h (vs.take n) (ds.take n)
  | [], [], r, n => by simpa using r
  | _ :: _, _ :: _, r, 0 => by simp only [List.take_zero, Reps]
  | _ :: _, _ :: _, r, n + 1 => by rw [reps_cons] at r; rw [List.take_succ_cons, List.take_succ_cons, reps_cons]; exact ⟨r.1, Reps.take r.2 n⟩
  | [], _ :: _, r, _ => by simp only [Reps] at r
  | _ :: _, [], r, _ => by simp only [Reps] at r
theorem Reps.drop {X : Addr → Prop} {h : Heap} : ∀ {vs : List Value} {ds : List D}, Reps P X h vs ds → ∀ n, Reps P X h (vs.drop n) (ds.drop n)
  | [], [], r, n => by simpa using r
  | _ :: _, _ :: _, r, 0 => r
  | _ :: _, _ :: _, r, n + 1 => by rw [reps_cons] at r; rw [List.drop_succ_cons, List.drop_succ_cons]; exact Reps.drop r.2 n
  | [], _ :: _, r, _ => by simp only [Reps] at r
  | _ :: _, [], r, _ => by simp only [Reps] at r
theorem slicePick_cut (vs : List Value) (lo hi : Option Int) : slicePick vs.toArray lo hi none = (cut vs lo hi).toArray := by
  unfold slicePick cut
  rw [sliceBounds_plain]
  simp only [sliceRange_one, pick_run]
  simp
theorem gs_list {ds : List D} {lo hi : Option Int} (hz : ds.length ≤ 1000000) : Gs P (.list ds) lo hi (.list (cut ds lo hi)) := fun A X h u sl l r ok al r1 pl pr hsl => by
  rw [rep_list] at r1; obtain ⟨a, vs, rfl, nx, q1, q2⟩ := r1
  refine ⟨⟨"list", _, list_getitem_lookup, fun _ => Heap.IsList.typeIs (s := { P.σ with heap := h, toks := _ }) q1.isList⟩, .of fun tk Q hq => wpAny_getItem_list_slice q1.isList hsl pl pr .none (by simp) (hq _ _ _ ⟨Ke.push _ _, ?_⟩) (by rw [List.size_toArray, q2.length, sizeLine_eq]; omega)⟩
  rw [slicePick_cut, rep_list]
  refine ⟨_, cut vs lo hi, rfl, al.new (size_none _), ⟨0, Heap.get?_push_size _ rfl⟩, ?_⟩
  unfold cut
  rw [q2.length]
  exact ((q2.drop _).take _).ke (Ke.push _ _)

theorem sliceApplied_to {A : Around} {E : Value → Shared → Prop} {s : Shared} {sl : Addr} {a n : Nat} {u : Tok} {Q : Int × Int × Nat → Shared → Prop} (hs : s.heap.IsSliceOf sl .none (.int a u) .none) (ha : a ≤ n) (h : Q (0, 1, a) s) :
    wpAny (model P.prog P.w) A (Builtin.Slice.sliceApplied (.ref sl) (pure (n : Int))) Q E s := by
  obtain ⟨os, hos, hcs, hds⟩ := id hs
  unfold Builtin.Slice.sliceApplied Builtin.Slice.sliceFields
  refine wpAny_bind (wpAny_bind (wpAny_field hos hds (x := .none) rfl (wpAny_bind (wpAny_field hos hds (x := .int a u) rfl (wpAny_bind (wpAny_field hos hds (x := .none) rfl (wpAny_pure ?_)))))))
  refine wpAny_bind (slicePart_none ?_)
  show wpAny _ _ (if ((1 : Int) == 0) = true then _ else _) _ _ s
  rw [if_neg (by decide)]
  refine wpAny_bind (slicePart_none (wpAny_bind (slicePart_int (wpAny_bind (wpAny_pure ?_)))))
  have e1 : Builtin.Slice.sliceAdjust none (some (a : Int)) 1 (n : Int) = (0, (a : Int)) := by
    unfold Builtin.Slice.sliceAdjust
    have h1 : ¬ ((1 : Int) < 0) := by omega
    have h2 : ¬ ((a : Int) < 0) := by omega
    simp only [h1, h2, if_false]
    congr 1
    omega
  have e2 : Builtin.Slice.slicePlaces 0 (a : Int) 1 = a := by
    unfold Builtin.Slice.slicePlaces
    have h1 : (1 : Int) > 0 := by omega
    simp only [h1, if_true, Int.ediv_one]
    split <;> omega
  show wpAny _ _ (match Builtin.Slice.sliceAdjust none (some (a : Int)) 1 (n : Int) with | (lo, hi) => pure (lo, (1 : Int), Builtin.Slice.slicePlaces lo hi 1)) _ _ s
  rw [e1]
  show wpAny _ _ (pure ((0 : Int), (1 : Int), Builtin.Slice.slicePlaces 0 (a : Int) 1)) _ _ s
  rw [e2]
  exact wpAny_pure h
theorem gs_tup {ds : List D} {k : Nat} (hk : k ≤ ds.length) (hz : ds.length ≤ 1000000) : Gs P (.tup ds) none (some (k : Int)) (.tup (ds.take k)) := fun A X h u sl l r ok al r1 pl pr hsl => by
  rw [rep_tup] at r1; obtain ⟨a, vs, rfl, nx, q1, q2⟩ := r1
  cases pl
  cases pr with
  | int _ u =>
  have hl := q2.length
  refine ⟨⟨"tuple", _, F.slot_tuple_getitem.lookup, fun _ => IsTup.typeIs (s := { P.σ with heap := h, toks := _ }) q1⟩, .of fun tk Q hq => ?_⟩
  obtain ⟨os, hos, hcs, hds⟩ := id hsl
  have hTs : ({ P.σ with heap := h, toks := tk } : Shared).TypeIs (.ref sl) "slice" := ⟨os, hos, hcs⟩
  have ht : IsTup h a vs.toArray := q1
  unfold getItem
  try with_reducible refine wpAny_holding ?_
  refine wpAny_bind (wpAny_sequenceKey (IsTup.typeIs (s := { P.σ with heap := h, toks := _ }) ht) (by decide) ?_)
  refine wpAny_bind (wpAny_callSpecial?_slot (name := Str.ofString "__getitem__") (IsTup.typeIs (s := { P.σ with heap := h, toks := _ }) ht) PyProof.Rows.slot_tuple_getitem
    (wpAny_call_entry PyProof.Rows.slot_tuple_getitem (IsTup.typeIs (s := { P.σ with heap := h, toks := _ }) ht) PyProof.Rows.entry_tuple_getitem ?_ (PyProof.Rows.args_tuple_getitem _ _)))
  show wpAny _ _ (Builtin.Tuple.tupleItemsOf (.ref a) >>= _) _ _ _
  refine wpAny_bind (tupleItemsOf_ ht ?_)
  refine wpAny_bind (wpAny_typeOf hTs ?_)
  rw [if_pos (by decide)]
  refine wpAny_bind (sliceApplied_to (n := vs.toArray.size) hsl (by rw [List.size_toArray]; omega) ?_)
  show wpAny _ _ (if ((0 : Int) == 0 && (1 : Int) == 1 && k == vs.toArray.size) = true then _ else _) _ _ _
  have rest : ∀ h', Ke h h' → Rep P X h' (.ref a) (.tup ds) := fun h' ke => by rw [rep_tup]; exact ⟨a, vs, rfl, nx, let ⟨o, ho, r⟩ := q1; ⟨o, ke _ _ ho, r⟩, q2.ke ke⟩
  by_cases hw : k = vs.toArray.size
  · rw [if_pos (by simp [hw])]
    have e : ds.take k = ds := List.take_of_length_le (by rw [hw, List.size_toArray]; omega)
    rw [e] at hq
    have fin := hq (.ref a) h tk ⟨.refl h, rest h (.refl h)⟩
    refine wpAny_bind (m := Builtin.Tuple.tupleIsExact (.ref a)) ?_
    unfold Builtin.Tuple.tupleIsExact
    refine wpAny_bind (wpAny_typeOf (IsTup.typeIs (s := { P.σ with heap := h, toks := _ }) ht) (wpAny_pure ?_))
    rw [if_pos (by decide)]
    refine wpAny_bind (wpAny_rule ?_)
    exact wpAny_pure ⟨_, rfl, wpAny_pure fin⟩
  · rw [if_neg (by rw [List.size_toArray] at hw; simp [hw])]
    have hp : ((List.range k).filterMap fun (j : Nat) => vs.toArray[((0 : Int) + (j : Int) * 1).toNat]?).toArray = (vs.take k).toArray := by
      have e : (fun (j : Nat) => vs.toArray[((0 : Int) + (j : Int) * 1).toNat]?) = fun j => vs.toArray[0 + j]? := by
        funext j
        have : ((0 : Int) + (j : Int) * 1).toNat = 0 + j := by omega
        rw [this]
      rw [e]
      have := pick_run vs.toArray 0 k
      rw [List.filterMap_map] at this
      have e2 : ((fun x => vs.toArray[x]?) ∘ fun x => 0 + x) = fun k => vs.toArray[0 + k]? := rfl
      rw [e2] at this
      rw [this]; simp
    have fin := hq (.ref h.objs.size) (h.push { cls := .type "tuple", data := .seq (vs.take k).toArray }) tk ⟨Ke.push _ _, by
      rw [rep_tup]
      exact ⟨_, vs.take k, rfl, al.new (size_none _), ⟨_, Heap.get?_push_size _ rfl, rfl, _, rfl⟩, (q2.take k).ke (Ke.push _ _)⟩⟩
    have hdrop : sizeOk (.seq (vs.take k).toArray) := by
      show (vs.take k).toArray.size ≤ sizeLine
      rw [List.size_toArray, List.length_take, sizeLine_eq]; omega
    rw [hp]
    first
      | exact wpAny_bind (m := Builtin.Tuple.tupleExact _) (wpAny_newObj_type (wpAny_pure ⟨_, rfl, wpAny_pure fin⟩) hdrop)
      | exact wpAny_bind (m := Builtin.Tuple.tupleExact _) (wpAny_newObj_type (wpAny_bind (wpAny_pure (wpAny_pure ⟨_, rfl, wpAny_pure fin⟩))) hdrop)
      | exact wpAny_bind (wpAny_bind (m := Builtin.Tuple.tupleExact _) (wpAny_newObj_type (wpAny_pure (wpAny_pure ⟨_, rfl, wpAny_pure fin⟩)) hdrop))
      | exact wpAny_bind (wpAny_bind (m := Builtin.Tuple.tupleExact _) (wpAny_newObj_type (wpAny_pure ⟨_, rfl, wpAny_pure fin⟩) hdrop))
end
end Mine

end
section
open PySem PySem.W PySem.Calls PyProof.Rows
namespace Mine

noncomputable def Pc (P : Pm) (f : Value) (ds : List D) (r : D) : Prop := ∀ A X h vs, OkA 0 A → Base P X h → Reps P X h vs ds → Run P A (call f vs) h fun v h' => Ke h h' ∧ Rep P X h' v r
noncomputable def Pn (P : Pm) (f : Value) (ds : List D) (m : MO) : Prop := ∀ A X h vs, OkA 0 A → Base P X h → Reps P X h vs ds → Run P A (call f vs) h fun v h' => Ke h h' ∧ ∃ a, v = .ref a ∧ h.get? a = none ∧ MoAt P (fun b => X b ∨ b = a) h' a m
section
variable {P : Pm}
theorem Ke.kpAm {h h' : Heap} (k : Ke h h') : Kp (Am []) h h' := k.kp
theorem Pc.ctr {f : Value} {ds : List D} {r : D} (c : Pc P f ds r) : Ctr P 0 f ds [] (.d r) [] := fun A X h vs ok bs rs _ _ =>
  (c A X h vs ok bs rs).mono fun v h' ⟨k, q⟩ => ⟨k.kp, (fun p hp => nomatch hp), rfl, q⟩
theorem Pn.ctr {f : Value} {ds : List D} {m : MO} (c : Pn P f ds m) : Ctr P 0 f ds [] (.n m) [] := fun A X h vs ok bs rs _ _ =>
  (c A X h vs ok bs rs).mono fun v h' ⟨k, a, e, n, q⟩ => ⟨k.kp, (fun p hp => nomatch hp), rfl, a, e, n, fun p hp => by rw [List.mem_singleton] at hp; subst hp; exact q⟩
theorem reps1 {X : Addr → Prop} {h : Heap} {vs : List Value} {d : D} (r : Reps P X h vs [d]) : ∃ v, vs = [v] ∧ Rep P X h v d := by
  rcases vs with _ | ⟨v, _ | ⟨_, _⟩⟩ <;> simp only [Reps, and_true, and_false] at r
  exact ⟨v, rfl, r⟩
theorem reps2 {X : Addr → Prop} {h : Heap} {vs : List Value} {d e : D} (r : Reps P X h vs [d, e]) : ∃ v u, vs = [v, u] ∧ Rep P X h v d ∧ Rep P X h u e := by
  rcases vs with _ | ⟨v, _ | ⟨u, _ | ⟨_, _⟩⟩⟩ <;> simp only [Reps, and_true, and_false] at r
  exact ⟨v, u, rfl, r⟩
theorem reps3 {X : Addr → Prop} {h : Heap} {vs : List Value} {d e f : D} (r : Reps P X h vs [d, e, f]) : ∃ v u w, vs = [v, u, w] ∧ Rep P X h v d ∧ Rep P X h u e ∧ Rep P X h w f := by
  rcases vs with _ | ⟨v, _ | ⟨u, _ | ⟨w, _ | ⟨_, _⟩⟩⟩⟩ <;> simp only [Reps, and_true, and_false] at r
  exact ⟨v, u, w, rfl, r⟩

theorem pc_len_bytes {b : List UInt8} (hz : b.length ≤ 1000000) : Pc P (.builtin "len") [.bytes b] (.int b.length) := fun A X h vs ok bs rs => by
  obtain ⟨v, rfl, r⟩ := reps1 rs
  rw [rep_bytes] at r; obtain ⟨t, rfl⟩ := r
  exact .of fun tk Q hq => len_bytes (by rw [List.size_toArray]; omega) (hq _ _ _ ⟨.refl h, by rw [List.size_toArray]; exact rep_flat_int⟩)
theorem pc_len_list {ds : List D} (hz : ds.length ≤ 1000000) : Pc P (.builtin "len") [.list ds] (.int ds.length) := fun A X h vs ok bs rs => by
  obtain ⟨v, rfl, r⟩ := reps1 rs
  rw [rep_list] at r; obtain ⟨a, us, rfl, nx, q1, q2⟩ := r
  exact .of fun tk Q hq => PyProof.Rows.len_list q1.isList (by rw [List.size_toArray, q2.length]; omega) (hq _ _ _ ⟨.refl h, by rw [List.size_toArray, q2.length]; exact rep_flat_int⟩)
theorem pc_len_tup {ds : List D} (hz : ds.length ≤ 1000000) : Pc P (.builtin "len") [.tup ds] (.int ds.length) := fun A X h vs ok bs rs => by
  obtain ⟨v, rfl, r⟩ := reps1 rs
  rw [rep_tup] at r; obtain ⟨a, us, rfl, nx, q1, q2⟩ := r
  exact .of fun tk Q hq => PyProof.Rows.len_tuple (items := us.toArray) q1 (by rw [List.size_toArray, q2.length]; omega) (hq _ _ _ ⟨.refl h, by rw [List.size_toArray, q2.length]; exact rep_flat_int⟩)
theorem pc_len_dict {ks : List Str} {ds : List D} (hl : ks.length = ds.length) (hz : ds.length ≤ 1000000) : Pc P (.builtin "len") [.dict ks ds] (.int ks.length) := fun A X h vs ok bs rs => by
  obtain ⟨v, rfl, r⟩ := reps1 rs
  rw [rep_dict] at r; obtain ⟨a, us, ep, rfl, nx, ⟨q0, q1⟩, q2, q3⟩ := r
  have e : (ks.zip us).length = ks.length := by rw [List.length_zip]; omega
  exact .of fun tk Q hq => call_len_dict (knd := strKind P.prog P.w) q0 q1.dictOf (by rw [e]; omega) (hq _ _ _ ⟨.refl h, by rw [e]; exact rep_flat_int⟩)

theorem pc_range1 {n : Int} : Pc P (.type "range") [.int n] (.rng 0 n 1) := fun A X h vs ok bs rs => by
  obtain ⟨v, rfl, r⟩ := reps1 rs
  rw [rep_int] at r; obtain ⟨t, rfl⟩ := r
  exact .of fun tk Q hq => call_range_1 (hq _ _ _ ⟨Ke.push _ _, by rw [rep_rng]; exact ⟨_, _, _, _, rfl, bs.new (size_none _), IsRange.new ..⟩⟩)
theorem pc_range2 {a b : Int} : Pc P (.type "range") [.int a, .int b] (.rng a b 1) := fun A X h vs ok bs rs => by
  obtain ⟨v, u, rfl, r1, r2⟩ := reps2 rs
  rw [rep_int] at r1 r2; obtain ⟨t, rfl⟩ := r1; obtain ⟨t', rfl⟩ := r2
  exact .of fun tk Q hq => call_range_2 (hq _ _ _ ⟨Ke.push _ _, by rw [rep_rng]; exact ⟨_, _, _, _, rfl, bs.new (size_none _), IsRange.new ..⟩⟩)
theorem pc_range3 {a b c : Int} (hc : c ≠ 0) (hs : c.natAbs < 1073741824) : Pc P (.type "range") [.int a, .int b, .int c] (.rng a b c) := fun A X h vs ok bs rs => by
  obtain ⟨v, u, w, rfl, r1, r2, r3⟩ := reps3 rs
  rw [rep_int] at r1 r2 r3; obtain ⟨t, rfl⟩ := r1; obtain ⟨t', rfl⟩ := r2; obtain ⟨t'', rfl⟩ := r3
  exact .of fun tk Q hq => call_range_3 hc (hq _ _ _ ⟨Ke.push _ _, by rw [rep_rng]; exact ⟨_, _, _, _, rfl, bs.new (size_none _), IsRange.new ..⟩⟩) (.inl (PyProof.noPylong_small hs))

theorem pc_chr {i : Int} (h0 : 0 ≤ i) (h1 : i ≤ 1114111) : Pc P (.builtin "chr") [.int i] (.str ⟨#[i.toNat]⟩) := fun A X h vs ok bs rs => by
  obtain ⟨v, rfl, r⟩ := reps1 rs
  rw [rep_int] at r; obtain ⟨t, rfl⟩ := r
  exact .of fun tk Q hq => chr_of_range h0 h1 (hq _ _ _ ⟨.refl h, by rw [rep_str]; exact ⟨_, rfl⟩⟩)

theorem pc_tuple {ds : List D} (hz : ds.length ≤ 1000000) : Pc P (.type "tuple") [.list ds] (.tup ds) := fun A X h vs ok bs rs => by
  obtain ⟨v, rfl, r⟩ := reps1 rs
  rw [rep_list] at r; obtain ⟨a, us, rfl, nx, q1, q2⟩ := r
  refine .of fun tk Q hq => call_tuple_list q1.isList (fun h' k => hq _ _ _ ⟨fun b o e => Heap.get?_push_of_some _ (k b o e), ?_⟩) (by rw [List.size_toArray, q2.length, sizeLine_eq]; omega)
  have k' : Ke h h' := k
  rw [rep_tup]
  exact ⟨_, us, rfl, bs.new (size_mono (k'.kp (T := fun _ => False)) (size_none _)), ⟨_, Heap.get?_push_size _ rfl, rfl, _, rfl⟩, (q2.ke k').ke (Ke.push _ _)⟩
theorem pc_list {ds : List D} (hz : ds.length ≤ 1000000) : Pc P (.type "list") [.list ds] (.list ds) := fun A X h vs ok bs rs => by
  obtain ⟨v, rfl, r⟩ := reps1 rs
  rw [rep_list] at r; obtain ⟨a, us, rfl, nx, ⟨n, q1⟩, q2⟩ := r
  refine .of fun tk Q hq => call_list_seq a (.inl rfl) q1 rfl rfl (fun h' c' k e => hq _ _ _ ⟨k, ?_⟩) (by rw [List.size_toArray, q2.length, sizeLine_eq]; omega)
  rw [rep_list]
  exact ⟨_, us, rfl, bs.new (size_none _), ⟨c', e⟩, q2.ke k⟩

theorem ints_of {X : Addr → Prop} {h : Heap} : ∀ {vs : List Value} {ns : List Int}, Reps P X h vs (ns.map .int) → IntsAre vs ns
  | [], [], _ => .nil
  | v :: vs, n :: ns, r => by
    rw [List.map_cons, reps_cons, rep_int] at r
    obtain ⟨⟨t, rfl⟩, r⟩ := r
    exact .cons n t (ints_of r)
  | [], _ :: _, r => by simp only [List.map_cons, Reps] at r
  | _ :: _, [], r => by simp only [List.map_nil, Reps] at r
theorem preSum_eq (ns : List Int) : ∀ n, n ≤ ns.length → preSum (fun i => ns.getD i 0) n = (ns.take n).sum
  | 0, _ => by simp [preSum]
  | n + 1, h => by
    have ih := preSum_eq ns n (by omega)
    unfold preSum
    rw [ih, List.take_add_one, List.sum_append]
    simp [List.getD, List.getElem?_eq_getElem (show n < ns.length by omega)]
theorem pc_sum {ns : List Int} : Pc P (.builtin "sum") [.list (ns.map .int)] (.int ns.sum) := fun A X h vs ok bs rs => by
  obtain ⟨v, rfl, r⟩ := reps1 rs
  rw [rep_list] at r; obtain ⟨a, us, rfl, nx, q1, q2⟩ := r
  have hi := ints_of q2
  have ha : ∃ o, h.get? a = some o := let ⟨n, e⟩ := q1; ⟨_, e⟩
  have hne : a ≠ h.objs.size := by obtain ⟨o, e⟩ := ha; exact Nat.ne_of_lt (Heap.lt_size e)
  refine .of fun tk Q hq => call_sum_walkAnyS (wpAny_pyIter_list q1.isList ?_)
  have W := (Walks.list (prog := P.prog) (w := P.w) (A := A.in1) ok.1 h.objs.size a hne us.toArray).toS
  refine ⟨h.objs.size, [h.objs.size, a], [h.objs.size], _, us.toArray.size, _, _, fun i => ns.getD i 0, rfl, W, ⟨⟨_, Heap.get?_push_size _ rfl, rfl, rfl⟩, q1.isList.push _⟩, fun b hb => ?_, fun i v e => ?_, fun s' t' mv => ?_⟩
  · show b < (h.push _).objs.size
    rw [Heap.size_push]
    rcases List.mem_cons.mp hb with rfl | hb
    · exact Nat.lt_succ_self _
    · rw [List.mem_singleton] at hb; subst hb
      obtain ⟨o, e⟩ := ha; exact Nat.lt_succ_of_lt (Heap.lt_size e)
  · obtain ⟨n, t, e1, e2⟩ := IntsAre.at hi i v (by simpa using e)
    exact ⟨t, by rw [e1]; simp [List.getD, e2]⟩
  · obtain ⟨m1, m2, m3, m4, m5⟩ := mv
    have es : s' = { P.σ with heap := s'.heap, toks := s'.toks } := by
      obtain ⟨hh, g, d, t, os⟩ := s'
      simp only at m2 m3 m4 ⊢
      subst m2 m3 m4
      rfl
    rw [es]
    have hl : us.toArray.size = ns.length := by rw [List.size_toArray]; exact hi.length
    refine hq _ _ _ ⟨fun b o e => m1 b o (fun hb => ?_) (Heap.get?_push_of_some _ e), ?_⟩
    · rw [List.mem_singleton] at hb; subst hb; rw [size_none] at e; cases e
    · rw [hl, preSum_eq ns _ (Nat.le_refl _), List.take_length]; exact rep_flat_int
end
end Mine

end
section
open PySem PySem.W PySem.Calls PyProof.Rows
set_option maxRecDepth 100000
namespace Mine
section
variable {sc : Sc} {B : Bd sc} {md : Md} {mo mo' mo1 mo2 mo3 : MoL}
theorem ev_gint {x : Str} {pos : Pos} {i : Int} {t : Tok} (e : nsIn B.P.K mainGlobals x = some (some (.int i t))) (k : kin sc x = some .globalImplicit) (hd : (x == ("__debug__" : Str)) = false) : Ev B md mo (.Name x pos) (.int i) mo :=
  ev_global e k hd fun _ _ _ _ => by rw [rep_int]; exact ⟨_, rfl⟩
theorem ev_gref {x : Str} {pos : Pos} {v : Value} (e : nsIn B.P.K mainGlobals x = some (some v)) (k : kin sc x = some .globalImplicit) (hd : (x == ("__debug__" : Str)) = false) : Ev B md mo (.Name x pos) (.raw v) mo :=
  ev_global e k hd fun _ _ _ _ => by rw [rep_raw]
end
section
variable {P : Pm} {n : Nat}
theorem c_check_room {data : List UInt8} {at' count : Int} (h0 : 0 ≤ at') (h1 : at' + count ≤ data.length) (hz : data.length ≤ 1000000) :
    Ctr P (n + 1) (.ref 82) [.bytes data, .int at', .int count] [] (.d .none) [] := by
  refine ctr_def (names := ["data", "at", "count"]) (ho := rfl) (hcd := rfl) (hbind := ?_) rfl ?_ rfl rfl ?_
  · intro vs hv
    rcases vs with _ | ⟨a, _ | ⟨b, _ | ⟨c, _ | ⟨_, _⟩⟩⟩⟩ <;> first | rfl | (simp at hv)
  · decide +kernel
  intro B hB hx
  subst hB
  exact ex_iff (et_or (et_cmp (ev_name rfl rfl rfl) ev_int o_lt) fun _ => et_or (et_cmp (ev_bin (ev_name rfl rfl rfl) (ev_name rfl rfl rfl) o_add) (ev_call (ev_builtin rfl rfl (by decide) rfl rfl) cw_b rfl (evs_cons (ev_name rfl rfl rfl) evs_nil) (pc_len_bytes hz).ctr (Nat.zero_le _) .nil) o_gt) fun _ => et_or_nil)
    (by simp; omega) (ex_none fun p hp => nomatch hp)
end
noncomputable def CtrC (P : Pm) (n : Nat) (f : Value) (ds : List D) (mo : MoL) (z : Rz) (mo' : MoL) : Prop :=
  ∀ A X h vs tk (R : Result → Shared → Prop), OkA n A → Base P X h → Reps P X h vs ds → (∀ p ∈ mo, X p.1 ∧ MoAt P X h p.1 p.2) → (mo.map (·.1)).Nodup →
    (∀ v h' tk', Kp (Am mo) h h' ∧ (∀ p ∈ mo', MoAt P X h' p.1 p.2) ∧ mo'.map (·.1) = mo.map (·.1) ∧ RzAt P X mo' h h' v z → R (.ok (.ret v)) { P.σ with heap := h', toks := tk' }) →
    codeAny (model P.prog P.w) A (.call f ⟨vs, []⟩) R { P.σ with heap := h, toks := tk }
theorem call_cellsB {prog : Program} {w : World} {A : Around} {s : Shared} {R : Result → Shared → Prop} {a : Addr} {o : Obj} {fd : FuncData} {body : List Stmt} {vals : List Value} {binds : List (Str × Value)}
    (hroom : A.depth < recursionLimit) (ho : s.heap.get? a = some o) (hdata : o.data = .func fd) (hlim : s.heap.NoLimit) (hcd : s.heap.CodeRec fd.code fd.qualname)
    (hbody : fd.body = .stmts body) (hbind : BindsTo s fd ⟨vals, []⟩ binds) (hclo : fd.closure = [])
    (hkind : ∀ x ∈ binds, fd.scope.names.lookup x.1 = some .local ∨ (fd.scope.names.lookup x.1 = some .cell ∧ ((cellsFrom (s.heap.objs.size + 1) fd.scope.names []).lookup x.1).isSome = true))
    (h : ∀ s₁, InCallC s (callEnvC fd s.heap.objs.size a).locals (bindL (callEnvC fd s.heap.objs.size a).kindOf binds fun _ => none) (callEnvC fd s.heap.objs.size a).cells
        (bindC (callEnvC fd s.heap.objs.size a).kindOf binds fun _ => none) s₁ →
      wpAny (model prog w) (A.deeper (callEnvC fd s.heap.objs.size a)) (execs body (callEnvC fd s.heap.objs.size a)) (fun f s' => R (.ok (.ret (match f with | .ret v => v | _ => .none))) s')
        (fun e s' => wpAny (model prog w) (A.deeper (callEnvC fd s.heap.objs.size a)) (leaving (callEnvC fd s.heap.objs.size a) e) (fun _ s'' => R (.error e) s'') (fun e' s'' => R (.error e') s'') s') s₁)
    (hco : fd.scope.isCoroutine = false := by rfl) (hgen : fd.scope.isGenerator = false := by rfl) (hk : fd.scope.kind = .function := by rfl) :
    codeAny (model prog w) A (.call (.ref a) ⟨vals, []⟩) R s := by
  refine codeAny_call_function hroom ho hdata hco hgen hbody hcd (hbind _ _ _ _ ?_)
  rw [hclo]
  refine wpAny_newFunctionEnv_cells hk hkind fun env he s' x => ?_
  subst he
  exact ⟨hlim.keeps x.toInCall.keep, codeAny_func (h s' x)⟩
theorem cod_def {P : Pm} {n f : Nat} {ds : List D} {mo mo' : MoL} {z : Rz} {name qual : Str} {params : Arguments} {body : List Stmt} {scope : Scope} {dV kV doc pm cdv ct oc : Value} {an od : Option Addr} {osl : Array (Option Value)} {names : List Str}
    (ho : P.K.lookup f = some ⟨oc, od, .func (fnOf name qual params body scope dV kV doc pm an cdv ct), osl⟩) (hcd : codeIn P.K cdv qual = true)
    (hbind : ∀ (s : Shared) (vs : List Value), P.K.In s.heap → vs.length = ds.length → BindsTo s (fnOf name qual params body scope dV kV doc pm an cdv ct) ⟨vs, []⟩ (names.zip vs))
    (hn : names.length = ds.length) (hnd : names.Nodup) (hl : localsOk scope names = true)
    (he : mo'.map (·.1) = mo.map (·.1))
    (hb : ∀ B : Bd ⟨scope, true, n⟩, B.P = P → B.ext = Am mo → Ex B (names.zip ds) mo body (Ends B mo' z))
    (hco : scope.isCoroutine = false := by rfl) (hgen : scope.isGenerator = false := by rfl) (hk : scope.kind = .function := by rfl) : CtrC P (n + 1) (.ref f) ds mo z mo' := by
  intro A X h vs tk R ok bs rs hmo nd hq
  have hK : P.K.In h := P.KX.keeps bs.top
  have hlen := rs.length
  have hnm : (names.zip vs).map (·.1) = names := by rw [List.map_fst_zip]; omega
  refine call_cellsB (fd := fnOf name qual params body scope dV kV doc pm an cdv ct) (body := body) ok.room (hK _ _ ho) rfl (P.nolimit.keeps bs.top) (codeRec_of hK hcd) rfl (hbind _ vs hK hlen) rfl (fun x hx => ?_) (fun s₁ IC => ?_) hco hgen hk
  · have hx' : x.1 ∈ names := hnm ▸ List.mem_map_of_mem hx
    have := List.all_eq_true.mp hl x.1 hx'
    simp only [Bool.or_eq_true, beq_iff_eq] at this
    rcases this with e | e
    · exact .inl e
    · exact .inr ⟨e, cells_look _ _ _ _ (.inr e)⟩
  · obtain ⟨h1, tk1, rfl, hke⟩ := IC.done
    generalize hen : callEnvC (fnOf name qual params body scope dV kV doc pm an cdv ct) _ f = env at IC ⊢
    have e1 : env.scope = scope := by rw [← hen]; rfl
    have e2 : env.locals = h.objs.size := by rw [← hen]; rfl
    have e3 : env.cells = cellsFrom (h.objs.size + 1) scope.names [] := by rw [← hen]; rfl
    have dead : ∀ b, Vz env b → h.get? b = none := fun b v => by
      have : h.objs.size ≤ b := by
        rcases v with rfl | ⟨x, l⟩
        · exact Nat.le_of_eq e2.symm
        · have := IC.above x b (mem_of_lookup l); rw [e2] at this; exact Nat.le_of_lt this
      cases g : h.get? b with
      | none => rfl
      | some o => exact absurd (Heap.lt_size g) (Nat.not_lt.mpr this)
    let B : Bd ⟨scope, true, n⟩ := {
      P := P, X0 := X, ext := Am mo, env := env, h₀ := h, A := A.deeper env, ok := ok.deeper, es := e1
      eg := by rw [← hen]; rfl
      eb := by rw [← hen]; rfl
      ek := hk
      base := bs
      extX := fun b x => by obtain ⟨p, hp, rfl⟩ := List.mem_map.mp x; exact (hmo p hp).1
      vz := fun b v => .inr (dead b v)
      lo := dead _ (.inl rfl)
      fd := fun _ => dead }
    have ke : Ke h h1 := hke
    have xx : ∀ b o, h.get? b = some o → XX B mo b → X b := fun b o g t => by
      rcases t with t | t | t
      · exact t
      · rw [dead b t] at g; cases g
      · obtain ⟨p, hp, rfl⟩ := List.mem_map.mp t; exact (hmo p hp).1
    have hcell : ∀ x, B.env.kindOf x = some .cell → ∃ c, B.env.cells.lookup x = some c := fun x hk => by
      rw [show B.env.cells = _ from e3]
      exact Option.isSome_iff_exists.mp (cells_look _ _ _ _ (.inr (by unfold Env.kindOf at hk; rwa [show B.env.scope = scope from e1] at hk)))
    have s0 : S B (names.zip ds) mo h1 := {
      keep := ke.kp
      vars := by
        refine ⟨fun x => (names.zip vs).lookup x, ⟨⟨_, IC.toInCall.ns, fun x v hk e => bindL_look (by rw [hnm]; exact hnd) hk e⟩, fun x v hk e => ?_, fun x c l => ⟨_, IC.cell x c l⟩, hcell, fun x y c l l' => name_of_addr IC.apart (mem_of_lookup l) (mem_of_lookup l'), fun x c l => Nat.ne_of_gt (IC.above x c (mem_of_lookup l))⟩, fun x d e => ?_⟩
        · obtain ⟨c, l⟩ := hcell x hk
          exact ⟨c, l, (bindC_look (kindOf := env.kindOf) (m := fun _ => none) (by rw [hnm]; exact hnd) (by rw [show env.kindOf x = some .cell from hk]; decide) e) ▸ IC.cell x c l⟩
        · obtain ⟨v, a, b⟩ := zip_look rs e
          exact ⟨v, a, (b.ex xx).ke ke⟩
      mos := fun p hp => ⟨((hmo p hp).2.ex xx).ke ke, .inl (List.mem_map_of_mem hp), fun v => by
        obtain ⟨o, g⟩ := (hmo p hp).2.get
        rw [dead _ v] at g; cases g⟩
      nd := nd }
    refine (hb B rfl rfl h1 s0).to fun fl h2 tk2 ⟨_, k2, m2, z2⟩ => ?_
    exact hq _ _ _ ⟨k2, m2, he, z2⟩

theorem ctr_make {P : Pm} {n : Nat} {C fI : Addr} {ds es : List D} {ks : List Str} (hm : makesIn P.K C = true) (hi : findIn P.K (.ref C) "__init__" = some (some (.ref fI))) (hf : typeIn P.K (.ref fI) = some (.type "function"))
    (c : ∀ dx, CtrC P n (.ref fI) (.obj C dx :: ds) [(dx, .flds [] [])] (.d .none) [(dx, .flds ks es)]) : Ctr P (n + 1) (.ref C) ds [] (.o C ks es) [] := by
  intro A X h vs ok bs rs _ _
  refine .of fun tk Q hq => wpAny_call ?_
  have hK : P.K.In h := P.KX.keeps bs.top
  refine make_core (makes_of hK hm) (looks_findIn hK hi) (fun self => bind_fn hK self hf) (.inl rfl) ?_
  have ke1 := Ke.push h emptyDict
  have ke : Ke h ((h.push emptyDict).push (instObj C h.objs.size)) := ke1.trans (Ke.push _ _)
  have n1 := size_none h
  have n2 : h.get? (h.objs.size + 1) = none := by
    cases e : h.get? (h.objs.size + 1) with
    | none => rfl
    | some o => exact absurd (Heap.lt_size e) (Nat.not_lt.mpr (Nat.le_succ _))
  have g1 : ((h.push emptyDict).push (instObj C h.objs.size)).get? h.objs.size = some emptyDict := Heap.get?_push_of_some _ (Heap.get?_push_size _ rfl)
  have g2 : ((h.push emptyDict).push (instObj C h.objs.size)).get? (h.objs.size + 1) = some (instObj C h.objs.size) := by
    have := Heap.get?_push_size (h.push emptyDict) (o := instObj C h.objs.size) rfl
    rwa [Heap.size_push] at this
  have xt : ∀ b, (X b ∨ b = h.objs.size) → P.hT.get? b = none := by
    rintro b (t | t)
    · exact bs.xt b t
    · cases e : P.hT.get? b with
      | none => rfl
      | some o => have := bs.top b o e; rw [t, n1] at this; cases this
  have xa : ∀ b, (X b ∨ b = h.objs.size) → ∃ o, ((h.push emptyDict).push (instObj C h.objs.size)).get? b = some o := by
    rintro b (t | t)
    · obtain ⟨o, e⟩ := bs.xa b t; exact ⟨o, ke b o e⟩
    · rw [t]; exact ⟨_, g1⟩
  have bs2 : Base P (fun b => X b ∨ b = h.objs.size) ((h.push emptyDict).push (instObj C h.objs.size)) := ⟨bs.top.trans ke, xt, xa⟩
  have nx : ¬ (X (h.objs.size + 1) ∨ h.objs.size + 1 = h.objs.size) := fun t => t.elim (bs.new n2) (Nat.succ_ne_self _)
  refine c h.objs.size (A.under (.builtin "type.__call__" ⟨.ref C :: vs, []⟩)) (fun b => X b ∨ b = h.objs.size) _ (.ref (h.objs.size + 1) :: vs) _ _ ?_ bs2 ?_ ?_ (by simp) ?_
  · obtain ⟨o1, o2, o3⟩ := ok
    exact ⟨o1, by show A.depth + 1 + n < 1000; omega, by show A.units + 1 + 10 * n < 9800; omega⟩
  · rw [reps_cons]
    refine ⟨?_, (rs.also n1).ke ke⟩
    simp only [Rep]
    exact ⟨_, rfl, nx, g2⟩
  · intro p hp
    rw [List.mem_singleton] at hp; subst hp
    refine ⟨.inr rfl, #[].toList, 0, [], ?_, trivial, by simp only [Reps]⟩
    exact g1
  · rintro v h' tk' ⟨k, m, _, r⟩
    have r' : v = .none := by
      have : Rep P (fun b => X b ∨ b = h.objs.size) h' v .none := r
      rwa [rep_none] at this
    refine ⟨r', ?_⟩
    refine hq _ _ _ ⟨fun b o e => ?_, (fun p hp => nomatch hp), rfl, h.objs.size + 1, h.objs.size, rfl, Nat.succ_ne_self _, n2, n1, ?_, fun p hp => ?_⟩
    · have nb : b ≠ h.objs.size := by intro q; rw [q, n1] at e; cases e
      have := (k b o (ke b o e)).1 (by simpa [Am] using nb)
      exact ⟨fun _ => this, o, this⟩
    · exact (k _ _ g2).1 (by simp [Am])
    · exact m p hp
section
inductive Sub (md : Md) : Md → Prop
  | nil : Sub md []
  | cons {k d r} : md.lookup k = some d → Sub md r → Sub md ((k, d) :: r)
theorem Sub.get {md md' : Md} (s : Sub md md') : ∀ x d, md'.lookup x = some d → md.lookup x = some d := by
  induction s with
  | nil => intro x d h; cases h
  | @cons k d r e _ ih =>
    intro x d' h
    rw [List.lookup_cons] at h
    by_cases q : x = k
    · subst q; simp only [beq_self_eq_true, Option.some.injEq] at h; subst h; exact e
    · rw [show (x == k) = false from beq_eq_false_iff_ne.mpr q] at h; exact ih x d' h
variable {sc : Sc} {B : Bd sc} {md md' : Md} {mo mo' mo1 mo2 mo3 : MoL}
theorem ex_ends (s : Sub md md') : Ex B md mo [] (Nx B md' mo) := ex_nil fun h x => ⟨rfl, x.sub s.get⟩
end
section
variable {sc : Sc} {B : Bd sc}
theorem ForR.run {x : Str} {body : List Stmt} {α σ : Type} (f : α → D) (step : σ → α → σ) (m : σ → Md) (o : σ → MoL) (Inv : σ → List α → Prop)
    (hs : ∀ s a l, Inv s (a :: l) → Inv (step s a) l ∧ (∀ I ob, Ex B ((x, f a) :: m s) ((I, .obj ob) :: o s) body (Nx B (m (step s a)) ((I, .obj ob) :: o (step s a)))) ∧ (o (step s a)).map (·.1) = (o s).map (·.1)) :
    ∀ l s, Inv s l → ForR B x body (m s) (o s) (l.map f) (m (l.foldl step s)) (o (l.foldl step s))
  | [], s, _ => .nil
  | a :: l, s, h => let ⟨h1, h2, h3⟩ := hs s a l h; .cons h2 h3 (ForR.run f step m o Inv hs l _ h1)
end
noncomputable def be (l : List UInt8) : Int := l.foldl (fun (t : Int) c => t * 256 + c.toNat) 0
theorem orByte (t : Int) (c : Nat) (h0 : 0 ≤ t) (hc : c < 256) : Builtin.bitOr (t * 2 ^ (8 : Int).toNat) (c : Int) = t * 256 + c := by
  have h8 : (8 : Int).toNat = 8 := rfl
  rw [h8, PyProof.Rows.bitOr_and]
  have e : Builtin.bitAnd (t * 2 ^ 8) (c : Int) = 0 := by
    unfold Builtin.bitAnd
    have h1 : decide (0 ≤ t * 2 ^ 8) = true := by rw [decide_eq_true_eq]; omega
    have h2 : decide (0 ≤ (c : Int)) = true := by rw [decide_eq_true_eq]; omega
    rw [h1, h2]
    show (((t * 2 ^ 8).toNat &&& (c : Int).toNat : Nat) : Int) = 0
    have h3 : (t * 2 ^ 8).toNat = t.toNat * 2 ^ 8 := by omega
    have h4 : (c : Int).toNat = c := by omega
    rw [h3, h4]
    have : (t.toNat * 2 ^ 8) &&& c = 0 := by
      apply Nat.eq_of_testBit_eq
      intro i
      rw [← Nat.shiftLeft_eq, Nat.testBit_and, Nat.zero_testBit, Nat.testBit_shiftLeft]
      by_cases q : 8 ≤ i
      · rw [Nat.testBit_lt_two_pow (x := c) (i := i) (Nat.lt_of_lt_of_le hc (Nat.pow_le_pow_right (n := 2) (by omega) q))]; simp
      · simp [q]
    rw [this]; rfl
  rw [e]; omega
section
variable {P : Pm} {n : Nat}
theorem be_bound (l : List UInt8) : ∀ (t : Int), 0 ≤ t → 0 ≤ l.foldl (fun (t : Int) c => t * 256 + c.toNat) t ∧ l.foldl (fun (t : Int) c => t * 256 + c.toNat) t < (t + 1) * 256 ^ l.length := by
  induction l with
  | nil => intro t h; simp; omega
  | cons c l ih =>
    intro t h
    have hc : (c.toNat : Int) < 256 := by have := UInt8.toNat_lt c; omega
    obtain ⟨a, b⟩ := ih (t * 256 + c.toNat) (by omega)
    refine ⟨by simpa using a, ?_⟩
    rw [List.foldl_cons]
    refine Int.lt_of_lt_of_le b ?_
    rw [List.length_cons, Int.pow_succ]
    calc (t * 256 + ↑c.toNat + 1) * 256 ^ l.length ≤ ((t + 1) * 256) * 256 ^ l.length := Int.mul_le_mul_of_nonneg_right (by omega) (Int.pow_nonneg (by omega))
      _ = (t + 1) * (256 ^ l.length * 256) := by rw [Int.mul_assoc, Int.mul_comm 256]
theorem be_bys (l : List UInt8) : ∀ t : Int, (bys l).foldl (fun t c => t * 256 + c) t = l.foldl (fun (t : Int) c => t * 256 + c.toNat) t := by
  induction l with
  | nil => intro t; rfl
  | cons c l ih => intro t; exact ih _
theorem bys_range (l : List UInt8) : ∀ c ∈ bys l, 0 ≤ c ∧ c < 256 := by
  intro c hc
  unfold bys at hc
  obtain ⟨b, _, rfl⟩ := List.mem_map.mp hc
  have := UInt8.toNat_lt b
  omega
theorem bys_len (l : List UInt8) : (bys l).length = l.length := by simp [bys]
theorem cut_len {α : Type} (l : List α) {lo hi : Int} (h0 : 0 ≤ lo) (h1 : lo ≤ hi) (h2 : hi ≤ l.length) : (cut l (some lo) (some hi)).length = (hi - lo).toNat := by
  unfold cut
  simp only [Option.elim, List.length_take, List.length_drop]
  rw [PyProof.Rows.clipAt_in h0 (by omega), PyProof.Rows.clipAt_in (by omega) h2]
  omega
theorem c_number_at {data : List UInt8} {at' count : Int} (h0 : 0 ≤ at') (hc0 : 0 ≤ count) (hc : count ≤ 4) (h1 : at' + count ≤ data.length) (hz : data.length ≤ 1000000) :
    Ctr P (n + 2) (.ref 89) [.bytes data, .int at', .int count] [] (.d (.int (be (cut data (some at') (some (at' + count)))))) [] := by
  rw [show be (cut data (some at') (some (at' + count))) = _ from (be_bys _ 0).symm]
  refine ctr_def (names := ["data", "at", "count"]) (ho := rfl) (hcd := rfl) (hbind := ?_) rfl ?_ rfl rfl ?_
  · intro vs hv
    rcases vs with _ | ⟨a, _ | ⟨b, _ | ⟨c, _ | ⟨_, _⟩⟩⟩⟩ <;> first | rfl | (simp at hv)
  · decide +kernel
  intro B hB hx
  subst hB
  refine ex_expr (ev_call (ev_gref rfl rfl rfl) (cw_K rfl) rfl (evs_cons (ev_name rfl rfl rfl) (evs_cons (ev_name rfl rfl rfl) (evs_cons (ev_name rfl rfl rfl) evs_nil))) (c_check_room h0 h1 hz) (Nat.le_refl _) .nil) ?_
  refine ex_assign ev_int rfl ?_
  refine ex_for (ev_slice (ev_name rfl rfl rfl) (evo_some (ev_name rfl rfl rfl)) (evo_some (ev_bin (ev_name rfl rfl rfl) (ev_name rfl rfl rfl) o_add)) (gs_bytes (by omega))) src_bytes (ForR.run D.int (fun (t : Int) c => t * 256 + c) (fun t => [("total", .int t), ("data", .bytes data), ("at", .int at'), ("count", .int count)]) (fun _ => [])
    (fun t l => 0 ≤ t ∧ (∀ c ∈ l, 0 ≤ c ∧ c < 256) ∧ ∃ k : Nat, k + l.length ≤ 4 ∧ t < 256 ^ k) ?_ _ 0 ?_) rfl (ex_retd (ev_name rfl rfl rfl) fun p hp => nomatch hp)
  · rintro t c l ⟨ht, hl, k, hk, hb⟩
    have hc := hl c (.head _)
    have h4 : (256 : Int) ^ (k + 1) = 256 ^ k * 256 := Int.pow_succ _ _
    have hk3 : k ≤ 3 := by simp at hk; omega
    have hb' : t < 256 ^ 3 := by
      have : k = 0 ∨ k = 1 ∨ k = 2 ∨ k = 3 := by omega
      rcases this with rfl | rfl | rfl | rfl <;> simp at hb ⊢ <;> omega
    simp at hb'
    refine ⟨⟨by omega, fun c hc => hl c (.tail _ hc), k + 1, by simp at hk; omega, by omega⟩, fun I o => ?_, rfl⟩
    show Ex _ _ _ _ (Nx B (("total", .int (t * 256 + c)) :: _) _)
    rw [show t * 256 + c = Builtin.bitOr (t * 2 ^ (8 : Int).toNat) c from by
      have := orByte t c.toNat ht (by omega)
      rw [Int.toNat_of_nonneg hc.1] at this; exact this.symm]
    exact ex_assign (ev_bin (ev_bin (ev_name rfl rfl rfl) ev_int (o_shl (by omega) (by omega) (by omega))) (ev_name rfl rfl rfl) o_or) rfl (ex_ends (.cons rfl (.cons rfl (.cons rfl (.cons rfl .nil)))))
  · refine ⟨by omega, bys_range _, 0, ?_, by simp⟩
    rw [bys_len, cut_len _ h0 (by omega) h1]; omega
end

end Mine

end
section
open PySem PySem.W PySem.Calls PyProof.Rows
set_option maxRecDepth 100000
namespace Mine
section
variable {P : Pm}
theorem kp_same {h h' : Heap} {a : Addr} {m : MO} (s : Heap.SameBut a h h') (al : ∃ o, h'.get? a = some o) : Kp (Am [(a, m)]) h h' := fun b o e => by
  refine ⟨fun n => s.extBut b o (by simpa [Am] using n) e, ?_⟩
  by_cases q : b = a
  · rw [q]; exact al
  · exact ⟨o, s.extBut b o q e⟩
theorem c_append {a : Addr} {ds : List D} {d : D} (hz : ds.length ≤ 1000000) : Ctr P 0 (.builtin "list.append") [.raw (.ref a), d] [(a, .lst ds)] (.d .none) [(a, .lst (ds ++ [d]))] := fun A X h vs ok bs rs hm nd => by
  obtain ⟨v, u, rfl, r1, r2⟩ := reps2 rs
  rw [rep_raw] at r1; subst r1
  obtain ⟨xa, us, q1, q2⟩ := hm _ (.head _)
  refine .of fun tk Q hq => wpAny_list_append_plain q1 (fun h' hl hs => ?_) (by rw [List.size_toArray, q2.length, sizeLine_eq]; omega)
  have al : ∃ o, h'.get? a = some o := let ⟨n, e⟩ := hl; ⟨_, e⟩
  have k := kp_same (m := .lst ds) hs al
  have kx : ∀ b, Am [(a, MO.lst ds)] b → X b := fun b t => by simp [Am] at t; rw [t]; exact xa
  refine hq _ _ _ ⟨k, fun p hp => ?_, rfl, by rw [show RzAt _ _ _ _ _ _ (.d .none) = Rep _ _ _ _ _ from rfl, rep_none]⟩
  rw [List.mem_singleton] at hp; subst hp
  exact ⟨us ++ [u], by rwa [List.push_toArray] at hl, (q2.kp k kx).append (Reps.one (r2.kp k kx))⟩
theorem c_extend {a : Addr} {ds es : List D} (hz : ds.length + es.length ≤ 1000000) : Ctr P 0 (.builtin "list.extend") [.raw (.ref a), .list es] [(a, .lst ds)] (.d .none) [(a, .lst (ds ++ es))] := fun A X h vs ok bs rs hm nd => by
  obtain ⟨v, u, rfl, r1, r2⟩ := reps2 rs
  rw [rep_raw] at r1; subst r1
  rw [rep_list] at r2
  obtain ⟨xa, us, ⟨n, q1⟩, q2⟩ := hm _ (.head _)
  obtain ⟨b, ws, rfl, xb, ⟨m, q3⟩, q4⟩ := r2
  have l1 := q2.length
  have l2 := q4.length
  refine .of fun tk Q hq => call_meets PySem.F.slot_list_extend ⟨_, q1, rfl⟩ PySem.F.entry_list_extend (PySem.F.args_list_extend_2 _ _) (PySem.AutoSeq1.list_extend_list_list_0 a us.toArray n b ws.toArray m ?_ ?_ ?_) ⟨q1, q3, ?_⟩
  · have : Builtin.List.listTooLong (us.toArray.size + ws.toArray.size) = false := by
      unfold Builtin.List.listTooLong
      rw [List.size_toArray, List.size_toArray]
      first | (simp; omega) | (simp [sizeLine_eq]; omega)
    rw [this]; simp
  · rw [List.size_toArray, sizeLine_eq]; omega
  · rw [List.size_toArray, List.size_toArray, sizeLine_eq]; omega
  · have hs := Heap.SameBut.update h a (Obj.mapSeq fun x => x ++ ws.toArray)
    have e : (h.update a (Obj.mapSeq fun x => x ++ ws.toArray)).get? a = some { cls := .type "list", dict := none, data := .seq (us.toArray ++ ws.toArray) (if (us.toArray ++ ws.toArray).size == us.toArray.size then n else n + 1), slots := #[] } := Heap.get?_update_self _ q1 rfl
    have k := kp_same (m := .lst ds) hs ⟨_, e⟩
    have kx : ∀ b, Am [(a, MO.lst ds)] b → X b := fun b t => by simp [Am] at t; rw [t]; exact xa
    refine hq _ _ _ ⟨k, fun p hp => ?_, rfl, by rw [show RzAt _ _ _ _ _ _ (.d .none) = Rep _ _ _ _ _ from rfl, rep_none]⟩
    rw [List.mem_singleton] at hp; subst hp
    exact ⟨us ++ ws, ⟨_, by rw [← List.append_toArray]; exact e⟩, (q2.kp k kx).append (q4.kp k kx)⟩
theorem Reps.eraseIdx {X : Addr → Prop} {h : Heap} : ∀ {vs : List Value} {ds : List D}, Reps P X h vs ds → ∀ i, Reps P X h (vs.eraseIdx i) (ds.eraseIdx i)
  | [], [], r, i => by simpa using r
  | _ :: _, _ :: _, r, 0 => by rw [reps_cons] at r; exact r.2
  | _ :: _, _ :: _, r, i + 1 => by rw [reps_cons] at r; rw [List.eraseIdx_cons_succ, List.eraseIdx_cons_succ, reps_cons]; exact ⟨r.1, Reps.eraseIdx r.2 i⟩
  | [], _ :: _, r, _ => by simp only [Reps] at r
  | _ :: _, [], r, _ => by simp only [Reps] at r
theorem c_pop {a : Addr} {ds : List D} {i : Int} {d : D} (h0 : 0 ≤ i) (hd : ds[i.toNat]? = some d) (hz : ds.length ≤ 1000000) : Ctr P 0 (.builtin "list.pop") [.raw (.ref a), .int i] [(a, .lst ds)] (.d d) [(a, .lst (ds.eraseIdx i.toNat))] := fun A X h vs ok bs rs hm nd => by
  obtain ⟨v, u, rfl, r1, r2⟩ := reps2 rs
  rw [rep_raw] at r1; subst r1
  rw [rep_int] at r2; obtain ⟨t, rfl⟩ := r2
  obtain ⟨xa, us, ⟨n, q1⟩, q2⟩ := hm _ (.head _)
  have l1 := q2.length
  have hi := (List.getElem?_eq_some_iff.mp hd).1
  obtain ⟨y, hy, ry⟩ := q2.at' hd
  refine .of fun tk Q hq => call_meets PySem.F.slot_list_pop ⟨_, q1, rfl⟩ PySem.F.entry_list_pop (PySem.F.args_list_pop_2 _ _) (PySem.MeetsSeq.list_pop_at a us.toArray n i t i.toNat y ?_ ?_ ?_ ?_) ⟨q1, ?_⟩
  · unfold Builtin.List.listFitsIndex; simp; omega
  · unfold seqIndex?
    rw [List.size_toArray]
    simp
    omega
  · simpa using hy
  · rw [List.size_toArray, sizeLine_eq]; omega
  · have hs := Heap.SameBut.update h a (Obj.mapSeq fun xs => xs.eraseIdxIfInBounds i.toNat)
    have e : (h.update a (Obj.mapSeq fun xs => xs.eraseIdxIfInBounds i.toNat)).get? a = some { cls := .type "list", dict := none, data := .seq (us.toArray.eraseIdxIfInBounds i.toNat) (if (us.toArray.eraseIdxIfInBounds i.toNat).size == us.toArray.size then n else n + 1), slots := #[] } := Heap.get?_update_self _ q1 rfl
    have k := kp_same (m := .lst ds) hs ⟨_, e⟩
    have kx : ∀ b, Am [(a, MO.lst ds)] b → X b := fun b t => by simp [Am] at t; rw [t]; exact xa
    refine hq _ _ _ ⟨k, fun p hp => ?_, rfl, ry.kp k kx⟩
    rw [List.mem_singleton] at hp; subst hp
    refine ⟨us.eraseIdx i.toNat, ⟨(if (us.toArray.eraseIdxIfInBounds i.toNat).size == us.toArray.size then n else n + 1), ?_⟩, (q2.kp k kx).eraseIdx _⟩
    have ee : us.toArray.eraseIdxIfInBounds i.toNat = (us.eraseIdx i.toNat).toArray := by
      unfold Array.eraseIdxIfInBounds
      rw [dif_pos (by rw [List.size_toArray]; omega)]
      simp
    rw [e, ee]
theorem strs_of {X : Addr → Prop} {h : Heap} : ∀ {vs : List Value} {ns : List Str}, Reps P X h vs (ns.map .str) → StrsAre vs ns
  | [], [], _ => .nil
  | v :: vs, n :: ns, r => by
    rw [List.map_cons, reps_cons, rep_str] at r
    obtain ⟨⟨t, rfl⟩, r⟩ := r
    exact .cons n t (strs_of r)
  | [], _ :: _, r => by simp only [List.map_cons, Reps] at r
  | _ :: _, [], r => by simp only [List.map_nil, Reps] at r
theorem c_join {x : Str} {ys : List Str} (hok : (ys.map (·.length)).sum + ys.length * x.length ≤ 16777216) : Pc P (.builtin "str.join") [.str x, .list (ys.map .str)] (.str (Txt.join x ys)) := fun A X h vs ok bs rs => by
  obtain ⟨v, u, rfl, r1, r2⟩ := reps2 rs
  rw [rep_str] at r1; obtain ⟨t, rfl⟩ := r1
  rw [rep_list] at r2; obtain ⟨a, us, rfl, xa, q1, q2⟩ := r2
  exact .of fun tk Q hq => PyProof.Rows.join_list q1.isList (strs_of q2) hok fun t' k => hq _ _ _ ⟨.refl h, by rw [rep_str]; exact ⟨_, rfl⟩⟩
end
section
variable {sc : Sc} {B : Bd sc} {md : Md} {mo : MoL}
theorem lst_typ {a : Addr} {ds : List D} (hm : (a, .lst ds) ∈ mo) : ∀ h v, S B md mo h → Rep B.P (XX B mo) h v (.raw (.ref a)) → ∀ tk, ({ B.P.σ with heap := h, toks := tk } : Shared).TypeIs v "list" ∧ ∀ a, v = .ref a → ∃ o, h.get? a = some o ∧ o.dict = none := fun h v s r tk => by
  rw [rep_raw] at r; subst r
  obtain ⟨us, ⟨n, e⟩, _⟩ := (s.mos _ hm).1
  exact ⟨⟨_, e, rfl⟩, fun b eb => by cases eb; exact ⟨_, e, rfl⟩⟩
theorem hm_append {a : Addr} {ds : List D} (hm : (a, .lst ds) ∈ mo) : Hm B md mo (.raw (.ref a)) "append" (.builtin "list.append") := hm_builtin PySem.F.plainAttrs_list PySem.F.slot_list_append PySem.F.type_list_append (lst_typ hm)
theorem hm_extend {a : Addr} {ds : List D} (hm : (a, .lst ds) ∈ mo) : Hm B md mo (.raw (.ref a)) "extend" (.builtin "list.extend") := hm_builtin PySem.F.plainAttrs_list PySem.F.slot_list_extend PySem.F.type_list_extend (lst_typ hm)
theorem hm_pop {a : Addr} {ds : List D} (hm : (a, .lst ds) ∈ mo) : Hm B md mo (.raw (.ref a)) "pop" (.builtin "list.pop") := hm_builtin PySem.F.plainAttrs_list PySem.F.slot_list_pop PySem.F.type_list_pop (lst_typ hm)
theorem hm_join {x : Str} : Hm B md mo (.str x) "join" (.builtin "str.join") := hm_builtin PySem.F.plainAttrs_str PySem.F.slot_str_join PySem.F.type_str_join fun h v s r tk => by
  rw [rep_str] at r; obtain ⟨t, rfl⟩ := r
  exact ⟨typeIs_str _ _ _, fun b eb => by cases eb⟩
end

end Mine

end
section
open PySem PySem.W PySem.Calls PyProof.Rows
set_option maxRecDepth 100000
namespace Mine
theorem bits_lt {m : Nat} {x : Int} (h : x.natAbs < 2 ^ m) : Builtin.Int.intBits x ≤ m := by
  unfold Builtin.Int.intBits
  by_cases h0 : x = 0
  · subst h0; simp
  · rw [show (x == 0) = false from by simpa using h0]
    have := (Nat.log2_lt (n := x.natAbs) (k := m) (by omega)).mpr h
    simp only [Bool.false_eq_true, if_false]
    omega
theorem mulL {a b : Int} (h : a.natAbs < 2 ^ 64) : IntMulOk a b := IntMulOk.of_left (bits_lt h)
theorem mulR {a b : Int} (h : b.natAbs < 2 ^ 64) : IntMulOk a b := IntMulOk.of_right (bits_lt h)
section
variable {P : Pm} {n : Nat}
noncomputable def rd (data : List UInt8) (at' count : Int) : Int := be (cut data (some at') (some (at' + count)))
noncomputable abbrev oiK : List Str := ["data", "at"]
theorem c_oi_init {data : List UInt8} {at' : Int} {dx : Addr} : CtrC P (n + 1) (.ref 111) [.obj 180 dx, .bytes data, .int at'] [(dx, .flds [] [])] (.d .none) [(dx, .flds oiK [.bytes data, .int at'])] := by
  refine cod_def (names := ["self", "data", "at"]) (ho := rfl) (hcd := rfl) (hbind := ?_) rfl ?_ rfl rfl ?_
  · intro s vs X hv
    rcases vs with _ | ⟨a, _ | ⟨b, _ | ⟨c, _ | ⟨_, _⟩⟩⟩⟩ <;> first | (exfalso; simp at hv; done) | exact kp_binds X (fun S => by kernel_rfl) | (simp at hv)
  · decide +kernel
  intro B hB hx
  subst hB
  refine ex_setattr (ev_name rfl rfl rfl) (ev_name rfl rfl rfl) .here (by kernel_rfl) (by kernel_rfl) (by kernel_rfl) (by kernel_rfl) (by decide) ?_
  refine ex_setattr (ev_name rfl rfl rfl) (ev_name rfl rfl rfl) .here (by kernel_rfl) (by kernel_rfl) (by kernel_rfl) (by kernel_rfl) (by decide) ?_
  exact ex_none fun p hp => hp
theorem c_oi {data : List UInt8} {at' : Int} : Ctr P (n + 2) (.ref 180) [.bytes data, .int at'] [] (.o 180 oiK [.bytes data, .int at']) [] :=
  ctr_make (by kernel_rfl) (by kernel_rfl) (by kernel_rfl) fun dx => c_oi_init
theorem c_oi_need {data : List UInt8} {at' count : Int} {dx : Addr} (h0 : 0 ≤ at') (h1 : at' + count ≤ data.length) (hz : data.length ≤ 1000000) :
    Ctr P (n + 2) (.ref 118) [.obj 180 dx, .int count] [(dx, .flds oiK [.bytes data, .int at'])] (.d .none) [(dx, .flds oiK [.bytes data, .int at'])] := by
  refine ctr_def (names := ["self", "count"]) (ho := rfl) (hcd := rfl) (hbind := ?_) rfl ?_ rfl rfl ?_
  · intro vs hv
    rcases vs with _ | ⟨a, _ | ⟨b, _ | ⟨_, _⟩⟩⟩ <;> first | rfl | (simp at hv)
  · decide +kernel
  intro B hB hx
  subst hB
  exact ex_expr (ev_call (ev_gref rfl rfl rfl) (cw_K rfl) rfl (evs_cons (ev_attr (attr := none) (ev_name rfl rfl rfl) (.obj (.head _)) rfl rfl (by kernel_rfl) (by kernel_rfl) (by kernel_rfl) (by kernel_rfl)) (evs_cons (ev_attr (attr := none) (ev_name rfl rfl rfl) (.obj (.head _)) rfl rfl (by kernel_rfl) (by kernel_rfl) (by kernel_rfl) (by kernel_rfl)) (evs_cons (ev_name rfl rfl rfl) evs_nil))) (c_check_room h0 h1 hz) (Nat.le_refl _) .nil) (ex_none fun p hp => hp)
theorem c_oi_number {data : List UInt8} {at' count : Int} {dx : Addr} (h0 : 0 ≤ at') (hc0 : 0 ≤ count) (hc : count ≤ 4) (h1 : at' + count ≤ data.length) (hz : data.length ≤ 1000000) :
    Ctr P (n + 3) (.ref 125) [.obj 180 dx, .int count] [(dx, .flds oiK [.bytes data, .int at'])] (.d (.int (rd data at' count))) [(dx, .flds oiK [.bytes data, .int (at' + count)])] := by
  refine ctr_def (names := ["self", "count"]) (ho := rfl) (hcd := rfl) (hbind := ?_) rfl ?_ rfl rfl ?_
  · intro vs hv
    rcases vs with _ | ⟨a, _ | ⟨b, _ | ⟨_, _⟩⟩⟩ <;> first | rfl | (simp at hv)
  · decide +kernel
  intro B hB hx
  subst hB
  refine ex_assign (ev_call (ev_gref rfl rfl rfl) (cw_K rfl) rfl (evs_cons (ev_attr (attr := none) (ev_name rfl rfl rfl) (.obj (.head _)) rfl rfl (by kernel_rfl) (by kernel_rfl) (by kernel_rfl) (by kernel_rfl)) (evs_cons (ev_attr (attr := none) (ev_name rfl rfl rfl) (.obj (.head _)) rfl rfl (by kernel_rfl) (by kernel_rfl) (by kernel_rfl) (by kernel_rfl)) (evs_cons (ev_name rfl rfl rfl) evs_nil))) (c_number_at h0 hc0 hc h1 hz) (Nat.le_refl _) .nil) rfl ?_
  refine ex_setattr (ev_bin (ev_attr (attr := none) (ev_name rfl rfl rfl) (.obj (.head _)) rfl rfl (by kernel_rfl) (by kernel_rfl) (by kernel_rfl) (by kernel_rfl)) (ev_name rfl rfl rfl) o_add) (ev_name rfl rfl rfl) .here (by kernel_rfl) (by kernel_rfl) (by kernel_rfl) (by kernel_rfl) (by decide) ?_
  exact ex_retd (ev_name rfl rfl rfl) fun p hp => hp
theorem c_oi_u16 {data : List UInt8} {at' : Int} {dx : Addr} (h0 : 0 ≤ at') (h1 : at' + 2 ≤ data.length) (hz : data.length ≤ 1000000) :
    Ctr P (n + 4) (.ref 139) [.obj 180 dx] [(dx, .flds oiK [.bytes data, .int at'])] (.d (.int (rd data at' 2))) [(dx, .flds oiK [.bytes data, .int (at' + 2)])] := by
  refine ctr_def (names := ["self"]) (ho := rfl) (hcd := rfl) (hbind := ?_) rfl ?_ rfl rfl ?_
  · intro vs hv
    rcases vs with _ | ⟨a, _ | ⟨_, _⟩⟩ <;> first | rfl | (simp at hv)
  · decide +kernel
  intro B hB hx
  subst hB
  exact ex_retd (ev_meth (ev_name rfl rfl rfl) (hm_inst (.obj (.head _)) rfl (by kernel_rfl) (by kernel_rfl) (by kernel_rfl)) (cw_K rfl) rfl (evs_cons ev_int evs_nil) (c_oi_number h0 (by omega) (by omega) h1 hz) (Nat.le_refl _) .here rfl rfl) fun p hp => hp
theorem c_oi_u32 {data : List UInt8} {at' : Int} {dx : Addr} (h0 : 0 ≤ at') (h1 : at' + 4 ≤ data.length) (hz : data.length ≤ 1000000) :
    Ctr P (n + 4) (.ref 160) [.obj 180 dx] [(dx, .flds oiK [.bytes data, .int at'])] (.d (.int (rd data at' 4))) [(dx, .flds oiK [.bytes data, .int (at' + 4)])] := by
  refine ctr_def (names := ["self"]) (ho := rfl) (hcd := rfl) (hbind := ?_) rfl ?_ rfl rfl ?_
  · intro vs hv
    rcases vs with _ | ⟨a, _ | ⟨_, _⟩⟩ <;> first | rfl | (simp at hv)
  · decide +kernel
  intro B hB hx
  subst hB
  exact ex_retd (ev_meth (ev_name rfl rfl rfl) (hm_inst (.obj (.head _)) rfl (by kernel_rfl) (by kernel_rfl) (by kernel_rfl)) (cw_K rfl) rfl (evs_cons ev_int evs_nil) (c_oi_number h0 (by omega) (by omega) h1 hz) (Nat.le_refl _) .here rfl rfl) fun p hp => hp
end
section
variable {sc : Sc} {B : Bd sc} {md : Md} {mo mo' mo1 mo2 : MoL} {rest : List Stmt}
theorem CompR.map {α : Type} {x : Str} {elt : Expr} (f g : α → D) : ∀ (l : List α), (∀ a ∈ l, Ev B ((x, f a) :: md) mo elt (g a) mo) → CompR B md x elt [] mo (l.map f) (l.map g) mo
  | [], _ => .nil
  | a :: l, h => .take ets_nil (h a (.head _)) (CompR.map f g l fun b hb => h b (.tail _ hb))
theorem CompR.filt {α : Type} {x : Str} {elt : Expr} {t : Expr} (f g : α → D) (p : α → Bool) : ∀ (l : List α), (∀ a ∈ l, Et B ((x, f a) :: md) mo t (p a) mo) → (∀ a ∈ l, p a = true → Ev B ((x, f a) :: md) mo elt (g a) mo) → CompR B md x elt [t] mo (l.map f) ((l.filter p).map g) mo
  | [], _, _ => .nil
  | a :: l, h, k => by
    have ih := CompR.filt f g p l (fun b hb => h b (.tail _ hb)) fun b hb => k b (.tail _ hb)
    have ha := h a (.head _)
    rw [List.filter_cons, List.map_cons]
    by_cases q : p a = true
    · rw [if_pos q]; rw [q] at ha; exact .take (ets_one ha) (k a (.head _) q) ih
    · rw [if_neg q]; rw [Bool.not_eq_true] at q; rw [q] at ha; exact .skip (ets_one ha) ih
theorem ex_reto {e : Expr} {pos : Pos} {C : Addr} {ks : List Str} {ds : List D} (v : Eo B md mo e C ks ds mo1) (hm : ∀ p ∈ mo', p ∈ mo1) : Ex B md mo (.Return (some e) pos :: rest) (Ends B mo' (.d (.inst C ks ds))) := ex_cons fun h s => .of fun tk Q hq =>
  wpAny_Return_some ((v h s).to fun u h1 tk1 ⟨g1, a, dx, e, ne, n, n', e', q⟩ => by
    subst e
    have q1 := q _ (.head _)
    obtain ⟨es, m, vs, q2, q3, q4⟩ := q1
    have sx : ∀ {b}, h.get? b = none → ¬ B.X0 b := fun {b} n x => s.new n (.inl x)
    refine hq _ _ _ ⟨g1.kp, g1.s.keep, fun p hp => (g1.s.mos p (hm p hp)).1.ex fun b o _ t => .inl t, ?_⟩
    show Rep _ _ _ _ _
    rw [rep_inst]
    exact ⟨a, dx, es, m, vs, rfl, sx n, sx n', e', q2, q3, q4.ex fun b o _ t => .inl (.inl t)⟩)
end
section
variable {P : Pm} {n : Nat}
noncomputable def chrs (l : List UInt8) : Str := Txt.join "" ((bys l).map fun c => ⟨#[c.toNat]⟩)
theorem chrs_ok (l : List Int) : (((l.map fun (c : Int) => (⟨#[c.toNat]⟩ : Str))).map (·.length)).sum = l.length := by
  induction l with
  | nil => rfl
  | cons a l ih => simp only [List.map_cons, List.sum_cons, List.length_cons, ih]; show 1 + _ = _; omega
theorem c_oi_tag {data : List UInt8} {at' : Int} {dx : Addr} (h0 : 0 ≤ at') (h1 : at' + 4 ≤ data.length) (hz : data.length ≤ 1000000) :
    Ctr P (n + 3) (.ref 165) [.obj 180 dx] [(dx, .flds oiK [.bytes data, .int at'])] (.d (.str (chrs (cut data (some at') (some (at' + 4)))))) [(dx, .flds oiK [.bytes data, .int (at' + 4)])] := by
  refine ctr_def (names := ["self"]) (ho := rfl) (hcd := rfl) (hbind := ?_) rfl ?_ rfl rfl ?_
  · intro vs hv
    rcases vs with _ | ⟨a, _ | ⟨_, _⟩⟩ <;> first | rfl | (simp at hv)
  · decide +kernel
  intro B hB hx
  subst hB
  have hl : (cut data (some at') (some (at' + 4))).length = 4 := by rw [cut_len _ h0 (by omega) h1]; omega
  refine ex_expr (ev_meth (ev_name rfl rfl rfl) (hm_inst (.obj (.head _)) rfl (by kernel_rfl) (by kernel_rfl) (by kernel_rfl)) (cw_K rfl) rfl (evs_cons ev_int evs_nil) (c_oi_need h0 h1 hz) (Nat.le_refl _) .here rfl rfl) ?_
  refine ex_assign (ev_slice (ev_attr (attr := none) (ev_name rfl rfl rfl) (.obj (.head _)) rfl rfl (by kernel_rfl) (by kernel_rfl) (by kernel_rfl) (by kernel_rfl)) (evo_some (ev_attr (attr := none) (ev_name rfl rfl rfl) (.obj (.head _)) rfl rfl (by kernel_rfl) (by kernel_rfl) (by kernel_rfl) (by kernel_rfl))) (evo_some (ev_bin (ev_attr (attr := none) (ev_name rfl rfl rfl) (.obj (.head _)) rfl rfl (by kernel_rfl) (by kernel_rfl) (by kernel_rfl) (by kernel_rfl)) ev_int o_add)) (gs_bytes (by omega))) rfl ?_
  refine ex_setattr (ev_bin (ev_attr (attr := none) (ev_name rfl rfl rfl) (.obj (.head _)) rfl rfl (by kernel_rfl) (by kernel_rfl) (by kernel_rfl) (by kernel_rfl)) ev_int o_add) (ev_name rfl rfl rfl) .here (by kernel_rfl) (by kernel_rfl) (by kernel_rfl) (by kernel_rfl) (by decide) ?_
  refine ex_retd (ev_meth ev_str hm_join cw_b rfl (evs_cons (En.evl (en_comp (ev_name rfl rfl rfl) src_bytes (fun B' => CompR.map D.int (fun c => .str ⟨#[c.toNat]⟩) _ fun c hc =>
    ev_call (ev_builtin rfl rfl (by decide) rfl rfl) cw_b rfl (evs_cons (ev_name rfl rfl rfl) evs_nil) (pc_chr (by have := bys_range _ c hc; omega) (by have := bys_range _ c hc; omega)).ctr (Nat.zero_le _) .nil) rfl rfl (by rw [List.length_map, bys_len, hl]; omega))) evs_nil) ?_ (Nat.zero_le _) .nil rfl rfl) fun p hp => hp
  have := (c_join (P := B.P) (x := "") (ys := (bys (cut data (some at') (some (at' + 4)))).map fun c => ⟨#[c.toNat]⟩) (by rw [chrs_ok, List.length_map, bys_len, hl]; decide)).ctr
  rw [List.map_map] at this
  exact this
theorem c_oi_rows3 {data : List UInt8} {at' : Int} {dx : Addr} (h0 : 0 ≤ at') (h1 : at' + 6 ≤ data.length) (hz : data.length ≤ 1000000) :
    Ctr P (n + 5) (.ref 170) [.obj 180 dx, .int 3] [(dx, .flds oiK [.bytes data, .int at'])] (.d (.list [.int (rd data at' 2), .int (rd data (at' + 2) 2), .int (rd data (at' + 2 + 2) 2)])) [(dx, .flds oiK [.bytes data, .int (at' + 2 + 2 + 2)])] := by
  refine ctr_def (names := ["self", "count"]) (ho := rfl) (hcd := rfl) (hbind := ?_) rfl ?_ rfl rfl ?_
  · intro vs hv
    rcases vs with _ | ⟨a, _ | ⟨b, _ | ⟨_, _⟩⟩⟩ <;> first | rfl | (simp at hv)
  · decide +kernel
  intro B hB hx
  subst hB
  refine ex_expr (ev_meth (ev_name rfl rfl rfl) (hm_inst (.obj (.head _)) rfl (by kernel_rfl) (by kernel_rfl) (by kernel_rfl)) (cw_K rfl) rfl (evs_cons (ev_bin ev_int (ev_name rfl rfl rfl) (o_mul (mulL (by decide)))) evs_nil) (c_oi_need h0 (by omega) hz) (Nat.le_add_left _ _) .here rfl rfl) ?_
  refine ex_retd (En.evl (en_comp (ds := [.int 0, .int 1, .int 2]) (ev_call (ev_builtin rfl rfl (by decide) rfl rfl) cw_t rfl (evs_cons (ev_name rfl rfl rfl) evs_nil) pc_range1.ctr (Nat.zero_le _) .nil) (src_rng rfl) (fun B' =>
    .take ets_nil (ev_meth (ev_name rfl rfl rfl) (hm_inst (.obj (.head _)) rfl (by kernel_rfl) (by kernel_rfl) (by kernel_rfl)) (cw_K rfl) rfl evs_nil (c_oi_u16 h0 (by omega) hz) (Nat.le_refl _) .here rfl rfl)
    (.take ets_nil (ev_meth (ev_name rfl rfl rfl) (hm_inst (.obj (.head _)) rfl (by kernel_rfl) (by kernel_rfl) (by kernel_rfl)) (cw_K rfl) rfl evs_nil (c_oi_u16 (by omega) (by omega) hz) (Nat.le_refl _) .here rfl rfl)
    (.take ets_nil (ev_meth (ev_name rfl rfl rfl) (hm_inst (.obj (.head _)) rfl (by kernel_rfl) (by kernel_rfl) (by kernel_rfl)) (cw_K rfl) rfl evs_nil (c_oi_u16 (by omega) (by omega) hz) (Nat.le_refl _) .here rfl rfl) .nil))) rfl rfl (by decide))) fun p hp => hp
noncomputable abbrev rcK : List Str := ["tag", "total", "begin", "length", "where"]
theorem c_rc_init {tag : Str} {total begin' length where' : Int} {dx : Addr} : CtrC P (n + 1) (.ref 206) [.obj 216 dx, .str tag, .int total, .int begin', .int length, .int where'] [(dx, .flds [] [])] (.d .none) [(dx, .flds rcK [.str tag, .int total, .int begin', .int length, .int where'])] := by
  refine cod_def (names := ["self", "tag", "total", "begin", "length", "where"]) (ho := rfl) (hcd := rfl) (hbind := ?_) rfl ?_ rfl rfl ?_
  · intro s vs X hv
    rcases vs with _ | ⟨a, _ | ⟨b, _ | ⟨c, _ | ⟨d, _ | ⟨e, _ | ⟨f, _ | ⟨_, _⟩⟩⟩⟩⟩⟩⟩ <;> first | (exfalso; simp at hv; done) | exact kp_binds X (fun S => by kernel_rfl) | (simp at hv)
  · decide +kernel
  intro B hB hx
  subst hB
  refine ex_setattr (ev_name rfl rfl rfl) (ev_name rfl rfl rfl) .here (by kernel_rfl) (by kernel_rfl) (by kernel_rfl) (by kernel_rfl) (by decide) ?_
  refine ex_setattr (ev_name rfl rfl rfl) (ev_name rfl rfl rfl) .here (by kernel_rfl) (by kernel_rfl) (by kernel_rfl) (by kernel_rfl) (by decide) ?_
  refine ex_setattr (ev_name rfl rfl rfl) (ev_name rfl rfl rfl) .here (by kernel_rfl) (by kernel_rfl) (by kernel_rfl) (by kernel_rfl) (by decide) ?_
  refine ex_setattr (ev_name rfl rfl rfl) (ev_name rfl rfl rfl) .here (by kernel_rfl) (by kernel_rfl) (by kernel_rfl) (by kernel_rfl) (by decide) ?_
  refine ex_setattr (ev_name rfl rfl rfl) (ev_name rfl rfl rfl) .here (by kernel_rfl) (by kernel_rfl) (by kernel_rfl) (by kernel_rfl) (by decide) ?_
  exact ex_none fun p hp => hp
theorem c_rc {tag : Str} {total begin' length where' : Int} : Ctr P (n + 2) (.ref 216) [.str tag, .int total, .int begin', .int length, .int where'] [] (.o 216 rcK [.str tag, .int total, .int begin', .int length, .int where']) [] :=
  ctr_make (by kernel_rfl) (by kernel_rfl) (by kernel_rfl) fun dx => c_rc_init
structure Rc where
  tag : Str
  total : Int
  begin' : Int
  len : Int
  where' : Int
noncomputable def Rc.d (r : Rc) : D := .inst 216 rcK [.str r.tag, .int r.total, .int r.begin', .int r.len, .int r.where']
noncomputable def Rc.fin (r : Rc) : Int := r.begin' + r.len
theorem c_rc_end {r : Rc} : Ctr P (n + 1) (.ref 213) [r.d] [] (.d (.int r.fin)) [] := by
  unfold Rc.d
  refine ctr_def (names := ["self"]) (ho := rfl) (hcd := rfl) (hbind := ?_) rfl ?_ rfl rfl ?_
  · intro vs hv
    rcases vs with _ | ⟨a, _ | ⟨_, _⟩⟩ <;> first | rfl | (simp at hv)
  · decide +kernel
  intro B hB hx
  subst hB
  exact ex_retd (ev_bin (ev_attr (attr := none) (ev_name rfl rfl rfl) .inst rfl rfl (by kernel_rfl) (by kernel_rfl) (by kernel_rfl) (by kernel_rfl)) (ev_attr (attr := none) (ev_name rfl rfl rfl) .inst rfl rfl (by kernel_rfl) (by kernel_rfl) (by kernel_rfl) (by kernel_rfl)) o_add) fun p hp => hp
theorem c_dirsize {k : Int} : Ctr P (n + 1) (.ref 227) [.int k] [] (.d (.int (12 + 16 * k))) [] := by
  refine ctr_def (names := ["count"]) (ho := rfl) (hcd := rfl) (hbind := ?_) rfl ?_ rfl rfl ?_
  · intro vs hv
    rcases vs with _ | ⟨a, _ | ⟨_, _⟩⟩ <;> first | rfl | (simp at hv)
  · decide +kernel
  intro B hB hx
  subst hB
  exact ex_retd (ev_bin (ev_gint rfl rfl rfl) (ev_bin (ev_gint rfl rfl rfl) (ev_name rfl rfl rfl) (o_mul (mulL (by decide)))) o_add) fun p hp => hp
noncomputable def rcOf (data : List UInt8) (w : Int) : Rc := ⟨chrs (cut data (some w) (some (w + 4))), rd data (w + 4) 4, rd data (w + 4 + 4) 4, rd data (w + 4 + 4 + 4) 4, w⟩
theorem c_read_record {data : List UInt8} {w : Int} (h0 : 0 ≤ w) (h1 : w + 16 ≤ data.length) (hz : data.length ≤ 1000000) :
    Ctr P (n + 5) (.ref 234) [.bytes data, .int w] [] (.d (rcOf data w).d) [] := by
  refine ctr_def (names := ["data", "where"]) (ho := rfl) (hcd := rfl) (hbind := ?_) rfl ?_ rfl rfl ?_
  · intro vs hv
    rcases vs with _ | ⟨a, _ | ⟨b, _ | ⟨_, _⟩⟩⟩ <;> first | rfl | (simp at hv)
  · decide +kernel
  intro B hB hx
  subst hB
  refine ex_obj (eo_call (ev_gref rfl rfl rfl) (cw_K rfl) rfl (evs_cons (ev_name rfl rfl rfl) (evs_cons (ev_name rfl rfl rfl) evs_nil)) c_oi (Nat.le_add_left _ _) .nil) rfl fun dx _ => ?_
  refine ex_assign (ev_meth (ev_name rfl rfl rfl) (hm_inst (.obj (.head _)) rfl (by kernel_rfl) (by kernel_rfl) (by kernel_rfl)) (cw_K rfl) rfl evs_nil (c_oi_tag h0 (by omega) hz) (Nat.le_add_left _ _) .here rfl rfl) rfl ?_
  refine ex_assign (ev_meth (ev_name rfl rfl rfl) (hm_inst (.obj (.head _)) rfl (by kernel_rfl) (by kernel_rfl) (by kernel_rfl)) (cw_K rfl) rfl evs_nil (c_oi_u32 (by omega) (by omega) hz) (Nat.le_refl _) .here rfl rfl) rfl ?_
  refine ex_assign (ev_meth (ev_name rfl rfl rfl) (hm_inst (.obj (.head _)) rfl (by kernel_rfl) (by kernel_rfl) (by kernel_rfl)) (cw_K rfl) rfl evs_nil (c_oi_u32 (by omega) (by omega) hz) (Nat.le_refl _) .here rfl rfl) rfl ?_
  exact ex_reto (eo_call (ev_gref rfl rfl rfl) (cw_K rfl) rfl (evs_cons (ev_name rfl rfl rfl) (evs_cons (ev_name rfl rfl rfl) (evs_cons (ev_name rfl rfl rfl) (evs_cons (ev_meth (ev_name rfl rfl rfl) (hm_inst (.obj (.head _)) rfl (by kernel_rfl) (by kernel_rfl) (by kernel_rfl)) (cw_K rfl) rfl evs_nil (c_oi_u32 (by omega) (by omega) hz) (Nat.le_refl _) .here rfl rfl) (evs_cons (ev_name rfl rfl rfl) evs_nil))))) c_rc (Nat.le_add_left _ _) .nil) fun p hp => nomatch hp
end

end Mine

end
section
open PySem PySem.W PySem.Calls PyProof.Rows
set_option maxRecDepth 100000
namespace Mine
section
theorem bi_no_bytes : typeLookup (.type "int") "__bytes__" = pure none := by rw [typeLookup_type, builtinLookup_eq_fast]; kernel_rfl
theorem bi_index : typeLookup (.type "int") "__index__" = pure (some (.builtin "int.__index__")) := by rw [typeLookup_type, builtinLookup_eq_fast]; kernel_rfl
variable {prog : Program} {w : World} {A : Around} {E : Value → Shared → Prop} {s : Shared}
theorem bi_new {n : Nat} {t : Tok} {Q : Value → Shared → Prop} (hz : n ≤ 1000000)
    (hQ : ∀ t k, Q (.bytes (Array.replicate n 0) t) { s with toks := k }) :
    codeAny (model prog w) A (.call (.builtin "bytes.__new__") ⟨[.type "bytes", .int n t], []⟩) (wants Q E) s := by
  refine codeAny_of_tree ?_
  show wpAny _ A.in1 (do checkBuiltinCall "bytes.__new__" ⟨[.type "bytes", .int n t], []⟩; again (.builtin "bytes.__new__" ⟨[.type "bytes", .int n t], []⟩)) _ _ s
  refine wpAny_bind (wpAny_of_eq (F.bm_newCall _) (wpAny_pure ⟨plainId_quiet F.bm_plain _, codeAny_builtin F.bm_entry ?_⟩))
  rw [Around.under_plainId F.bm_plain _]
  have hT : s.TypeIs (.int n t) "int" := typeIs_int _ _ _
  unfold Builtin.«bytes.__new__»
  with_reducible refine wpAny_bind ?_
  with_reducible refine wpAny_of_eq (a := true) ?_ ?_
  · rfl
  with_reducible refine bm_if_false (c := !true) rfl ?_
  with_reducible refine wpAny_bind ?_
  with_reducible refine wpAny_of_eq (a := true) ?_ ?_
  · exact F.bm_sub
  with_reducible refine bm_if_false (c := !true) rfl ?_
  with_reducible refine wpAny_bind ?_
  with_reducible refine wpAny_of_eq (a := [some (.int n t), none, none]) ?_ ?_
  · exact F.bm_bind _
  dsimp only
  with_reducible refine wpAny_bind ?_
  with_reducible refine wpAny_of_eq (a := ()) ?_ ?_
  · rfl
  with_reducible refine wpAny_bind ?_
  with_reducible refine wpAny_of_eq (a := ()) ?_ ?_
  · rfl
  with_reducible refine bm_if_false (c := Option.isSome _) rfl ?_
  with_reducible refine wpAny_bind ?_
  with_reducible refine wpAny_specialOf hT bi_no_bytes ?_
  dsimp only
  with_reducible refine wpAny_bind ?_
  with_reducible refine wpAny_of_eq (a := false) ?_ ?_
  · rfl
  with_reducible refine bm_if_false (c := false) rfl ?_
  with_reducible refine wpAny_bind ?_
  with_reducible refine wpAny_specialOf hT bi_index ?_
  with_reducible refine bm_if_false (c := Option.isNone _) rfl ?_
  with_reducible refine wpAny_bind ?_
  with_reducible refine wpAny_of_eq (a := .ok (n : Int)) ?_ ?_
  · rfl
  dsimp only
  have hfit : (!Builtin.Bytes.fitsIndex (n : Int)) = false := by unfold Builtin.Bytes.fitsIndex; rw [Bool.not_eq_false', Bool.and_eq_true, decide_eq_true_eq, decide_eq_true_eq]; constructor <;> omega
  have hlong : Builtin.Bytes.tooLong (n : Int).toNat = false := by unfold Builtin.Bytes.tooLong; simp [sizeLine_eq]; omega
  rw [if_neg (by rw [hfit]; decide), if_neg (by omega), if_neg (by omega), if_neg (by rw [hlong]; decide)]
  with_reducible refine wpAny_bind ?_
  with_reducible refine wpAny_rule ?_
  with_reducible refine wpAny_bind ?_
  rw [Int.toNat_natCast]
  refine wpAny_mkBytes ?_ (by simp [sizeLine_eq]; omega)
  show wpAny _ _ (if (Value.type "bytes" == Value.type "bytes") = true then _ else _) _ _ _
  refine bm_if_true (by decide) ?_
  first
    | exact wpAny_pure (hQ _ _)
    | exact wpAny_bind (wpAny_pure (wpAny_pure (hQ _ _)))
theorem call_bytes_int {n : Nat} {t : Tok} {Q : Value → Shared → Prop} (hz : n ≤ 1000000) (hQ : ∀ t k, Q (.bytes (Array.replicate n 0) t) { s with toks := k }) : wpAny (model prog w) A (call (.type "bytes") [.int n t]) Q E s := by
  refine callType_codes (Q₁ := fun obj s₁ => s₁.TypeIs obj "bytes" ∧ Q obj s₁) F.bm_called (F.bm_typeCall _) PySem.F.entry_object_init
    (bi_new hz fun t k => ⟨PySem.W.typeIs_bytes _ _ _, hQ t k⟩) fun obj s₁ h₁ => ?_
  exact ⟨h₁.1, PySem.F.args_object_init_2 obj _, object_init_meets F.bm_called.init.lookup F.bm_called.made (by decide) prog w A.in1 _ s₁ ⟨h₁.1, rfl, h₁.2⟩⟩
end
section
variable {P : Pm} {n : Nat}
theorem c_bytes_int {k : Nat} (hz : k ≤ 1000000) : Pc P (.type "bytes") [.int k] (.bytes (List.replicate k 0)) := fun A X h vs ok bs rs => by
  obtain ⟨v, rfl, r⟩ := reps1 rs
  rw [rep_int] at r; obtain ⟨t, rfl⟩ := r
  exact .of fun tk Q hq => call_bytes_int hz fun t' k' => hq _ _ _ ⟨.refl h, by rw [rep_bytes]; exact ⟨_, by rw [List.toArray_replicate]⟩⟩
noncomputable def byL (ns : List Int) : List UInt8 := ns.map fun n => n.toNat.toUInt8
theorem c_bytes_list {ns : List Int} (hr : ∀ n ∈ ns, 0 ≤ n ∧ n < 256) (hz : ns.length ≤ 1000000) : Pc P (.type "bytes") [.list (ns.map .int)] (.bytes (byL ns)) := fun A X h vs ok bs rs => by
  obtain ⟨v, rfl, r⟩ := reps1 rs
  rw [rep_list] at r; obtain ⟨a, us, rfl, nx, q1, q2⟩ := r
  have hl := q2.length
  exact .of fun tk Q hq => call_bytes_ints q1.isList (ints_of q2) hr (by rw [hl, sizeLine_eq]; simp; omega) ok.1 fun h' t k hk => hq _ _ _ ⟨hk, by rw [rep_bytes]; exact ⟨_, rfl⟩⟩
theorem lstr_bytes_int {k : Int} (h0 : 0 ≤ k) (hz : k ≤ 1000000) : Pc P (.type "bytes") [.int k] (.bytes (List.replicate k.toNat 0)) := by
  have := c_bytes_int (P := P) (k := k.toNat) (by omega)
  rwa [show ((k.toNat : Nat) : Int) = k by omega] at this
theorem lmask {a : Int} : Builtin.bitAnd a 4294967295 = a % 4294967296 := by
  have := kbt_mask a 32
  simpa using this
end

end Mine

end
section
open PySem PySem.W PySem.Calls PyProof.Rows
set_option maxRecDepth 100000
namespace Mine
section
theorem small_of {a b c : Int} (h1 : a.natAbs < 2 ^ 40) (h2 : b.natAbs < 2 ^ 40) (h3 : c = 1 ∨ c = 4 ∨ c = 16 ∨ c = -1) : Builtin.Range.small a b c = true := by
  unfold Builtin.Range.small Builtin.Range.rangeSize
  rcases h3 with rfl | rfl | rfl | rfl
  all_goals
    simp only [Builtin.Range.rangeFitsLong, Bool.and_eq_true, Bool.or_eq_true, decide_eq_true_eq, beq_iff_eq, show ¬ ((-1 : Int) > 0) by decide, show (1 : Int) > 0 by decide, show (4 : Int) > 0 by decide, show (16 : Int) > 0 by decide, show (-(-1) : Int) = 1 from rfl, Int.ediv_one, if_false, if_true]
    split <;> omega
theorem rng1_mem {x y a : Int} (h : a ∈ rng x y 1) : x ≤ a ∧ a < y := by
  unfold rng at h
  obtain ⟨i, hi, rfl⟩ := List.mem_map.mp h
  rw [List.mem_range] at hi
  unfold Builtin.Range.rangeSize at hi
  simp only [show (1 : Int) > 0 from by omega, if_true, Int.ediv_one] at hi
  split at hi <;> omega
theorem o_sge_f {P : Pm} {a b : Str} (h : a.cps.toList < b.cps.toList) : Op2 P (compareOp .GtE) (.str a) (.str b) (.bool false) := by
  have := o_sge (P := P) (a := a) (b := b)
  rwa [decide_eq_true h] at this
end
section
variable {P : Pm} {n : Nat}
noncomputable def pad (l : List UInt8) : List UInt8 := l ++ List.replicate ((-(l.length : Int)).fmod 4).toNat 0
noncomputable def ckn (l : List UInt8) : Int := (rng 0 (pad l).length 4).foldl (fun t a => t + rd (pad l) a 4) 0
noncomputable def ck (l : List UInt8) : Int := ckn l % 4294967296
theorem fm4 (a : Int) : 0 ≤ a.fmod 4 ∧ a.fmod 4 < 4 := ⟨Int.fmod_nonneg_of_pos _ (by omega), Int.fmod_lt_of_pos _ (by omega)⟩
theorem pad_len (l : List UInt8) : (pad l).length % 4 = 0 ∧ (pad l).length ≤ l.length + 3 := by
  unfold pad
  rw [List.length_append, List.length_replicate]
  have h := fm4 (-(l.length : Int))
  have e := Int.fmod_eq_emod_of_nonneg (-(l.length : Int)) (show (0 : Int) ≤ 4 by omega)
  omega
theorem rng4 {m : Nat} (hm : m % 4 = 0) : ∀ a ∈ rng 0 m 4, 0 ≤ a ∧ a + 4 ≤ m := by
  intro a ha
  unfold rng at ha
  obtain ⟨i, hi, rfl⟩ := List.mem_map.mp ha
  rw [List.mem_range] at hi
  unfold Builtin.Range.rangeSize at hi
  rw [if_pos (by omega)] at hi
  split at hi <;> omega
theorem c_checksum {l : List UInt8} (hz : l.length ≤ 100000) : Ctr P (n + 3) (.ref 191) [.bytes l] [] (.d (.int (ck l))) [] := by
  have hf := fm4 (-(l.length : Int))
  have hp := pad_len l
  refine ctr_def (names := ["octets"]) (ho := rfl) (hcd := rfl) (hbind := ?_) rfl ?_ rfl rfl ?_
  · intro vs hv
    rcases vs with _ | ⟨a, _ | ⟨_, _⟩⟩ <;> first | rfl | (simp at hv)
  · decide +kernel
  intro B hB hx
  subst hB
  refine ex_assign (ev_bin (ev_name rfl rfl rfl) (ev_call (ev_builtin rfl rfl (by decide) rfl rfl) cw_t rfl (evs_cons (ev_bin (ev_neg (ev_call (ev_builtin rfl rfl (by decide) rfl rfl) cw_b rfl (evs_cons (ev_name rfl rfl rfl) evs_nil) (pc_len_bytes (by omega)).ctr (Nat.zero_le _) .nil)) ev_int (o_mod (by omega))) evs_nil) (lstr_bytes_int hf.1 (by omega)).ctr (Nat.zero_le _) .nil) (o_badd (by simp; omega))) rfl ?_
  refine ex_assign ev_int rfl ?_
  refine ex_for (ev_call (ev_builtin rfl rfl (by decide) rfl rfl) cw_t rfl (evs_cons ev_int (evs_cons (ev_call (ev_builtin rfl rfl (by decide) rfl rfl) cw_b rfl (evs_cons (ev_name rfl rfl rfl) evs_nil) (pc_len_bytes (b := pad l) (by omega)).ctr (Nat.zero_le _) .nil) (evs_cons ev_int evs_nil))) (pc_range3 (by omega) (by decide)).ctr (Nat.zero_le _) .nil) (src_rng ?_)
    (ForR.run D.int (fun (t : Int) a => t + rd (pad l) a 4) (fun t => [("total", .int t), ("filled", .bytes (pad l)), ("octets", .bytes l)]) (fun _ => []) (fun t as => ∀ a ∈ as, 0 ≤ a ∧ a + 4 ≤ (pad l).length) ?_ _ 0 (rng4 hp.1)) rfl ?_
  · exact small_of (by simp) (by simp; omega) (by simp)
  · intro t a as h
    have ha := h a (.head _)
    exact ⟨fun b hb => h b (.tail _ hb), fun I o => ex_assign (ev_bin (ev_name rfl rfl rfl) (ev_call (ev_gref rfl rfl rfl) (cw_K rfl) rfl (evs_cons (ev_name rfl rfl rfl) (evs_cons (ev_name rfl rfl rfl) (evs_cons ev_int evs_nil))) (c_number_at ha.1 (by omega) (by omega) ha.2 (by omega)) (Nat.le_refl _) .nil) o_add) rfl (ex_ends (.cons rfl (.cons rfl (.cons rfl .nil)))), rfl⟩
  · rw [show ck l = Builtin.bitAnd (ckn l) 4294967295 from lmask.symm]
    exact ex_retd (ev_bin (ev_name rfl rfl rfl) ev_int o_and) (fun p hp => nomatch hp)
noncomputable abbrev lt (a b : Str) : Prop := a.cps.toList < b.cps.toList
noncomputable def ordered : List Rc → Prop
  | a :: b :: r => lt a.tag b.tag ∧ ordered (b :: r)
  | _ => True
theorem ordered_at : ∀ {rs : List Rc} {i : Nat} {a b : Rc}, ordered rs → rs[i]? = some a → rs[i + 1]? = some b → lt a.tag b.tag
  | a :: b :: r, 0, _, _, h, h1, h2 => by simp at h1 h2; subst h1 h2; exact h.1
  | a :: b :: r, i + 1, _, _, h, h1, h2 => ordered_at (i := i) h.2 (by simpa using h1) (by simpa using h2)
  | [], _, _, _, _, h1, _ => by simp at h1
  | [a], 0, _, _, _, _, h2 => by simp at h2
  | [a], i + 1, _, _, _, h1, _ => by simp at h1
theorem rc_at {rs : List Rc} {i : Nat} {r : Rc} (h : rs[i]? = some r) : (rs.map Rc.d)[i]? = some r.d := by rw [List.getElem?_map, h]; rfl
theorem c_need_in_order {rs : List Rc} {size : Int} (ho : ordered rs) (hs : ∀ r ∈ rs, r.fin ≤ size) (hz : rs.length ≤ 1000) :
    Ctr P (n + 2) (.ref 241) [.list (rs.map Rc.d), .int size] [] (.d .none) [] := by
  refine ctr_def (names := ["records", "size"]) (ho := rfl) (hcd := rfl) (hbind := ?_) rfl ?_ rfl rfl ?_
  · intro vs hv
    rcases vs with _ | ⟨a, _ | ⟨b, _ | ⟨_, _⟩⟩⟩ <;> first | rfl | (simp at hv)
  · decide +kernel
  intro B hB hx
  subst hB
  refine ex_for (ev_call (ev_builtin rfl rfl (by decide) rfl rfl) cw_t rfl (evs_cons (ev_call (ev_builtin rfl rfl (by decide) rfl rfl) cw_b rfl (evs_cons (ev_name rfl rfl rfl) evs_nil) (pc_len_list (by simp; omega)).ctr (Nat.zero_le _) .nil) evs_nil) pc_range1.ctr (Nat.zero_le _) .nil) (src_rng ?_)
    (ForR.run (σ := Unit) D.int (fun _ _ => ()) (fun _ => [("records", .list (rs.map Rc.d)), ("size", .int size)]) (fun _ => []) (fun _ as => ∀ a ∈ as, 0 ≤ a ∧ a < rs.length) ?_ _ () ?_) rfl (ex_none (fun p hp => nomatch hp))
  · exact small_of (by simp) (by simp; omega) (by simp)
  · intro _ a as h
    obtain ⟨h0, h1⟩ := h a (.head _)
    obtain ⟨r, hr⟩ : ∃ r, rs[a.toNat]? = some r := ⟨_, List.getElem?_eq_getElem (by omega)⟩
    refine ⟨fun b hb => h b (.tail _ hb), fun I o => ?_, rfl⟩
    refine ex_assign (ev_sub (ev_name rfl rfl rfl) (ev_name rfl rfl rfl) (gi_list h0 (rc_at hr) (by simp; omega)) (fun o i => ⟨_, rfl⟩)) rfl ?_
    refine ex_iff (c := decide (a > 0) && (false && true)) (et_and (et_cmp (ev_name rfl rfl rfl) ev_int o_gt) fun hpos => ?_) (by simp) ?_
    · rw [decide_eq_true_eq] at hpos
      obtain ⟨q, hq⟩ : ∃ q, rs[(a - 1).toNat]? = some q := ⟨_, List.getElem?_eq_getElem (by omega)⟩
      have hlt := ordered_at ho hq (by rw [show (a - 1).toNat + 1 = a.toNat by omega]; exact hr)
      exact et_and (et_cmp (ev_attr (attr := none) (ev_sub (ev_name rfl rfl rfl) (ev_bin (ev_name rfl rfl rfl) ev_int o_sub) (gi_list (by omega) (rc_at hq) (by simp; omega)) (fun o i => ⟨_, rfl⟩)) .inst rfl rfl (by kernel_rfl) (by kernel_rfl) (by kernel_rfl) (by kernel_rfl)) (ev_attr (attr := none) (ev_name (d := r.d) rfl rfl rfl) .inst rfl rfl (by kernel_rfl) (by kernel_rfl) (by kernel_rfl) (by kernel_rfl)) (o_sge_f hlt)) fun _ => et_and_nil
    · exact ex_iff (et_cmp (ev_meth (ev_name rfl rfl rfl) (hm_inst (Fld.inst (C := 216) (ks := rcK)) rfl (by kernel_rfl) (by kernel_rfl) (by kernel_rfl)) (cw_K rfl) rfl evs_nil c_rc_end (Nat.le_add_left _ _) .nil rfl rfl) (ev_name rfl rfl rfl) o_gt)
        (by have := hs r (List.mem_of_getElem? hr); simp; omega) (ex_ends (.cons rfl (.cons rfl .nil)))
  · intro a ha
    have := rng1_mem ha
    simp at this
    exact this
end

end Mine

end
section
open PySem PySem.W PySem.Calls PyProof.Rows
set_option maxRecDepth 100000
namespace Mine
mutual
noncomputable def toD : PyData → D
  | .none => .none
  | .bool b => .bool b
  | .int i => .int i
  | .str s => .str s
  | .list l => .list (toDs l)
  | .tuple l => .tup (toDs l)
  | .dict _ => .none
noncomputable def toDs : List PyData → List D
  | [] => []
  | x :: l => toD x :: toDs l
end
theorem toDs_map : ∀ (l : List PyData), toDs l = l.map toD
  | [] => by simp only [toDs, List.map_nil]
  | x :: l => by simp only [toDs, List.map_cons, toDs_map l]
mutual
theorem toD_reads {P : Pm} {X : Addr → Prop} {h : Heap} : ∀ (p : PyData) {v : Value}, p.canLay0 = true → Rep P X h v (toD p) → ∃ as, Reads h v p as
  | .none, v, _, r => by simp only [toD, Rep] at r; subst r; exact ⟨_, .none⟩
  | .bool b, v, _, r => by simp only [toD, Rep] at r; subst r; exact ⟨_, .bool b⟩
  | .int i, v, _, r => by simp only [toD, Rep] at r; obtain ⟨t, rfl⟩ := r; exact ⟨_, .int i t⟩
  | .str s, v, _, r => by simp only [toD, Rep] at r; obtain ⟨t, rfl⟩ := r; exact ⟨_, .str s t⟩
  | .list l, v, c, r => by
    simp only [toD, Rep] at r
    simp only [PyData.canLay0] at c
    obtain ⟨a, vs, rfl, _, ⟨n, e⟩, rs⟩ := r
    obtain ⟨as, q⟩ := toDs_reads l c rs
    exact ⟨_, .list e rfl rfl q⟩
  | .tuple l, v, c, r => by
    simp only [toD, Rep] at r
    simp only [PyData.canLay0] at c
    obtain ⟨a, vs, rfl, _, ⟨o, e, e1, n, e2⟩, rs⟩ := r
    obtain ⟨as, q⟩ := toDs_reads l c rs
    exact ⟨_, .tuple e e1 e2 q⟩
  | .dict l, v, c, r => by simp only [PyData.canLay0] at c; cases c
theorem toDs_reads {P : Pm} {X : Addr → Prop} {h : Heap} : ∀ (p : List PyData) {vs : List Value}, PyData.canLayAll0 p = true → Reps P X h vs (toDs p) → ∃ as, ReadsAll h vs p as
  | [], [], _, _ => ⟨_, .nil⟩
  | [], _ :: _, _, r => by simp only [toDs, Reps] at r
  | x :: l, [], _, r => by simp only [toDs, Reps] at r
  | x :: l, v :: vs, c, r => by
    simp only [toDs, Reps] at r
    simp only [PyData.canLayAll0, Bool.and_eq_true] at c
    obtain ⟨as, q⟩ := toD_reads x c.1 r.1
    obtain ⟨bs, q'⟩ := toDs_reads l c.2 r.2
    exact ⟨_, .cons q q'⟩
end
section
variable {P : Pm}
theorem OkA.cu {A : Around} (x : OkA 0 A) {k : Nat} (h : k < 90) : A.units + k < cLine := by have := x.2.2; show A.units + k < 9900; omega
theorem o_deq {a b : PyData} (ha : a.canLay0 = true) (hb : b.canLay0 = true) (hd : a.depth < 80) : Op2 P (compareOp .Eq) (toD a) (toD b) (.bool (PyData.eqv a b)) := fun A X h u v ok _ r1 r2 => by
  obtain ⟨_, q1⟩ := toD_reads a ha r1
  obtain ⟨_, q2⟩ := toD_reads b hb r2
  exact .of fun tk Q hq => SeqAt.compareEq_reads q1 q2 ha hb (ok.cu (by omega)) (hq _ _ _ ⟨.refl h, by rw [rep_bool]⟩)
theorem o_dne {a b : PyData} (ha : a.canLay0 = true) (hb : b.canLay0 = true) (hd : a.depth < 80) : Op2 P (compareOp .NotEq) (toD a) (toD b) (.bool (!PyData.eqv a b)) := fun A X h u v ok _ r1 r2 => by
  obtain ⟨_, q1⟩ := toD_reads a ha r1
  obtain ⟨_, q2⟩ := toD_reads b hb r2
  exact .of fun tk Q hq => SeqAt.compareNe_reads q1 q2 ha hb (ok.cu (by omega)) (hq _ _ _ ⟨.refl h, by rw [rep_bool]⟩)
theorem o_nin {a : PyData} {xs : List PyData} (ha : a.canLay0 = true) (hb : PyData.canLayAll0 xs = true) (hd : a.depth < 80) : Op2 P (compareOp .NotIn) (toD a) (toD (.tuple xs)) (.bool (!xs.any fun y => PyData.eqv y a)) := fun A X h u v ok _ r1 r2 => by
  obtain ⟨_, q1⟩ := toD_reads a ha r1
  obtain ⟨_, q2⟩ := toD_reads (.tuple xs) (by simpa only [PyData.canLay0] using hb) r2
  exact .of fun tk Q hq => SeqAt.notIn_tuple_reads q2 q1 hb ha (by have := ok.cu (k := 1 + min (PyData.depthAll xs) a.depth) (by omega); omega) (hq _ _ _ ⟨.refl h, by rw [rep_bool]⟩)
theorem o_inl {a : PyData} {xs : List PyData} (ha : a.canLay0 = true) (hb : PyData.canLayAll0 xs = true) (hd : a.depth < 80) : Op2 P (compareOp .In) (toD a) (toD (.list xs)) (.bool (xs.any fun y => PyData.eqv y a)) := fun A X h u v ok _ r1 r2 => by
  obtain ⟨_, q1⟩ := toD_reads a ha r1
  obtain ⟨_, q2⟩ := toD_reads (.list xs) (by simpa only [PyData.canLay0] using hb) r2
  exact .of fun tk Q hq => SeqAt.in_list_reads q2 q1 hb ha (by have := ok.cu (k := 1 + min (PyData.depthAll xs) a.depth) (by omega); omega) (hq _ _ _ ⟨.refl h, by rw [rep_bool]⟩)
theorem tru_list {ds : List D} (hz : ds.length ≤ 1000000) : Tru P (.list ds) (!ds.isEmpty) := fun A X h u ok al r => by
  rw [rep_list] at r
  obtain ⟨a, vs, rfl, nx, q1, q2⟩ := r
  have hl := q2.length
  exact .of fun tk Q hq => wpAny_truthy_list q1.isList (by rw [List.size_toArray]; omega) (hq _ _ _ ⟨by
    rw [List.isEmpty_toArray]
    cases vs <;> cases ds <;> first | rfl | (simp at hl), .refl h⟩)
theorem Reps.rep {X : Addr → Prop} {h : Heap} {v : Value} {d : D} (r : Rep P X h v d) : ∀ n : Nat, Reps P X h (List.replicate n v) (List.replicate n d)
  | 0 => by simp only [List.replicate_zero, Reps]
  | n + 1 => by rw [List.replicate_succ, List.replicate_succ, reps_cons]; exact ⟨r, Reps.rep r n⟩
theorem foldl_app (v : Value) : ∀ (n : Nat) (acc : Array Value), List.foldl (fun x1 x2 => x1 ++ x2) acc (List.replicate n #[v]) = acc ++ (List.replicate n v).toArray
  | 0, acc => by simp
  | n + 1, acc => by
    rw [List.replicate_succ, List.foldl_cons, foldl_app v n]
    rw [List.replicate_succ]
    apply Array.ext'
    simp
theorem o_lmul {d : D} {n : Int} (h0 : 0 ≤ n) (h1 : n ≤ 1000) : Op2 P (binaryOp .Mult) (.list [d]) (.int n) (.list (List.replicate n.toNat d)) := fun A X h u v ok al r1 r2 => by
  rw [rep_list] at r1
  obtain ⟨l, vs, rfl, x1, ⟨k, hl⟩, q⟩ := r1
  obtain ⟨y, rfl, ry⟩ := reps1 q
  rw [rep_int] at r2; obtain ⟨t, rfl⟩ := r2
  refine .of fun tk Q hq => wpAny_binaryOp_repeat_ref (T := "list") (U := "int") (by decide) ⟨_, hl, rfl⟩ (fun s' => typeIs_int s' n t) noFill_list_mul F.fills_int_mul F.slot_int_rmul repeat_list F.slot_int_index.lookup
    (call_meets F.slot_int_rmul (typeIs_int _ n t) F.entry_int_rmul (F.args_int_rmul_2 _ _) (int___rmul___int_list n t l [y].toArray k)
      ⟨hl, rfl, ⟨_, hl, rfl⟩, call_meets F.slot_list_mul ⟨_, hl, rfl⟩ F.entry_list_mul (F.args_list_mul_2 _ _)
        (AutoListH.list___mul___list_int_3 l [y].toArray k n t (by simp [Builtin.List.listFitsIndex]; omega) (by simp; omega) (by simp [Builtin.List.listTooLong, sizeLine]; omega))
        ⟨hl, hq _ _ _ ⟨Ke.push _ _, ?_⟩⟩⟩)
  rw [rep_list]
  refine ⟨_, List.replicate n.toNat y, rfl, al.new (size_none _), ⟨0, ?_⟩, (Reps.rep ry _).ke (Ke.push _ _)⟩
  rw [show (if ([y].toArray).isEmpty = true then 0 else n.toNat) = n.toNat from by simp]
  have e : List.foldl (fun x1 x2 => x1 ++ x2) #[] (List.replicate n.toNat [y].toArray) = (List.replicate n.toNat y).toArray := by
    have := foldl_app y n.toNat #[]
    simpa using this
  rw [e]
  exact Heap.get?_push_size _ rfl
theorem c_min {ns : List Int} (hne : 0 < ns.length) : ∃ M, M ∈ ns ∧ (∀ a ∈ ns, M ≤ a) ∧ Pc P (.builtin "min") [.list (ns.map .int)] (.int M) := by
  obtain ⟨h1, h2⟩ := argBest_lt (fun i => ns.getD i 0) (ns.length - 1)
  refine ⟨ns.getD (argBest (fun i j => decide (ns.getD i 0 < ns.getD j 0)) (ns.length - 1)) 0, ?_, fun a ha => ?_, fun A X h vs ok bs rs => ?_⟩
  · rw [List.getD_eq_getElem?_getD, List.getElem?_eq_getElem (show _ < ns.length by omega)]
    exact List.getElem_mem _
  · obtain ⟨j, hj, rfl⟩ := List.mem_iff_getElem.mp ha
    have := h2 j (by omega)
    simpa [List.getD_eq_getElem?_getD, List.getElem?_eq_getElem hj] using this
  · obtain ⟨v, rfl, r⟩ := reps1 rs
    rw [rep_list] at r; obtain ⟨a, us, rfl, nx, q1, q2⟩ := r
    have hi := ints_of q2
    obtain ⟨xs, e⟩ := hi.allInts.items
    have hns : ns = xs.toList.map (·.1) := by rw [← hi.numsOf, ← nums_intItems, ← e]
    have hl := q1.isList
    rw [e] at hl
    have hsz : 0 < xs.size := by
      have h3 := hne; rw [hns, List.length_map, Array.length_toList] at h3; exact h3
    refine .of fun tk Q hq => min_intList ok.1 hl hsz fun v h' tk hv hk => ?_
    obtain ⟨t, rfl⟩ := intItems_at hv
    refine hq _ _ _ ⟨hk, ?_⟩
    rw [rep_int]
    refine ⟨t, ?_⟩
    have e1 : ns.length = xs.size := by rw [hns, List.length_map, Array.length_toList]
    have e2 : (fun i => ns.getD i 0) = numAt xs := by funext i; rw [numAt_eq, hns]
    have e3 : (fun i j => decide (ns.getD i 0 < ns.getD j 0)) = fun i j => decide (numAt xs i < numAt xs j) := by
      funext i j; rw [← e2]
    rw [e1, e3]
    have e4 := congrFun e2 (argBest (fun i j => decide (numAt xs i < numAt xs j)) (xs.size - 1))
    rw [e4]
theorem mapof {h : Heap} {a : Addr} {kvs : List (Str × Value)} {ep : Nat} (x : h.DictAt (strKind P.prog P.w) a kvs ep) : h.MapOf (strKind P.prog P.w) a (kvs.lookup ·) := by
  have := x.dictOf.mapOf
  rwa [show valueAt kvs = (kvs.lookup ·) from funext fun k => valueAt_lookup kvs k] at this
theorem zip_some {k : Str} {ks : List Str} {vs : List Value} {ds : List D} (hl : vs.length = ds.length) : ((ks.zip vs).lookup k).isSome = ((ks.zip ds).lookup k).isSome := by
  induction ks generalizing vs ds with
  | nil => simp
  | cons a ks ih =>
    cases vs with
    | nil => cases ds with
      | nil => simp
      | cons _ _ => simp at hl
    | cons v vs => cases ds with
      | nil => simp at hl
      | cons d ds =>
        rw [List.zip_cons_cons, List.zip_cons_cons, List.lookup_cons, List.lookup_cons]
        split
        · rfl
        · exact ih (by simpa using hl)
theorem o_ind {k : Str} {ks : List Str} {ds : List D} : Op2 P (compareOp .In) (.str k) (.dict ks ds) (.bool ((ks.zip ds).lookup k).isSome) := fun A X h u v ok al r1 r2 => by
  rw [rep_str] at r1; obtain ⟨t, rfl⟩ := r1
  rw [rep_dict] at r2; obtain ⟨a, us, ep, rfl, nx, ⟨q0, q1⟩, q2, q3⟩ := r2
  refine .of fun tk Q hq => wpAny_in_of (knd := strKind P.prog P.w) (k := k) (by show Value.isStrOf k (.str k t) = true; simp [Value.isStrOf]) q0 (mapof q1) (hq _ _ _ ⟨.refl h, ?_⟩)
  rw [rep_bool, zip_some q3.length]
theorem c_get {k : Str} {d e : D} {ks : List Str} {ds : List D} (he : ((ks.zip ds).lookup k).getD d = e) : Pc P (.builtin "dict.get") [.dict ks ds, .str k, d] e := fun A X h vs ok bs rs => by
  obtain ⟨v, u, w, rfl, r1, r2, r3⟩ := reps3 rs
  rw [rep_str] at r2; obtain ⟨t, rfl⟩ := r2
  rw [rep_dict] at r1; obtain ⟨a, us, ep, rfl, nx, ⟨q0, q1⟩, q2, q3⟩ := r1
  have hT : ∀ tk, ({ P.σ with heap := h, toks := tk } : Shared).TypeIs (.ref a) "dict" := fun tk => q1.dictOf.typeIs
  refine .of fun tk Q hq => call_meetsIn PySem.F.slot_dict_get (hT tk) PySem.F.entry_dict_get (PySem.F.args_dict_get_3 _ _ _) (meets_dict_get_default (knd := strKind P.prog P.w) (hkey := show (strKind P.prog P.w).is k (.str k t) = true by show Value.isStrOf k (.str k t) = true; simp [Value.isStrOf]) (hd := q0) (dflt := w)) ⟨_, mapof q1, ?_⟩
  refine hq _ _ _ ⟨.refl h, ?_⟩
  subst he
  cases hc : (ks.zip ds).lookup k with
  | none =>
    have := zip_some (k := k) (ks := ks) q3.length
    rw [hc] at this
    have : (ks.zip us).lookup k = none := by cases q : (ks.zip us).lookup k with | none => rfl | some _ => rw [q] at this; cases this
    rw [this]; exact r3
  | some x =>
    obtain ⟨y, e1, e2⟩ := q3.look hc
    rw [e1]; exact e2
end

end Mine

end
section
open PySem PySem.W PySem.Calls PyProof.Rows
set_option maxRecDepth 100000
namespace Mine
section
variable {prog : Program} {w : World} {A : Around} {E : Value → Shared → Prop}
theorem keys_miss : typeLookup (.type "list") "keys" = pure none := by rw [typeLookup_type, builtinLookup_eq_fast]; kernel_rfl
theorem getAttrQ_list {s : Shared} {a : Addr} {o : Obj} {xs : Array Value} {k : Nat} {Q : Option Value → Shared → Prop}
    (hx : s.heap.get? a = some o) (hc : o.cls = .type "list") (hdat : o.data = .seq xs k) (hd : o.dict = none) (hA : A.handled = none)
    (h : ∀ h' tk, (∀ b o, s.heap.get? b = some o → h'.get? b = some o) → Q none { s with heap := h', toks := tk }) :
    wpAny (model prog w) A (getAttr? (.ref a) "keys") Q E s := by
  obtain ⟨c, dct, dat, sl⟩ := o
  simp only at hc hdat hd
  subst hc hdat hd
  obtain ⟨hp, g, d, tk, os⟩ := s
  have hT : ∀ tk', (⟨hp, g, d, tk', os⟩ : Shared).TypeIs (.ref a) "list" := fun _ => ⟨_, hx, rfl⟩
  have f1 := sub_AttributeError
  have f3 := F.slot_list_getattribute.lookup
  have f4 := F.slot_list_getattribute.bind (.ref a)
  have f5 := am_list_getattr_none
  have hsz : (Str.ofString "keys").length + 100 ≤ sizeLine := by rw [sizeLine_eq]; decide
  unfold getAttr? getAttrBy? getAttrBy
  repeat (any_goals (first | assumption | exact hT _ | ((with_reducible show wpAny _ _ (call (Value.builtin "list.__getattribute__") _ _) _ _ _); refine call_meets F.slot_list_getattribute (hT _) am_entry_list_getattribute (F.args_list_getattribute_2 _ _) (meets_getattribute_miss_list a xs k sl "keys" _ keys_miss (by decide +kernel) hsz) ⟨hx, hA, fun h' tk' e hx' => ?_⟩) | wp_step))
  obtain ⟨t', u', he⟩ := hx'.there
  show wpAny _ _ (getattributeRaised _ _ _ _ _ _ _) _ _ _
  unfold getattributeRaised
  repeat (any_goals (first | assumption | wp_step))
  exact h _ _ hx'.keeps
end
section
variable {prog : Program} {w : World} {A : Around} {E : Value → Shared → Prop}
theorem stored_new {k : Str} {v : Value} {kvs : List (Str × Value)} (h : k ∉ kvs.map (·.1)) : stored kvs k v = kvs ++ [(k, v)] := by
  unfold stored
  rw [if_neg]
  intro ha
  obtain ⟨q, hq, e⟩ := List.any_eq_true.mp ha
  rw [decide_eq_true_eq] at e
  exact h (e ▸ List.mem_map_of_mem hq)
theorem du_plain : plainId "dict.update.loop" = true := by decide +kernel
theorem du_entry : entryFor table "dict.update.loop" = some Builtin.«dict.update.loop» := by first | exact entryFor_of_fast (by kernel_rfl) | exact entryFor_of_tree (by kernel_rfl)
theorem du_loop {hb : Heap} {d I l : Addr} {us : List Value} {pairs : List (Str × Value)} {R : Result → Shared → Prop} (hh : A.handled = none) (hl : hb.IsList l us.toArray) (hlI : l ≠ I) (hld : l ≠ d) (hdI : d ≠ I) (hlen : us.length = pairs.length) (hz : pairs.length ≤ 1000)
    (hn : (pairs.map (·.1)).Nodup) (hit : ∀ i (h : i < pairs.length), ∃ b t, us[i]? = some (.ref b) ∧ b ≠ I ∧ b ≠ d ∧ hb.IsTuple b #[.str pairs[i].1 t, pairs[i].2]) :
    ∀ (n i : Nat) (j : Int) (tj : Tok) (s : Shared), pairs.length - i = n → i ≤ pairs.length → (∀ b o, b ≠ I → b ≠ d → hb.get? b = some o → s.heap.get? b = some o) → s.heap.IsListIter I l i → s.heap.DictOf (strKind prog w) d (pairs.take i) →
      (∀ h' k, (∀ b o, b ≠ I → b ≠ d → hb.get? b = some o → h'.get? b = some o) → h'.DictOf (strKind prog w) d pairs → R (.ok (.ret .none)) { s with heap := h', toks := k }) →
      codeAny (model prog w) A (.builtin "dict.update.loop" ⟨[.ref d, .ref I, .int j tj, .none], []⟩) R s := by
  intro n
  induction n with
  | zero =>
    intro i j tj s hk hle keep iter hd hR
    have hin : i = pairs.length := by omega
    subst hin
    refine codeAny_builtin du_entry ?_
    rw [Around.under_plainId du_plain _]
    show wpAny _ A.in1 (pyNext (.ref I) >>= _) _ _ s
    have hl' : s.heap.IsList l us.toArray := let ⟨o, e, r⟩ := hl; ⟨o, keep _ _ hlI hld e, r⟩
    refine wpAny_bind (wpAny_pyNext_list_end hh iter hl' (by simp [hlen]) fun h' he => ?_)
    rw [List.take_length] at hd
    obtain ⟨o, es, ep, e1, r1⟩ := hd
    refine wpAny_bind (m := Builtin.Dict.addKeywords d []) (wpAny_pure (wpAny_pure ?_))
    exact hR h' _ (fun b o n1 n2 e => he b o n1 (keep b o n1 n2 e)) ⟨o, es, ep, he _ _ hdI e1, r1⟩
  | succ n ih =>
    intro i j tj s hk hle keep iter hd hR
    have hlt : i < pairs.length := by omega
    obtain ⟨b, t, hu, bI, bd, ht⟩ := hit i hlt
    refine codeAny_builtin du_entry ?_
    rw [Around.under_plainId du_plain _]
    show wpAny _ A.in1 (pyNext (.ref I) >>= _) _ _ s
    have hl' : s.heap.IsList l us.toArray := let ⟨o, e, r⟩ := hl; ⟨o, keep _ _ hlI hld e, r⟩
    refine wpAny_bind (wpAny_pyNext_list_item (x := .ref b) iter hl' (by simpa using hu) fun h' it' hs => ?_)
    have keep' : ∀ b o, b ≠ I → b ≠ d → hb.get? b = some o → h'.get? b = some o := fun b o n1 n2 e => hs.extBut b o n1 (keep b o n1 n2 e)
    have ht' : h'.IsTuple b #[.str pairs[i].1 t, pairs[i].2] := let ⟨o, e, r⟩ := ht; ⟨o, keep' _ _ bI bd e, r⟩
    obtain ⟨ob, eb, cb, nb, db⟩ := id ht'
    have hd' : h'.DictOf (strKind prog w) d (pairs.take i) := let ⟨o, es, ep, e, r⟩ := hd; ⟨o, es, ep, hs.extBut _ _ hdI e, r⟩
    dsimp only
    refine wpAny_bind (wpAny_holding (wpAny_bind (wpAny_tryCatch ?_)))
    unfold Builtin.Dict.pairItems
    refine wpAny_bind (wpAny_typeOf (s := { s with heap := h' }) (T := "tuple") ⟨ob, eb, cb⟩ ?_)
    rw [if_pos (by decide)]
    refine wpAny_bind (wpAny_seqItems (s := { s with heap := h' }) eb db (wpAny_pure ?_))
    show wpAny _ _ (holding [.str pairs[i].1 t, pairs[i].2] (dictSet d (.str pairs[i].1 t) pairs[i].2)) _ _ _
    refine wpAny_holding (wpAny_dictSet_pairs (knd := strKind prog w) (k := pairs[i].1) (by show Value.isStrOf _ (.str _ t) = true; simp [Value.isStrOf]) hd' (fun h2 hd2 sb => ?_) ?_)
    · have hnew : pairs[i].1 ∉ (pairs.take i).map (·.1) := by
        intro hm
        obtain ⟨q, hq, e⟩ := List.mem_map.mp hm
        obtain ⟨j, hj, rfl⟩ := List.mem_iff_getElem.mp hq
        rw [List.length_take] at hj
        rw [List.getElem_take] at e
        have := List.pairwise_iff_getElem.mp hn j i (by rw [List.length_map]; omega) (by rw [List.length_map]; omega) (by omega)
        rw [List.getElem_map, List.getElem_map] at this
        exact this e
      rw [stored_new hnew] at hd2
      have e2 : pairs.take i ++ [(pairs[i].1, pairs[i].2)] = pairs.take (i + 1) := by
        rw [List.take_add_one, List.getElem?_eq_getElem hlt]; rfl
      rw [e2] at hd2
      refine wpAny_pure ⟨plainId_quiet du_plain _, ih (i + 1) (j + 1) _ { s with heap := h2, toks := _ } (by omega) hlt ?_ ?_ hd2 fun h3 k3 k r => hR h3 k3 k r⟩
      · intro b o n1 n2 e
        exact sb.extBut b o n2 (keep' b o n1 n2 e)
      · obtain ⟨o, e, r⟩ := it'
        exact ⟨o, sb.extBut _ _ (Ne.symm hdI) e, r⟩
    · rw [List.length_take, sizeLine_eq]; omega
end
section
variable {P : Pm}
theorem big {X : Addr → Prop} {h : Heap} (bs : Base P X h) : (h.objs.size == sysModules) = false := by
  have hK : P.K.In h := P.KX.keeps bs.top
  have : ∃ o, P.K.lookup 362 = some o := ⟨_, rfl⟩
  obtain ⟨o, e⟩ := this
  have := Heap.lt_size (hK _ _ e)
  rw [beq_eq_false_iff_ne]
  intro q
  rw [q] at this
  exact absurd this (by decide)
theorem c_dict_pairs {kvs : List (Str × D)} (hn : (kvs.map (·.1)).Nodup) (hz : kvs.length ≤ 5) : Pn P (.type "dict") [.list (kvs.map fun p => .tup [.str p.1, p.2])] (.dct (kvs.map (·.1)) (kvs.map (·.2))) := fun A X h vs ok bs rs => by
  obtain ⟨v, rfl, r⟩ := reps1 rs
  rw [rep_list] at r; obtain ⟨l, us, rfl, nx, ⟨n, q1⟩, q2⟩ := r
  have hl := q2.length
  rw [List.length_map] at hl
  have rows : ∀ i (hi : i < kvs.length), ∃ b t v, us[i]? = some (.ref b) ∧ ¬ X b ∧ h.IsTuple b #[.str kvs[i].1 t, v] ∧ Rep P X h v kvs[i].2 := by
    intro i hi
    obtain ⟨u, e, r⟩ := q2.at' (i := i) (d := .tup [.str kvs[i].1, kvs[i].2]) (by rw [List.getElem?_map, List.getElem?_eq_getElem hi]; rfl)
    rw [rep_tup] at r
    obtain ⟨b, ws, rfl, nb, t1, t2⟩ := r
    obtain ⟨y, z, rfl, r1, r2⟩ := reps2 t2
    rw [rep_str] at r1; obtain ⟨t, rfl⟩ := r1
    exact ⟨b, t, z, e, nb, t1, r2⟩
  obtain ⟨xs, hxl, hx⟩ : ∃ xs : List Value, xs.length = kvs.length ∧ ∀ i (hi : i < kvs.length) (hi' : i < xs.length), ∃ b t, us[i]? = some (.ref b) ∧ ¬ X b ∧ h.IsTuple b #[.str kvs[i].1 t, xs[i]] ∧ Rep P X h xs[i] kvs[i].2 := by
    refine ⟨List.ofFn fun i : Fin kvs.length => (rows i.1 i.2).choose_spec.choose_spec.choose, by simp, fun i hi hi' => ?_⟩
    rw [List.getElem_ofFn]
    exact ⟨_, _, (rows i hi).choose_spec.choose_spec.choose_spec⟩
  have hpl : ((kvs.map (·.1)).zip xs).length = kvs.length := by rw [List.length_zip, List.length_map]; omega
  have hpn : ((kvs.map (·.1)).zip xs).map (·.1) = kvs.map (·.1) := by rw [List.map_fst_zip]; rw [List.length_map]; omega
  have hx2 : Reps P X h xs (kvs.map (·.2)) := by
    have gen : ∀ (xs : List Value) (ds : List D), xs.length = ds.length → (∀ i (hi : i < ds.length) (hi' : i < xs.length), Rep P X h xs[i] ds[i]) → Reps P X h xs ds := by
      intro xs
      induction xs with
      | nil => intro ds e _; cases ds with | nil => simp only [Reps] | cons _ _ => simp at e
      | cons x xs ih =>
        intro ds e hr
        cases ds with
        | nil => simp at e
        | cons d ds =>
          rw [reps_cons]
          exact ⟨hr 0 (by simp) (by simp), ih ds (by simpa using e) fun i hi hi' => hr (i + 1) (by simpa using hi) (by simpa using hi')⟩
    refine gen _ _ (by rw [List.length_map]; exact hxl) fun i hi hi' => ?_
    rw [List.length_map] at hi
    obtain ⟨_, _, _, _, _, r⟩ := hx i hi hi'
    rw [List.getElem_map]; exact r
  have hbig := big bs
  refine .of fun tk Q hq => ?_
  refine callType_codes (Q₁ := fun obj s₁ => obj = .ref h.objs.size ∧ s₁ = { { P.σ with heap := h, toks := tk } with heap := h.push { cls := .type "dict", data := .dict #[] } }) F.kt_called_dict (F.kt_typeCall_dict_1 _) F.entry_dict_init (kt_code_dict_new _ ⟨rfl, rfl⟩) ?_
  rintro obj s₁ ⟨rfl, rfl⟩
  have ke1 := Ke.push h { cls := .type "dict", data := .dict #[] }
  have hnew : (h.push { cls := .type "dict", data := .dict #[] }).DictOf (strKind P.prog P.w) h.objs.size [] := Heap.DictOf.new h
  have dead := size_none h
  have alive : ∀ b o, h.get? b = some o → b ≠ h.objs.size := fun b o e q => by rw [q, dead] at e; cases e
  refine ⟨hnew.typeIs, F.args_dict_init_2 _ _, ?_⟩
  unfold Builtin.«dict.__init__»
  refine wpAny_bind ?_
  unfold Builtin.Dict.selfAndRest
  refine wpAny_bind (wpAny_notOrdered_dict hnew.typeIs ?_)
  show wpAny _ _ (pure (h.objs.size, [Value.ref l])) _ _ _
  refine wpAny_pure ?_
  show wpAny _ _ (Builtin.Dict.updateFrom "dict.__init__" h.objs.size (.ref l) [] .none) _ _ _
  unfold Builtin.Dict.updateFrom
  refine wpAny_bind (wpAny_typeOf (T := "list") ⟨_, ke1 _ _ q1, rfl⟩ ?_)
  rw [if_pos (by decide)]
  refine wpAny_bind (getAttrQ_list (ke1 _ _ q1) rfl rfl rfl (by exact ok.1) fun h2 tk2 k2 => ?_)
  have k2' : Ke (h.push { cls := .type "dict", data := .dict #[] }) h2 := k2
  rw [if_pos (show Option.isNone (none : Option Value) = true from rfl)]
  refine wpAny_bind (wpAny_rule ?_)
  have hl2 : h2.IsList l us.toArray := ⟨_, k2' _ _ (ke1 _ _ q1), rfl, _, rfl⟩
  refine wpAny_bind (wpAny_pyIter_list hl2 ?_)
  have ke3 := Ke.push h2 { cls := .type "list_iterator", data := .fields #[.ref l, .int 0 0] }
  have sz : h.objs.size < h2.objs.size := by
    have := Heap.lt_size (k2' _ _ (Heap.get?_push_size h (o := { cls := .type "dict", data := .dict #[] }) rfl))
    exact this
  have alive2 : ∀ b o, h.get? b = some o → b ≠ h2.objs.size := fun b o e => Nat.ne_of_lt (Nat.lt_trans (Heap.lt_size e) sz)
  refine wpAny_pure ⟨plainId_quiet du_plain _, ?_⟩
  refine du_loop (A := A.in1) (hb := h) (d := h.objs.size) (I := h2.objs.size) (l := l) (us := us) (pairs := (kvs.map (·.1)).zip xs) ok.1 ⟨_, q1, rfl, _, rfl⟩ (alive2 _ _ q1) (alive _ _ q1) (Nat.ne_of_lt sz) (by rw [hpl]; exact hl) (by rw [hpl]; omega) (by rw [hpn]; exact hn) (fun i hi => ?_) kvs.length 0 0 _ _ (by rw [hpl]; omega) (Nat.zero_le _) (fun b o n1 n2 e => ke3 _ _ (k2' _ _ (ke1 _ _ e))) ⟨_, Heap.get?_push_size _ rfl, rfl, rfl⟩ ?_ fun h' k keep hd => ?_
  · rw [hpl] at hi
    obtain ⟨b, t, e, nb, t1, _⟩ := hx i hi (by omega)
    obtain ⟨o, eo, r⟩ := id t1
    refine ⟨b, t, e, alive2 _ _ eo, alive _ _ eo, ?_⟩
    rw [List.getElem_zip, List.getElem_map]; exact t1
  · rw [List.take_zero]
    obtain ⟨o, es, ep, e, r⟩ := hnew
    exact ⟨o, es, ep, ke3 _ _ (k2' _ _ e), r⟩
  · refine ⟨rfl, hq _ _ _ ⟨fun b o e => keep b o (alive2 b o e) (alive b o e) e, h.objs.size, rfl, dead, ?_⟩⟩
    have ke : Ke h h' := fun b o e => keep b o (alive2 b o e) (alive b o e) e
    obtain ⟨ep, hd'⟩ := hd.dictAt
    exact ⟨xs, ep, ⟨hbig, hd'⟩, by rw [List.length_map]; omega, (hx2.also dead).ke ke⟩
end

end Mine

end
section
open PySem PySem.W PySem.Calls PyProof.Rows
set_option maxRecDepth 100000
namespace Mine
noncomputable def allL {α : Type} : Nat → List α → List (List α)
  | 0, _ => [[]]
  | n + 1, l => l.flatMap fun a => (allL n l).map (a :: ·)
theorem allL_mem {α : Type} {l : List α} : ∀ {n : Nat} {r : List α}, r.length = n → (∀ a ∈ r, a ∈ l) → r ∈ allL n l
  | 0, [], _, _ => by simp [allL]
  | 0, _ :: _, h, _ => by simp at h
  | n + 1, [], h, _ => by simp at h
  | n + 1, a :: r, h, k => by
    unfold allL
    exact List.mem_flatMap.mpr ⟨a, k a (.head _), List.mem_map_of_mem (allL_mem (by simpa using h) fun b hb => k b (.tail _ hb))⟩
noncomputable def runF {α : Type} (n : Nat) (f : Nat → Nat → Bool) : KasT α → Option α
  | .ret a => some a
  | .ask i j k => if i < n ∧ j < n ∧ i ≠ j then runF n f (k (f i j)) else none
theorem runF_wp {α : Type} {n : Nat} {f : Nat → Nat → Bool} {cmp : Nat → Nat → (Bool → Shared → Prop) → Shared → Prop} {Inv : Shared → Prop}
    (h : ∀ i j (C : Bool → Shared → Prop) s, Inv s → i < n → j < n → i ≠ j → (∀ s', Inv s' → C (f i j) s') → cmp i j C s) {Q : α → Shared → Prop} {a : α} (hQ : ∀ s', Inv s' → Q a s') :
    ∀ (t : KasT α) (s : Shared), Inv s → runF n f t = some a → t.kasWp cmp Q s
  | .ret b, s, hi, e => by
    unfold runF at e
    cases e
    exact hQ s hi
  | .ask i j k, s, hi, e => by
    unfold runF at e
    split at e
    · rename_i hc
      exact h i j _ s hi hc.1 hc.2.1 hc.2.2 fun s' hs' => runF_wp h hQ (k (f i j)) s' hs' e
    · cases e
noncomputable def rkF (r : List Nat) (i j : Nat) : Bool := decide (r.getD i 0 < r.getD j 0)
noncomputable def chk (n : Nat) (r : List Nat) : Bool := match runF n (rkF r) (kas_sort n) with
  | some p => p.toList.map (fun i => r.getD i 0) == List.range n && p.toList.all fun i => decide (i < n)
  | none => false
set_option maxHeartbeats 4000000 in
theorem chk_all : (List.range 6).all (fun n => n < 2 || (allL n (List.range n)).all fun r => !decide r.Nodup || chk n r) = true := by decide +kernel
theorem chk_ok {n : Nat} {r : List Nat} (h2 : 2 ≤ n) (h5 : n ≤ 5) (hl : r.length = n) (hr : ∀ a ∈ r, a < n) (hn : r.Nodup) : ∃ p : Array Nat, runF n (rkF r) (kas_sort n) = some p ∧ p.toList.map (fun i => r.getD i 0) = List.range n ∧ ∀ i ∈ p.toList, i < n := by
  have h := chk_all
  rw [List.all_eq_true] at h
  have := h n (List.mem_range.mpr (by omega))
  rw [Bool.or_eq_true, decide_eq_true_eq] at this
  rcases this with q | q
  · omega
  · rw [List.all_eq_true] at q
    have q := q r (allL_mem hl fun a ha => List.mem_range.mpr (hr a ha))
    rw [decide_eq_true hn] at q
    unfold chk at q
    simp only [Bool.not_true, Bool.false_or] at q
    split at q
    · rename_i p hp
      rw [Bool.and_eq_true, beq_iff_eq, List.all_eq_true] at q
      exact ⟨p, hp, q.1, fun i hi => by simpa using q.2 i hi⟩
    · cases q
section
variable {prog : Program} {w : World} {A : Around} {E : Value → Shared → Prop} {s : Shared}
theorem srt {a : Addr} {vs : List Value} {n : Nat} {p : List Nat} {P : PySem.Fin → Shared → Prop} (ho : s.heap.get? a = some (seqObj "list" vs.toArray n)) (h64 : vs.length < 64)
    (hk : 2 ≤ vs.length → ∀ H, (∀ b o, b ≠ a → s.heap.get? b = some o → H.get? b = some o) → wpAny (model prog w) A (keyKind' vs.toArray) (fun κ s' => (kas_sort vs.length).kasWp (kas_ask prog w A κ vs) (fun p' s'' => p'.toList = p ∧ ∃ tk, s'' = { s with heap := H, toks := tk }) s') (fun _ _ => False) { s with heap := H })
    (h1 : vs.length < 2 → p = List.range vs.length) (hp : p.length ≤ 1000)
    (hP : ∀ H c tk, (∀ b o, b ≠ a → s.heap.get? b = some o → H.get? b = some o) → H.get? a = some (seqObj "list" (p.map fun i => vs.getD i Value.none).toArray c) → P (.done (.ret .none)) { s with heap := H, toks := tk }) :
    wpAny (model prog w) A (Builtin.«list.sort» ⟨[.ref a], []⟩) P E s := by
  have ha : a < s.heap.objs.size := Heap.lt_size ho
  obtain ⟨e1, ho1⟩ : ∃ e1, (s.heap.update a (Obj.mapSeq fun _ => (#[] : Array Value))).get? a = some (seqObj "list" #[] e1) := ⟨_, get?_update_seq ho fun _ => #[]⟩
  have keep : ∀ b o, b ≠ a → s.heap.get? b = some o → (((s.heap.update a (Obj.mapSeq fun _ => (#[] : Array Value))).push (seqObj "tuple" vs.toArray 0)).push (seqObj "list" #[] 0)).get? b = some o := fun b o n e =>
    Heap.get?_push_of_some _ (Heap.get?_push_of_some _ (by rw [Heap.get?_update_ne _ _ _ _ n]; exact e))
  have ho6 : (((s.heap.update a (Obj.mapSeq fun _ => (#[] : Array Value))).push (seqObj "tuple" vs.toArray 0)).push (seqObj "list" #[] 0)).get? a = some (seqObj "list" #[] e1) := Heap.get?_push_of_some _ (Heap.get?_push_of_some _ ho1)
  rw [list_sort_plain]
  refine wpAny_bind (listItems_at ho rfl ?_)
  refine wpAny_bind (listUpdate_at ho rfl ?_ (by rw [List.size_toArray, sizeLine_eq]; omega) (Nat.zero_le _))
  refine wpAny_bind (seqEpoch_at ho1 rfl ?_)
  refine wpAny_bind (wpAny_newTuple ?_ (by show vs.length ≤ _; rw [sizeLine_eq]; omega))
  refine wpAny_bind (wpAny_newList ?_ (Nat.zero_le _))
  refine wpAny_holding ?_
  generalize hH : ((s.heap.update a (Obj.mapSeq fun _ => (#[] : Array Value))).push (seqObj "tuple" vs.toArray 0)).push (seqObj "list" #[] 0) = H at keep ho6
  show wpAny (model prog w) A _ P E { s with heap := H }
  dsimp only
  have fin : ∀ (out : Array Value) tk, out = (p.map fun i => vs.getD i Value.none).toArray → P (.done (.ret .none)) { s with heap := H.update a (Obj.mapSeq fun _ => out), toks := tk } := fun out tk e => by
    subst e
    exact hP _ _ tk (fun b o n q => by rw [Heap.get?_update_ne _ _ _ _ n]; exact keep b o n q) (get?_update_seq ho6 fun _ => (p.map fun i => vs.getD i Value.none).toArray)
  by_cases h2 : vs.toArray.size < 2
  · have h2' : vs.length < 2 := by simpa using h2
    have hpe := h1 h2'
    rw [if_pos h2, if_pos h2]
    refine wpAny_bind (wpAny_pure ?_)
    rw [StateT.run_pure]
    refine wpAny_bind (wpAny_pure ?_)
    dsimp only
    refine wpAny_bind (seqEpoch_at ho6 rfl ?_)
    refine wpAny_bind (listUpdate_at ho6 rfl ?_ (Nat.zero_le _) (hsz2 := by rw [Array.size_map]; show (pairsOf vs).size ≤ _; rw [pairsOf_size, sizeLine_eq]; omega))
    simp only [bne_self_eq_false, Bool.false_eq_true, if_false]
    refine wpAny_pure (fin _ _ ?_)
    rw [hpe]
    show Array.map (fun x => x.snd) (vs.toArray.zip vs.toArray) = _
    have e1 : Array.map (fun x => x.snd) (vs.toArray.zip vs.toArray) = vs.toArray := by
      apply Array.toList_inj.mp
      rw [Array.toList_map, Array.toList_zip, List.map_snd_zip (Nat.le_refl _)]
    have e2 : (List.range vs.length).map (fun i => vs.getD i Value.none) = vs := by
      match vs, h2' with
      | [], _ => rfl
      | [v], _ => rfl
      | _ :: _ :: _, h => simp at h; omega
    rw [e1, e2]
  · have h2' : 2 ≤ vs.length := by simpa using h2
    rw [if_neg h2, if_neg h2]
    refine wpAny_bind (wpAny_mono (hk h2' H keep) (fun κ s0 hk => ?_) fun _ _ x => x.elim)
    refine wpAny_bind (wpAny_mono (kat_run (Q := fun st' s' => ∃ p' : Array Nat, p'.size = vs.length ∧ arrOf st' = p'.map (kas_item (vs.toArray.zip vs.toArray)) ∧ failedOf st' = none ∧ (p'.toList = p ∧ ∃ tk, s' = { s with heap := H, toks := tk }))
      rfl h2' h64 (fun p' st' s' a1 a2 a3 a4 => ⟨p', a1, a2, a3, a4⟩) hk) ?_ fun _ _ e => e)
    rintro ⟨⟨⟩, st'⟩ s' ⟨p', hp', har, hf, hpp, tk, rfl⟩
    dsimp only
    have hout := kat_snds rfl har
    rw [hpp] at hout
    rw [hout]
    refine wpAny_bind (seqEpoch_at (s := { s with heap := H, toks := tk }) ho6 rfl ?_)
    refine wpAny_bind (listUpdate_at (s := { s with heap := H, toks := tk }) ho6 rfl ?_ (Nat.zero_le _) (by rw [List.size_toArray, List.length_map, sizeLine_eq]; omega))
    rw [hf]
    simp only [bne_self_eq_false, Bool.false_eq_true, if_false]
    exact wpAny_pure (fin _ _ rfl)
end

end Mine

end
section
open PySem PySem.W PySem.Calls PyProof.Rows
set_option maxRecDepth 100000
namespace Mine
section
variable {prog : Program} {w : World} {A : Around} {E : Value → Shared → Prop} {s : Shared}
structure Srt (n : Nat) (r p : List Nat) : Prop where
  eq : p.map (fun i => r.getD i 0) = List.range n
  lt : ∀ i ∈ p, i < n
theorem Srt.len {n : Nat} {r p : List Nat} (s : Srt n r p) : p.length = n := by
  have := congrArg List.length s.eq
  simpa using this
theorem srt_exists {n : Nat} {r : List Nat} (h1 : 1 ≤ n) (h5 : n ≤ 5) (hl : r.length = n) (hr : ∀ a ∈ r, a < n) (hn : r.Nodup) : ∃ p, Srt n r p ∧ (n < 2 → p = List.range n) ∧ (2 ≤ n → ∃ q : Array Nat, q.toList = p ∧ runF n (rkF r) (kas_sort n) = some q) := by
  by_cases h2 : 2 ≤ n
  · obtain ⟨q, a, b, c⟩ := chk_ok h2 h5 hl hr hn
    exact ⟨q.toList, ⟨b, c⟩, fun h => by omega, fun _ => ⟨q, rfl, a⟩⟩
  · have : n = 1 := by omega
    subst this
    obtain ⟨x, rfl⟩ : ∃ x, r = [x] := by
      match r, hl with
      | [x], _ => exact ⟨x, rfl⟩
    have hx := hr x (.head _)
    have : x = 0 := by omega
    subst this
    exact ⟨[0], ⟨rfl, by simp⟩, fun _ => rfl, fun h => by omega⟩
theorem sort_tail {vs : List Value} {n : Nat} {r p : List Nat} {κ₀ : SortKind} {Q : Value → Shared → Prop} (hn : vs.length = n) (h5 : n ≤ 5) (sp : Srt n r p) (h1 : n < 2 → p = List.range n) (h2 : 2 ≤ n → ∃ q : Array Nat, q.toList = p ∧ runF n (rkF r) (kas_sort n) = some q)
    (hkind : 2 ≤ n → ∀ s' : Shared, (∀ b o, s.heap.get? b = some o → s'.heap.get? b = some o) → ∀ Q' : SortKind → Shared → Prop, Q' κ₀ s' → wpAny (model prog w) A.in1 (keyKind' vs.toArray) Q' (fun _ _ => False) s')
    (hask : ∀ i j (C : Bool → Shared → Prop) s', (∀ b o, s.heap.get? b = some o → s'.heap.get? b = some o) → i < n → j < n → i ≠ j → (∀ tk, C (rkF r i j) { s' with toks := tk }) → wpAny (model prog w) A.in1 (keyLt' κ₀ (vs.getD i Value.none) (vs.getD j Value.none)) C (fun _ _ => False) s')
    (hQ : ∀ H c tk D, s.heap.get? D = none → (∀ b o, s.heap.get? b = some o → H.get? b = some o) → H.get? D = some (seqObj "list" (p.map fun i => vs.getD i Value.none).toArray c) → Q (.ref D) { s with heap := H, toks := tk }) :
    wpAny (model prog w) A (newList vs >>= fun l => holding [l] (call (.builtin "list.sort") [l]) >>= fun _ => ret l) (fun fin s' => ∃ v, fin = PySem.Fin.done (.ret v) ∧ Q v s') E s := by
  have dead := size_none s.heap
  refine wpAny_bind (wpAny_newList ?_ (by rw [sizeLine_eq]; omega))
  have hoL : (s.heap.push (seqObj "list" vs.toArray 0)).get? s.heap.objs.size = some (seqObj "list" vs.toArray 0) := Heap.get?_push_size _ rfl
  have pk : ∀ {H : Heap}, (∀ b o, b ≠ s.heap.objs.size → (s.heap.push (seqObj "list" vs.toArray 0)).get? b = some o → H.get? b = some o) → ∀ b o, s.heap.get? b = some o → H.get? b = some o := fun k b o e => k b o (by intro q; rw [q, dead] at e; cases e) (Heap.get?_push_of_some _ e)
  refine wpAny_bind (wpAny_holding (wpAny_call_entry slot_list_sort ⟨_, hoL, rfl⟩ entry_list_sort ?_ (args_list_sort _)))
  refine srt (s := { s with heap := s.heap.push (seqObj "list" vs.toArray 0) }) (p := p) hoL (by omega) (fun h H k => ?_) (fun h => by rw [hn]; exact h1 (by omega)) (by rw [sp.len]; omega) fun H c tk k e => ?_
  · refine hkind (by omega) _ (pk k) _ ?_
    obtain ⟨q, hq, hrun⟩ := h2 (by omega)
    rw [hn]
    refine runF_wp (n := n) (f := rkF r) (a := q) (Inv := fun s'' => ∃ tk, s'' = { s with heap := H, toks := tk }) ?_ ?_ _ _ ⟨_, rfl⟩ hrun
    · rintro i j C s'' ⟨tk, rfl⟩ hi hj hij hC
      exact hask i j C _ (pk k) hi hj hij fun tk' => hC _ ⟨tk', rfl⟩
    · rintro s'' ⟨tk, rfl⟩
      exact ⟨hq, tk, rfl⟩
  · exact ⟨_, rfl, wpAny_pure ⟨_, rfl, hQ H c tk _ dead (pk k) e⟩⟩
end
section
variable {P : Pm}
theorem perm_reps {X : Addr → Prop} {h : Heap} {vs : List Value} {ds : List D} (r : Reps P X h vs ds) : ∀ (p : List Nat), (∀ i ∈ p, i < ds.length) → Reps P X h (p.map fun i => vs.getD i Value.none) (p.map fun i => ds.getD i .none)
  | [], _ => by simp only [List.map_nil, Reps]
  | i :: p, hp => by
    simp only [List.map_cons, reps_cons]
    refine ⟨?_, perm_reps r p fun j hj => hp j (.tail _ hj)⟩
    have hi := hp i (.head _)
    obtain ⟨v, e, rv⟩ := r.at' (List.getElem?_eq_getElem hi)
    rw [List.getD_eq_getElem?_getD, List.getD_eq_getElem?_getD, e, List.getElem?_eq_getElem hi]
    exact rv
theorem cnt_le (x y : Int) (h : x ≤ y) : ∀ l : List Int, l.countP (fun a => decide (a < x)) ≤ l.countP (fun a => decide (a < y))
  | [] => by simp
  | a :: l => by
    have ih := cnt_le x y h l
    rw [List.countP_cons, List.countP_cons]
    by_cases q : a < x
    · rw [if_pos (by simpa using q), if_pos (by simp; omega)]; omega
    · rw [if_neg (by simpa using q)]; split <;> omega
theorem cnt_lt (x y : Int) (h : x < y) : ∀ l : List Int, x ∈ l → l.countP (fun a => decide (a < x)) < l.countP (fun a => decide (a < y))
  | [], hx => by simp at hx
  | a :: l, hx => by
    rw [List.countP_cons, List.countP_cons]
    rcases List.mem_cons.mp hx with rfl | hx
    · have := cnt_le x y (by omega) l
      rw [if_neg (by simp), if_pos (by simpa using h)]; omega
    · have ih := cnt_lt x y h l hx
      by_cases q : a < x
      · rw [if_pos (by simpa using q), if_pos (by simp; omega)]; omega
      · rw [if_neg (by simpa using q)]; split <;> omega
theorem cnt_len (x : Int) : ∀ l : List Int, x ∈ l → l.countP (fun a => decide (a < x)) < l.length
  | [], hx => by simp at hx
  | a :: l, hx => by
    rw [List.countP_cons, List.length_cons]
    rcases List.mem_cons.mp hx with rfl | hx
    · have := List.countP_le_length (p := fun b => decide (b < x)) (l := l)
      rw [if_neg (by simp)]; omega
    · have ih := cnt_len x l hx
      split <;> omega
noncomputable abbrev Tri := Int × Int × Int
noncomputable def triD (t : Tri) : D := .tup [.int t.1, .int t.2.1, .int t.2.2]
noncomputable def rnk (l : List Tri) : List Nat := l.map fun (t : Tri) => (l.map (·.1)).countP fun a => decide (a < t.1)
theorem c_sorted_tri {l : List Tri} (hn : 1 ≤ l.length) (hn5 : l.length ≤ 5) (hd : l.Pairwise fun a b => a.1 ≠ b.1) : ∃ out : List Tri, (∀ t ∈ out, t ∈ l) ∧ out.length = l.length ∧ out.Pairwise (fun a b => a.1 < b.1) ∧ Pn P (.builtin "sorted") [.list (l.map triD)] (.lst (out.map triD)) := by
  have hrl : (rnk l).length = l.length := by simp [rnk]
  have rk : ∀ i j (hi : i < l.length) (hj : j < l.length), i ≠ j → (l[i].1 < l[j].1 ↔ (rnk l).getD i 0 < (rnk l).getD j 0) := by
    intro i j hi hj hij
    unfold rnk
    rw [List.getD_eq_getElem?_getD, List.getD_eq_getElem?_getD, List.getElem?_map, List.getElem?_map, List.getElem?_eq_getElem hi, List.getElem?_eq_getElem hj]
    show _ ↔ (l.map (·.1)).countP _ < (l.map (·.1)).countP _
    have mi : l[i].1 ∈ l.map (·.1) := List.mem_map_of_mem (List.getElem_mem hi)
    have mj : l[j].1 ∈ l.map (·.1) := List.mem_map_of_mem (List.getElem_mem hj)
    constructor
    · intro h; exact cnt_lt _ _ h _ mi
    · intro h
      rcases Int.lt_trichotomy l[i].1 l[j].1 with q | q | q
      · exact q
      · rw [q] at h; omega
      · have := cnt_lt _ _ q _ mj; omega
  obtain ⟨p, sp, h1, h2⟩ := srt_exists (n := l.length) (r := rnk l) hn hn5 hrl (fun a ha => by
      unfold rnk at ha
      obtain ⟨t, ht, rfl⟩ := List.mem_map.mp ha
      have := cnt_len t.1 (l.map (·.1)) (List.mem_map_of_mem ht)
      simpa using this) (by
      unfold List.Nodup rnk
      rw [List.pairwise_map]
      refine List.Pairwise.imp_of_mem (fun {a b} ha hb h e => ?_) hd
      rcases Int.lt_or_gt_of_ne h with q | q
      · have := cnt_lt _ _ q _ (List.mem_map_of_mem (f := (·.1)) ha); omega
      · have := cnt_lt _ _ q _ (List.mem_map_of_mem (f := (·.1)) hb); omega)
  have hpl := sp.len
  refine ⟨p.map fun i => l.getD i (0, 0, 0), fun t ht => ?_, by rw [List.length_map]; exact hpl, ?_, fun A X h vs ok bs rs => ?_⟩
  · obtain ⟨i, hi, rfl⟩ := List.mem_map.mp ht
    have := sp.lt i hi
    rw [List.getD_eq_getElem?_getD, List.getElem?_eq_getElem this]
    exact List.getElem_mem _
  · rw [List.pairwise_iff_getElem]
    intro i j hi hj hij
    rw [List.length_map] at hi hj
    rw [List.getElem_map, List.getElem_map]
    have li := sp.lt p[i] (List.getElem_mem _)
    have lj := sp.lt p[j] (List.getElem_mem _)
    rw [List.getD_eq_getElem?_getD, List.getD_eq_getElem?_getD, List.getElem?_eq_getElem li, List.getElem?_eq_getElem lj]
    have ei : (rnk l).getD p[i] 0 = i := by
      have := List.getElem_of_eq sp.eq (i := i) (by rw [List.length_map]; exact hi)
      simpa using this
    have ej : (rnk l).getD p[j] 0 = j := by
      have := List.getElem_of_eq sp.eq (i := j) (by rw [List.length_map]; exact hj)
      simpa using this
    exact (rk p[i] p[j] li lj (fun e => by rw [e] at ei; omega)).mpr (by rw [ei, ej]; exact hij)
  · obtain ⟨v, rfl, r⟩ := reps1 rs
    rw [rep_list] at r; obtain ⟨a, us, rfl, nx, q1, q2⟩ := r
    have hl := q2.length
    rw [List.length_map] at hl
    have ha : ∃ o, h.get? a = some o := let ⟨n, e⟩ := q1; ⟨_, e⟩
    have rows : ∀ i (hi : i < l.length), ∃ b t1 t2 t3, us.getD i Value.none = .ref b ∧ h.IsTuple b #[.int l[i].1 t1, .int l[i].2.1 t2, .int l[i].2.2 t3] := by
      intro i hi
      obtain ⟨u, e, r⟩ := q2.at' (i := i) (d := triD l[i]) (by rw [List.getElem?_map, List.getElem?_eq_getElem hi]; rfl)
      unfold triD at r
      rw [rep_tup] at r
      obtain ⟨b, ws, rfl, nb, t1, t2⟩ := r
      obtain ⟨x, y, z, rfl, r1, r2, r3⟩ := reps3 t2
      rw [rep_int] at r1 r2 r3
      obtain ⟨_, rfl⟩ := r1; obtain ⟨_, rfl⟩ := r2; obtain ⟨_, rfl⟩ := r3
      exact ⟨b, _, _, _, by rw [List.getD_eq_getElem?_getD, e]; rfl, t1⟩
    have sz : ((h.push (seqObj "list" #[] 0)).update h.objs.size (Obj.mapSeq (· ++ us.toArray))).get? = ((h.push (seqObj "list" #[] 0)).update h.objs.size (Obj.mapSeq (· ++ us.toArray))).get? := rfl
    have keep : ∀ b o, h.get? b = some o → ((h.push (seqObj "list" #[] 0)).update h.objs.size (Obj.mapSeq (· ++ us.toArray))).get? b = some o := fun b o q => by
      have hlt : b < h.objs.size := Heap.lt_size q
      rw [Heap.get?_update_ne _ _ _ _ (Nat.ne_of_lt hlt)]
      exact Heap.get?_push_of_some _ q
    refine .of fun tk Q hq => call_function_entry kind_sorted plain_sorted entry_sorted (args_sorted1 _) ?_
    unfold Builtin.«sorted»
    refine wpAny_bind (m := checkCount "sorted" 1 1 _) (wpAny_pure ?_)
    refine wpAny_bind (collect_list q1.isList ?_ (by rw [sizeLine_eq]; omega))
    refine sort_tail (n := l.length) (κ₀ := tuples' true) hl hn5 sp h1 h2 (fun g2 s' k Q' hQ' => ?_) (fun i j C s' k hi hj hij hC => ?_) fun H c tk' D dD kH e => ?_
    · have tups : ∀ (us : List Value) (l : List Tri), Reps P X h us (l.map triD) → (∀ b o, h.get? b = some o → s'.heap.get? b = some o) → ∃ fs, fs.length = l.length ∧ KatTups s'.heap us fs ∧ ∀ f ∈ fs, ∃ i t, f = Value.int i t := by
        intro us l
        induction l generalizing us with
        | nil => intro r _; cases us with | nil => exact ⟨[], rfl, .nil, by simp⟩ | cons _ _ => simp only [List.map_nil, Reps] at r
        | cons t l ih =>
          intro r kk
          cases us with
          | nil => simp only [List.map_cons, Reps] at r
          | cons u us =>
            rw [List.map_cons, reps_cons] at r
            obtain ⟨fs, f1, f2, f3⟩ := ih us r.2 kk
            have r1 := r.1
            unfold triD at r1
            rw [rep_tup] at r1
            obtain ⟨b, ws, rfl, nb, ⟨o, eo, co, n, do'⟩, t2⟩ := r1
            obtain ⟨x, y, z, rfl, r1, r2, r3⟩ := reps3 t2
            rw [rep_int] at r1; obtain ⟨t1, rfl⟩ := r1
            refine ⟨.int t.1 t1 :: fs, by simp [f1], .cons (kk _ _ eo) co do' rfl f2, fun f hf => ?_⟩
            rcases List.mem_cons.mp hf with rfl | hf
            · exact ⟨_, _, rfl⟩
            · exact f3 f hf
      obtain ⟨fs, f1, f2, f3⟩ := tups us l q2 fun b o e => k b o (keep b o e)
      refine kat_kind (T := .type "int") f2 (by omega) (fun v hv => ?_) (by decide) hQ'
      obtain ⟨i, t, rfl⟩ := f3 v hv
      exact Looks.of_pure rfl
    · obtain ⟨b, t1, t2, t3, e1, o1, g1, c1, n1, d1⟩ := rows i hi
      obtain ⟨b', u1, u2, u3, e2, o2, g2, c2, n2, d2⟩ := rows j hj
      rw [e1, e2]
      refine kat_lt (b := true) (k b o1 (keep _ _ g1)) d1 (k b' o2 (keep _ _ g2)) d2 ?_
      have hne : (l[i].1 == l[j].1) = false := by
        rw [beq_eq_false_iff_ne]
        rcases Nat.lt_or_gt_of_ne hij with q | q
        · exact List.pairwise_iff_getElem.mp hd i j hi hj q
        · exact (List.pairwise_iff_getElem.mp hd j i hj hi q).symm
      refine kat_cons (wpAny_eqBool_int ?_)
      rw [hne]
      refine kat_no ?_
      refine oneLt_int ?_
      rw [show decide (l[i].1 < l[j].1) = rkF (rnk l) i j from by unfold rkF; exact decide_eq_decide.mpr (rk i j hi hj hij)]
      exact hC s'.toks
    · have dD' : h.get? D = none := by
        cases q : h.get? D with
        | none => rfl
        | some o => have := keep _ _ q; rw [dD] at this; cases this
      have ke : Ke h H := fun b o e => kH b o (keep b o e)
      refine hq _ _ _ ⟨ke, D, rfl, dD', _, ⟨c, e⟩, ?_⟩
      have := perm_reps q2 p fun i hi => by rw [List.length_map]; exact sp.lt i hi
      have e3 : (p.map fun i => (l.map triD).getD i .none) = (p.map fun i => l.getD i (0, 0, 0)).map triD := by
        rw [List.map_map]
        refine List.map_congr_left fun i hi => ?_
        have := sp.lt i hi
        simp [List.getD_eq_getElem?_getD, List.getElem?_eq_getElem this]
      rw [e3] at this
      exact (this.also dD').ke ke
end

end Mine

end
section
open PySem PySem.W PySem.Calls PyProof.Rows
set_option maxRecDepth 100000
namespace Mine
section
variable {sc : Sc} {B : Bd sc} {md : Md} {mo mo' mo0 mo1 mo2 l l' : MoL}
theorem ev_methn {o : Expr} {name : Str} {apos pos : Pos} {f : Value} {es : List Expr} {C : Addr} {ks ks' : List Str} {vs vs' as : List D} {d' : D} {n : Nat} (ho : Eo B md mo o C ks vs mo0) (hm : ∀ dx, Hm B md ((dx, .flds ks vs) :: mo0) (.obj C dx) name f) (w : Cw B.P.K f) (hs : noStar es = true)
    (xs : ∀ dx, Evs B md ((dx, .flds ks vs) :: mo0) es as ((dx, .flds ks vs) :: mo1)) (c : ∀ dx, Ctr B.P n f (.obj C dx :: as) [(dx, .flds ks vs)] (.d d') [(dx, .flds ks' vs')]) (hn : n ≤ sc.n)
    (hb : attributeBase o name B.env (eval o B.env) = eval o B.env) (hl : (decide (es.length < 30) && apos.endLine == pos.line) = true) :
    Ev B md mo (.Call (.Attribute o name apos) es [] pos) d' mo1 := fun h s => .of fun tk Q hq => by
  rw [Bool.and_eq_true, decide_eq_true_eq] at hl
  rw [arm_eval_Call, hb]
  refine wpAny_bind ((ho h s).to fun ov h0 tk0 ⟨g0, a, dx, e, ne, n0, n', e', q⟩ => wpAny_bind (wpAny_standAt ?_))
  subst e
  obtain ⟨s0, r0⟩ := g0.newObj s ne n0 n' e' q
  have hform : methodCallForm (es.length + ([] : List Keyword).length) (backTo pos (starEach es B.env)) (backToKw pos (keywordEach [] B.env)) = true := by
    unfold methodCallForm
    have h1 : (backTo pos (starEach es B.env)).all (fun x => !x.1) = true := by
      have := star_any (env := B.env) (pos := pos) hs
      rw [List.all_eq_true]; intro y hy
      rw [List.any_eq_false] at this
      have := this y hy
      simpa using this
    rw [h1]
    show (true && true && decide (es.length + 0 + 0 < 30)) = true
    simpa using hl.1
  have hpos : methodCallPos true o B.env apos pos = pure pos := by unfold methodCallPos; simp [hl.2]
  unfold methodCall
  rw [hform]
  refine wpAny_bind (wpAny_holding ?_)
  show wpAny _ _ (getMethod (.ref a) name _) _ _ _
  refine hm dx h0 (.ref a) s0 r0 _ _ _ (wpAny_bind (wpAny_of_eq hpos ?_))
  show wpAny _ _ (callWith pos f [.ref a] (backTo pos (starEach es B.env)) []) _ _ _
  refine w hs ((xs dx pos h0 s0).to fun ws h2 tk2 ⟨g2, r2⟩ => ⟨g2.s.K, ?_⟩)
  refine ((c dx).use hn .here g2.s (by rw [List.singleton_append, reps_cons]; exact ⟨g2.rep r0, r2⟩)).to fun v h3 tk3 ⟨g3, r3⟩ => hq _ _ _ ⟨?_, ?_⟩
  · have e2 := g2.e
    rw [List.map_cons, List.map_cons] at e2
    refine ⟨g3.s.drop, fun b o eb => ?_, (List.cons.inj e2).2.trans g0.e⟩
    have nb : b ≠ dx := by intro q; rw [q, n'] at eb; cases eb
    obtain ⟨p1, o1, q1⟩ := g0.k b o eb
    obtain ⟨p2, o2, q2⟩ := g2.k b o1 q1
    obtain ⟨p3, o3, q3⟩ := g3.k b o2 q2
    refine ⟨fun n => ?_, o3, q3⟩
    have t1 := p1 n
    have n2 : ¬ Am ((dx, MO.flds ks vs) :: mo0) b := fun t => by
      rcases List.mem_cons.mp t with t | t
      · exact nb t
      · exact n (by unfold Am; rw [← g0.e]; exact t)
    have t2 := (g2.k b o t1).1 n2
    exact (g3.k b o t2).1 fun t => n2 (by unfold Am at t ⊢; rwa [g2.e] at t)
  · have r3' : Rep B.P (XX B ((dx, .flds ks' vs') :: mo1)) h3 v d' := r3
    exact r3'.ex fun b o _ t => by
      rcases t with t | t | t
      · exact .inl t
      · exact .inr (.inl t)
      · exact .inr (.inr (List.mem_cons_of_mem _ t))
theorem fld_rc {r : Rc} : Fld mo r.d 216 rcK [.str r.tag, .int r.total, .int r.begin', .int r.len, .int r.where'] := .inst
end
section
variable {P : Pm} {n : Nat}
noncomputable def spans (rs : List Rc) (begun behind : Int) : List Tri := (rs.filter fun r => decide (r.len > 0)).map (fun r => (r.begin', r.fin, r.where')) ++ [(begun, behind, begun)]
theorem tri_at {rs : List Tri} {i : Nat} {r : Tri} (h : rs[i]? = some r) : (rs.map triD)[i]? = some (triD r) := by rw [List.getElem?_map, h]; rfl
theorem c_need_apart {rs : List Rc} {begun behind : Int} (hz : rs.length ≤ 4) (h0 : begun < behind) (hd : (spans rs begun behind).Pairwise fun a b => a.2.1 ≤ b.1 ∨ b.2.1 ≤ a.1) :
    Ctr P (n + 2) (.ref 246) [.list (rs.map Rc.d), .int begun, .int behind] [] (.d .none) [] := by
  have hne : ∀ t ∈ spans rs begun behind, t.1 < t.2.1 := by
    intro t ht
    unfold spans at ht
    rcases List.mem_append.mp ht with ht | ht
    · obtain ⟨r, hr, rfl⟩ := List.mem_map.mp ht
      have := (List.mem_filter.mp hr).2
      rw [decide_eq_true_eq] at this
      show r.begin' < r.begin' + r.len
      omega
    · rw [List.mem_singleton] at ht; subst ht; exact h0
  have hlen : (spans rs begun behind).length ≤ 5 := by
    unfold spans
    rw [List.length_append, List.length_map]
    have := List.length_filter_le (fun r : Rc => decide (r.len > 0)) rs
    simp only [List.length_singleton]; omega
  obtain ⟨out, o1, o2, o3, o4⟩ := c_sorted_tri (P := P) (l := spans rs begun behind) (by unfold spans; simp) hlen (List.Pairwise.imp_of_mem (fun {a b} ha hb h e => by
    have := hne a ha; have := hne b hb; omega) hd)
  have sym : ∀ a b : Tri, (a.2.1 ≤ b.1 ∨ b.2.1 ≤ a.1) → (b.2.1 ≤ a.1 ∨ a.2.1 ≤ b.1) := fun a b h => h.symm
  have apart : ∀ i (a b : Tri), out[i]? = some a → out[i + 1]? = some b → a.2.1 ≤ b.1 := by
    intro i a b ha hb
    have ma := o1 a (List.mem_of_getElem? ha)
    have mb := o1 b (List.mem_of_getElem? hb)
    obtain ⟨ia, ea⟩ := List.getElem?_eq_some_iff.mp ha
    obtain ⟨ib, eb⟩ := List.getElem?_eq_some_iff.mp hb
    have hlt : a.1 < b.1 := by
      have := List.pairwise_iff_getElem.mp o3 i (i + 1) ia ib (by omega)
      rw [ea, eb] at this; exact this
    obtain ⟨i, hi, rfl⟩ := List.mem_iff_getElem.mp ma
    obtain ⟨j, hj, rfl⟩ := List.mem_iff_getElem.mp mb
    have hij : i ≠ j := by rintro rfl; omega
    have na := hne _ ma
    have nb := hne _ mb
    have := List.pairwise_iff_getElem.mp hd
    rcases Nat.lt_or_gt_of_ne hij with h | h
    · have := this i j hi hj h; omega
    · have := this j i hj hi h; omega
  refine ctr_def (names := ["records", "begun", "behind"]) (ho := rfl) (hcd := rfl) (hbind := ?_) rfl ?_ rfl rfl ?_
  · intro vs hv
    rcases vs with _ | ⟨a, _ | ⟨b, _ | ⟨c, _ | ⟨_, _⟩⟩⟩⟩ <;> first | rfl | (simp at hv)
  · decide +kernel
  intro B hB hx
  subst hB
  refine ex_comp (ev_name rfl rfl rfl) src_list (fun B' => CompR.filt Rc.d (fun r => triD (r.begin', r.fin, r.where')) (fun r => decide (r.len > 0)) rs (fun r _ => et_cmp (ev_attr (attr := none) (ev_name rfl rfl rfl) fld_rc rfl rfl (by kernel_rfl) (by kernel_rfl) (by kernel_rfl) (by kernel_rfl)) ev_int o_gt) fun r _ _ => ev_tuple (evs_cons (ev_attr (attr := none) (ev_name rfl rfl rfl) fld_rc rfl rfl (by kernel_rfl) (by kernel_rfl) (by kernel_rfl) (by kernel_rfl)) (evs_cons (ev_meth (ev_name rfl rfl rfl) (hm_inst fld_rc rfl (by kernel_rfl) (by kernel_rfl) (by kernel_rfl)) (cw_K rfl) rfl evs_nil c_rc_end (Nat.le_add_left _ _) .nil rfl rfl) (evs_cons (ev_attr (attr := none) (ev_name rfl rfl rfl) fld_rc rfl rfl (by kernel_rfl) (by kernel_rfl) (by kernel_rfl) (by kernel_rfl)) evs_nil))) (by simp)) rfl rfl (by simp; omega) rfl rfl fun a ha => ?_
  refine ex_expr (ev_meth (ev_name rfl rfl rfl) (hm_append (.head _)) cw_b rfl (evs_cons (ev_tuple (evs_cons (ev_name rfl rfl rfl) (evs_cons (ev_name rfl rfl rfl) (evs_cons (ev_name rfl rfl rfl) evs_nil))) (by simp)) evs_nil) (c_append (by simp; have := List.length_filter_le (fun r : Rc => decide (0 < r.len)) rs; omega)) (Nat.zero_le _) .here rfl rfl) ?_
  refine Ex.freeze ha rfl ?_
  have e : MO.d (.lst (((rs.filter fun r => decide (r.len > 0)).map fun r => triD (r.begin', r.fin, r.where')) ++ [D.tup [.int begun, .int behind, .int begun]])) = .list ((spans rs begun behind).map triD) := by
    unfold spans
    rw [List.map_append, List.map_map]; rfl
  rw [e]
  refine ex_assign (En.evl (en_call (ev_builtin rfl rfl (by decide) rfl rfl) cw_b rfl (evs_cons (ev_name rfl rfl rfl) evs_nil) o4.ctr (Nat.zero_le _) .nil)) rfl ?_
  refine Ex.sub (md' := [("line", .list (out.map triD))]) ?_ (Sub.get (.cons rfl .nil))
  refine ex_for (ev_call (ev_builtin rfl rfl (by decide) rfl rfl) cw_t rfl (evs_cons ev_int (evs_cons (ev_call (ev_builtin rfl rfl (by decide) rfl rfl) cw_b rfl (evs_cons (ev_name rfl rfl rfl) evs_nil) (pc_len_list (by simp; omega)).ctr (Nat.zero_le _) .nil) evs_nil)) pc_range2.ctr (Nat.zero_le _) .nil) (src_rng (small_of (by simp) (by simp; omega) (by simp)))
    (ForR.run (σ := Unit) D.int (fun _ _ => ()) (fun _ => [("line", .list (out.map triD))]) (fun _ => []) (fun _ as => ∀ a ∈ as, 1 ≤ a ∧ a < out.length) ?_ _ () ?_) rfl (ex_none (fun p hp => nomatch hp))
  · intro _ i as h
    obtain ⟨h1, h2⟩ := h i (.head _)
    obtain ⟨r, hr⟩ : ∃ r, out[i.toNat]? = some r := ⟨_, List.getElem?_eq_getElem (by omega)⟩
    obtain ⟨q, hq⟩ : ∃ q, out[(i - 1).toNat]? = some q := ⟨_, List.getElem?_eq_getElem (by omega)⟩
    have hlt := apart _ _ _ hq (by rw [show (i - 1).toNat + 1 = i.toNat by omega]; exact hr)
    refine ⟨fun b hb => h b (.tail _ hb), fun I o => ?_, rfl⟩
    exact ex_iff (et_cmp (ev_sub (ev_sub (ev_name rfl rfl rfl) (ev_name rfl rfl rfl) (gi_list (by omega) (tri_at hr) (by simp; omega)) (fun o i => ⟨_, rfl⟩)) ev_int (gi_tup (by omega) rfl (by simp)) (fun o i => ⟨_, rfl⟩))
      (ev_sub (ev_sub (ev_name rfl rfl rfl) (ev_bin (ev_name rfl rfl rfl) ev_int o_sub) (gi_list (by omega) (tri_at hq) (by simp; omega)) (fun o i => ⟨_, rfl⟩)) ev_int (gi_tup (by omega) rfl (by simp)) (fun o i => ⟨_, rfl⟩)) o_lt) (by simp; omega) (ex_ends (.cons rfl .nil))
  · intro a ha
    have := rng1_mem ha
    simp at this
    exact this
end

end Mine

end
section
open PySem PySem.W PySem.Calls PyProof.Rows
set_option maxRecDepth 100000
namespace Mine
section
variable {P : Pm} {n : Nat}
theorem rep_ktup {a : Addr} {o : Obj} {m : Nat} {vs : List Value} {ds : List D} (ho : P.K.lookup a = some o) (hc : o.cls = .type "tuple") (hd : o.data = .seq vs.toArray m) (hr : ∀ X h, Reps P X h vs ds) : ∀ (X : Addr → Prop) h, P.K.In h → (∀ b, X b → P.hT.get? b = none) → Rep P X h (.ref a) (.tup ds) := fun X h hK hX => by
  rw [rep_tup]
  have nx : ¬ X a := fun t => by
    have := hX a t; rw [P.KX _ _ ho] at this; exact nomatch this
  exact ⟨a, vs, rfl, nx, ⟨o, hK _ _ ho, hc, m, hd⟩, hr X h⟩
theorem c_u32_at {data : List UInt8} {at' : Int} (h0 : 0 ≤ at') (h1 : at' + 4 ≤ data.length) (hz : data.length ≤ 1000000) :
    Ctr P (n + 3) (.ref 96) [.bytes data, .int at'] [] (.d (.int (rd data at' 4))) [] := by
  refine ctr_def (names := ["data", "at"]) (ho := rfl) (hcd := rfl) (hbind := ?_) rfl ?_ rfl rfl ?_
  · intro vs hv
    rcases vs with _ | ⟨a, _ | ⟨b, _ | ⟨_, _⟩⟩⟩ <;> first | rfl | (simp at hv)
  · decide +kernel
  intro B hB hx
  subst hB
  exact ex_retd (ev_call (ev_gref rfl rfl rfl) (cw_K rfl) rfl (evs_cons (ev_name rfl rfl rfl) (evs_cons (ev_name rfl rfl rfl) (evs_cons ev_int evs_nil))) (c_number_at h0 (by omega) (by omega) h1 hz) (Nat.le_refl _) .nil) (fun p hp => nomatch hp)
noncomputable def wheres (c : Int) : List Int := rng (0 + 12) (0 + (12 + 16 * c)) 16
noncomputable def recs (data : List UInt8) (c : Int) : List Rc := (wheres c).map (rcOf data)
theorem wheres_mem {c w : Int} (h : 0 < c) (hw : w ∈ wheres c) : 12 ≤ w ∧ w + 16 ≤ 12 + 16 * c := by
  unfold wheres rng at hw
  obtain ⟨i, hi, rfl⟩ := List.mem_map.mp hw
  rw [List.mem_range] at hi
  unfold Builtin.Range.rangeSize at hi
  rw [if_pos (by omega), if_pos (by omega)] at hi
  omega
theorem wheres_len {c : Int} (h : 0 < c) : (wheres c).length = c.toNat := by
  unfold wheres rng
  rw [List.length_map, List.length_range]
  unfold Builtin.Range.rangeSize
  rw [if_pos (by omega), if_pos (by omega)]
  omega
structure Good (data : List UInt8) (c : Int) : Prop where
  c1 : 1 ≤ c
  c4 : c ≤ 4
  size : data.length ≤ 20000
  room : 12 + 16 * c ≤ data.length
  ver : rd data 0 4 = 65536
  cnt : rd data 4 2 = c
  ord : ordered (recs data c)
  fin : ∀ r ∈ recs data c, r.fin ≤ data.length
  beg : ∀ r ∈ recs data c, 0 ≤ r.begin'
  len : ∀ r ∈ recs data c, 0 ≤ r.len
  apart : (spans (recs data c) 0 (0 + (12 + 16 * c))).Pairwise fun a b => a.2.1 ≤ b.1 ∨ b.2.1 ≤ a.1
theorem Good.num {data : List UInt8} {c : Int} (g : Good data c) : (recs data c).length = c.toNat := by
  unfold recs; rw [List.length_map, wheres_len (by have := g.c1; omega)]
theorem c_read_records {data : List UInt8} {c : Int} (g : Good data c) : Ctr P (n + 6) (.ref 251) [.bytes data, .int 0] [] (.d (.tup [.int 65536, .list ((recs data c).map Rc.d)])) [] := by
  have hn := g.num
  obtain ⟨c1, c4, hz, room, ver, cnt, ord, fin, _, _, apart⟩ := g
  refine ctr_def (names := ["data", "begun"]) (ho := rfl) (hcd := rfl) (hbind := ?_) rfl ?_ rfl rfl ?_
  · intro vs hv
    rcases vs with _ | ⟨a, _ | ⟨b, _ | ⟨_, _⟩⟩⟩ <;> first | rfl | (simp at hv)
  · decide +kernel
  intro B hB hx
  subst hB
  refine ex_iff (et_cmp (ev_call (ev_builtin rfl rfl (by decide) rfl rfl) cw_b rfl (evs_cons (ev_name rfl rfl rfl) evs_nil) (pc_len_bytes (by omega)).ctr (Nat.zero_le _) .nil) (ev_bin (ev_name rfl rfl rfl) (ev_gint rfl rfl rfl) o_add) o_lt) (by simp; omega) ?_
  refine ex_assign (ev_call (ev_gref rfl rfl rfl) (cw_K rfl) rfl (evs_cons (ev_name rfl rfl rfl) (evs_cons (ev_name rfl rfl rfl) evs_nil)) (c_u32_at (by omega) (by omega) (by omega)) (Nat.le_add_left _ _) .nil) rfl ?_
  rw [ver]
  refine ex_iff (et_cmp (ev_name (d := toD (.int 65536)) rfl rfl rfl) (ev_global (d := toD (.tuple [.int 65536, .int 1330926671, .int 1953658213])) rfl rfl rfl (rep_ktup rfl rfl rfl fun X h => by simp only [toDs, toD, reps_cons, reps_nil, rep_int]; exact ⟨⟨_, rfl⟩, ⟨_, rfl⟩, ⟨_, rfl⟩, trivial⟩)) (o_nin rfl rfl (by decide))) (by decide) ?_
  refine ex_assign (ev_methn (eo_call (ev_gref rfl rfl rfl) (cw_K rfl) rfl (evs_cons (ev_name rfl rfl rfl) (evs_cons (ev_bin (ev_name rfl rfl rfl) ev_int o_add) evs_nil)) c_oi (Nat.le_add_left _ _) .nil) (fun dx => (hm_inst (.obj (.head _)) rfl (by kernel_rfl) (by kernel_rfl) (by kernel_rfl))) (cw_K rfl) rfl (fun dx => evs_nil) (fun dx => c_oi_u16 (by omega) (by omega) (by omega)) (Nat.le_add_left _ _) rfl rfl) rfl ?_
  rw [show (0 : Int) + 4 = 4 from rfl, cnt]
  refine ex_assign (ev_bin (ev_name rfl rfl rfl) (ev_call (ev_gref rfl rfl rfl) (cw_K rfl) rfl (evs_cons (ev_name rfl rfl rfl) evs_nil) c_dirsize (Nat.le_add_left _ _) .nil) o_add) rfl ?_
  refine ex_iff (et_cmp (ev_call (ev_builtin rfl rfl (by decide) rfl rfl) cw_b rfl (evs_cons (ev_name rfl rfl rfl) evs_nil) (pc_len_bytes (by omega)).ctr (Nat.zero_le _) .nil) (ev_name rfl rfl rfl) o_lt) (by simp; omega) ?_
  refine ex_comp (ev_call (ev_builtin rfl rfl (by decide) rfl rfl) cw_t rfl (evs_cons (ev_bin (ev_name rfl rfl rfl) (ev_gint rfl rfl rfl) o_add) (evs_cons (ev_name rfl rfl rfl) (evs_cons (ev_gint rfl rfl rfl) evs_nil))) (pc_range3 (by omega) (by decide)).ctr (Nat.zero_le _) .nil) (src_rng (small_of (by simp) (by omega) (by simp)))
    (fun B' => CompR.map D.int (fun w => (rcOf data w).d) (wheres c) fun w hw => by
      have := wheres_mem (by omega) hw
      exact ev_call (ev_gref rfl rfl rfl) (cw_K rfl) rfl (evs_cons (ev_name rfl rfl rfl) (evs_cons (ev_name rfl rfl rfl) evs_nil)) (c_read_record (by omega) (by omega) (by omega)) (Nat.le_refl _) .nil) rfl rfl (by rw [List.length_map]; show (wheres c).length ≤ _; rw [wheres_len (by omega)]; omega) rfl rfl fun a ha => ?_
  refine Ex.freeze ha rfl ?_
  rw [show MO.d (.lst ((wheres c).map fun w => (rcOf data w).d)) = .list ((recs data c).map Rc.d) from by unfold recs; rw [List.map_map]; rfl]
  refine ex_expr (ev_call (ev_gref rfl rfl rfl) (cw_K rfl) rfl (evs_cons (ev_name rfl rfl rfl) (evs_cons (ev_call (ev_builtin rfl rfl (by decide) rfl rfl) cw_b rfl (evs_cons (ev_name rfl rfl rfl) evs_nil) (pc_len_bytes (by omega)).ctr (Nat.zero_le _) .nil) evs_nil)) (c_need_in_order ord fin (by omega)) (Nat.le_add_left _ _) .nil) ?_
  refine ex_expr (ev_call (ev_gref rfl rfl rfl) (cw_K rfl) rfl (evs_cons (ev_name rfl rfl rfl) (evs_cons (ev_name rfl rfl rfl) (evs_cons (ev_name rfl rfl rfl) evs_nil))) (c_need_apart (by omega) (by omega) apart) (Nat.le_add_left _ _) .nil) ?_
  exact ex_retd (ev_tuple (evs_cons (ev_name rfl rfl rfl) (evs_cons (ev_name rfl rfl rfl) evs_nil)) (by simp)) (fun p hp => nomatch hp)
end

end Mine

end
section
open PySem PySem.W PySem.Calls PyProof.Rows
set_option maxRecDepth 100000
namespace Mine
section
variable {sc : Sc} {B : Bd sc} {md : Md} {mo mo' mo1 : MoL} {rest : List Stmt}
theorem ex_retd' {e : Expr} {pos : Pos} {d : D} (v : Ev B md mo e d mo1) (hm : ∀ p ∈ mo', p ∈ mo1) : Ex B md mo (.Return (some e) pos :: rest) (fun fl h => Ends B mo' (.d d) fl h ∧ fl ≠ .next) := ex_ret v fun h u s r => ⟨s.ends r hm, fun e => by cases e⟩
theorem hm_get {ks : List Str} {ds : List D} : Hm B md mo (.dict ks ds) "get" (.builtin "dict.get") := hm_builtin PySem.F.plainAttrs_dict PySem.F.slot_dict_get PySem.F.type_dict_get fun h v s r tk => by
  rw [rep_dict] at r; obtain ⟨a, us, ep, rfl, nx, ⟨q0, q1⟩, q2, q3⟩ := r
  refine ⟨q1.dictOf.typeIs, fun b eb => ?_⟩
  cases eb
  obtain ⟨o, _, e, h1, _⟩ := q1
  exact ⟨o, e, h1.2.1⟩
end
section
variable {P : Pm} {n : Nat}
noncomputable def body (data : List UInt8) (r : Rc) : List UInt8 := cut data (some r.begin') (some r.fin)
theorem cut_le {α : Type} (l : List α) (lo hi : Option Int) : (cut l lo hi).length ≤ l.length := by
  unfold cut
  rw [List.length_take, List.length_drop]; omega
theorem ord_pair : ∀ {rs : List Rc}, ordered rs → rs.Pairwise fun a b => lt a.tag b.tag
  | [], _ => .nil
  | [a], _ => by simp
  | a :: b :: r, h => by
    have ih := ord_pair h.2
    refine .cons (fun c hc => ?_) ih
    rcases List.mem_cons.mp hc with rfl | hc
    · exact h.1
    · exact List.lt_trans h.1 (List.rel_of_pairwise_cons ih hc)
theorem ord_nodup {rs : List Rc} (h : ordered rs) : (rs.map (·.tag)).Nodup := by
  unfold List.Nodup
  rw [List.pairwise_map]
  exact (ord_pair h).imp fun {a b} hlt e => by
    unfold lt at hlt
    rw [e] at hlt
    exact List.lt_irrefl _ hlt
theorem c_tables_of {data : List UInt8} {rs : List Rc} (hz : data.length ≤ 50000) (hn : rs.length ≤ 4) (ho : ordered rs) :
    Ctr P (n + 2) (.ref 256) [.bytes data, .list (rs.map Rc.d)] [] (.d (.dict (rs.map (·.tag)) (rs.map fun r => .bytes (body data r)))) [] := by
  have hd := c_dict_pairs (P := P) (kvs := rs.map fun r => (r.tag, D.bytes (body data r))) (by rw [List.map_map]; exact ord_nodup ho) (by simp; omega)
  simp only [List.map_map] at hd
  refine ctr_def (names := ["data", "records"]) (ho := rfl) (hcd := rfl) (hbind := ?_) rfl ?_ rfl rfl ?_
  · intro vs hv
    rcases vs with _ | ⟨a, _ | ⟨b, _ | ⟨_, _⟩⟩⟩ <;> first | rfl | (simp at hv)
  · decide +kernel
  intro B hB hx
  subst hB
  exact ex_retd (En.evd (en_call (ev_builtin rfl rfl (by decide) rfl rfl) cw_t rfl (evs_cons (En.evl (en_comp (ev_name rfl rfl rfl) src_list (fun B' => CompR.map Rc.d (fun r => .tup [.str r.tag, .bytes (body data r)]) rs fun r hr => ev_tuple (evs_cons (ev_attr (attr := none) (ev_name rfl rfl rfl) fld_rc rfl rfl (by kernel_rfl) (by kernel_rfl) (by kernel_rfl) (by kernel_rfl)) (evs_cons (ev_slice (ev_name rfl rfl rfl) (evo_some (ev_attr (attr := none) (ev_name rfl rfl rfl) fld_rc rfl rfl (by kernel_rfl) (by kernel_rfl) (by kernel_rfl) (by kernel_rfl))) (evo_some (ev_meth (ev_name rfl rfl rfl) (hm_inst fld_rc rfl (by kernel_rfl) (by kernel_rfl) (by kernel_rfl)) (cw_K rfl) rfl evs_nil c_rc_end (Nat.le_add_left _ _) .nil rfl rfl)) (gs_bytes (by omega))) evs_nil)) (by simp)) rfl rfl (by simp; omega))) evs_nil) hd.ctr (Nat.zero_le _) .nil)) (fun p hp => nomatch hp)
theorem c_read_directory {data : List UInt8} {c : Int} (g : Good data c) : Ctr P (n + 7) (.ref 263) [.bytes data] [] (.d (.tup [.int 65536, .dict ((recs data c).map (·.tag)) ((recs data c).map fun r => .bytes (body data r))])) [] := by
  have hz := g.size
  have hl := g.num
  have h4 := g.c4
  refine ctr_def (names := ["data"]) (ho := rfl) (hcd := rfl) (hbind := ?_) rfl ?_ rfl rfl ?_
  · intro vs hv
    rcases vs with _ | ⟨a, _ | ⟨_, _⟩⟩ <;> first | rfl | (simp at hv)
  · decide +kernel
  intro B hB hx
  subst hB
  refine ex_unpack2 (ev_call (ev_gref rfl rfl rfl) (cw_K rfl) rfl (evs_cons (ev_name rfl rfl rfl) (evs_cons ev_int evs_nil)) (c_read_records g) (Nat.le_refl _) .nil) unp_tup rfl rfl ?_ rfl (by intros; rfl)
  exact ex_retd (ev_tuple (evs_cons (ev_name rfl rfl rfl) (evs_cons (ev_call (ev_gref rfl rfl rfl) (cw_K rfl) rfl (evs_cons (ev_name rfl rfl rfl) (evs_cons (ev_name rfl rfl rfl) evs_nil)) (c_tables_of (by omega) (by omega) g.ord) (Nat.le_add_left _ _) .nil) evs_nil)) (by simp)) (fun p hp => nomatch hp)
noncomputable def hasAdj (tag : Str) (l : List UInt8) : Bool := tag == "head" && decide ((l.length : Int) ≥ 8 + 4)
theorem c_has_adj {tag : Str} {l : List UInt8} (hz : l.length ≤ 50000) : Ctr P (n + 1) (.ref 270) [.str tag, .bytes l] [] (.d (.bool (hasAdj tag l))) [] := by
  refine ctr_def (names := ["tag", "octets"]) (ho := rfl) (hcd := rfl) (hbind := ?_) rfl ?_ rfl rfl ?_
  · intro vs hv
    rcases vs with _ | ⟨a, _ | ⟨b, _ | ⟨_, _⟩⟩⟩ <;> first | rfl | (simp at hv)
  · decide +kernel
  intro B hB hx
  subst hB
  unfold hasAdj
  refine ex_retd (mo1 := []) (ev_and (ev_cmp (ev_name rfl rfl rfl) ev_str o_seq) tru_bool (fun h => ?_) fun h => ?_) (fun p hp => nomatch hp)
  · rw [h, Bool.true_and]
    exact ev_cmp (ev_call (ev_builtin rfl rfl (by decide) rfl rfl) cw_b rfl (evs_cons (ev_name rfl rfl rfl) evs_nil) (pc_len_bytes (by omega)).ctr (Nat.zero_le _) .nil) (ev_bin (ev_gint rfl rfl rfl) ev_int o_add) o_ge
  · rw [h]; exact ⟨rfl, rfl⟩
noncomputable def unadj (tag : Str) (l : List UInt8) : List UInt8 := if hasAdj tag l then cut l none (some 8) ++ List.replicate (4 : Int).toNat 0 ++ cut l (some (8 + 4)) none else l
theorem unadj_len (tag : Str) (l : List UInt8) : (unadj tag l).length ≤ 2 * l.length + 4 := by
  unfold unadj
  have h1 := cut_le l none (some 8)
  have h2 := cut_le l (some (8 + 4)) none
  split
  · simp only [List.length_append, List.length_replicate]; omega
  · omega
theorem ev_false {sc : Sc} {B : Bd sc} {md : Md} {mo mo1 : MoL} {e : Expr} {c : Bool} (x : Ev B md mo e (.bool c) mo1) {b : Bool} (h : c = b) : Ev B md mo e (.bool b) mo1 := h ▸ x
theorem c_unadj {tag : Str} {l : List UInt8} (hz : l.length ≤ 50000) : Ctr P (n + 2) (.ref 277) [.str tag, .bytes l] [] (.d (.bytes (unadj tag l))) [] := by
  have h1 := cut_le l none (some 8)
  have h2 := cut_le l (some (8 + 4)) none
  have h3 := cut_le l (some 12) none
  refine ctr_def (names := ["tag", "octets"]) (ho := rfl) (hcd := rfl) (hbind := ?_) rfl ?_ rfl rfl ?_
  · intro vs hv
    rcases vs with _ | ⟨a, _ | ⟨b, _ | ⟨_, _⟩⟩⟩ <;> first | rfl | (simp at hv)
  · decide +kernel
  intro B hB hx
  subst hB
  unfold unadj
  refine ex_ifr (et_not (et_val (ev_call (ev_gref rfl rfl rfl) (cw_K rfl) rfl (evs_cons (ev_name rfl rfl rfl) (evs_cons (ev_name rfl rfl rfl) evs_nil)) (c_has_adj (by omega)) (Nat.le_refl _) .nil) tru_bool)) (fun h => ?_) fun h => ?_
  · rw [if_neg (by simpa using h)]
    exact (ex_retd' (ev_name rfl rfl rfl) (fun p hp => nomatch hp))
  · rw [if_pos (by simpa using h)]
    exact ex_retd (ev_bin (ev_bin (ev_slice (ev_name rfl rfl rfl) evo_none (evo_some (ev_gint rfl rfl rfl)) (gs_bytes (by omega))) (ev_call (ev_builtin rfl rfl (by decide) rfl rfl) cw_t rfl (evs_cons ev_int evs_nil) (lstr_bytes_int (by omega) (by omega)).ctr (Nat.zero_le _) .nil) (o_badd (by simp; omega))) (ev_slice (ev_name rfl rfl rfl) (evo_some (ev_bin (ev_gint rfl rfl rfl) ev_int o_add)) evo_none (gs_bytes (by omega))) (o_badd (by simp; omega))) (fun p hp => nomatch hp)
noncomputable def tsum (tag : Str) (l : List UInt8) : Int := ck (unadj tag l)
theorem c_table_sum {tag : Str} {l : List UInt8} (hz : l.length ≤ 40000) : Ctr P (n + 4) (.ref 284) [.str tag, .bytes l] [] (.d (.int (tsum tag l))) [] := by
  have h1 := unadj_len tag l
  refine ctr_def (names := ["tag", "octets"]) (ho := rfl) (hcd := rfl) (hbind := ?_) rfl ?_ rfl rfl ?_
  · intro vs hv
    rcases vs with _ | ⟨a, _ | ⟨b, _ | ⟨_, _⟩⟩⟩ <;> first | rfl | (simp at hv)
  · decide +kernel
  intro B hB hx
  subst hB
  exact ex_retd (ev_call (ev_gref rfl rfl rfl) (cw_K rfl) rfl (evs_cons (ev_call (ev_gref rfl rfl rfl) (cw_K rfl) rfl (evs_cons (ev_name rfl rfl rfl) (evs_cons (ev_name rfl rfl rfl) evs_nil)) (c_unadj (by omega)) (Nat.le_add_left _ _) .nil) evs_nil) (c_checksum (by omega)) (Nat.le_refl _) .nil) (fun p hp => nomatch hp)
noncomputable def headOf (data : List UInt8) (c : Int) : List UInt8 := (((recs data c).map fun r => (r.tag, body data r)).lookup ("head" : Str)).getD []
noncomputable def isAdj (data : List UInt8) (c : Int) : Bool := !hasAdj "head" (headOf data c) || ck data == 2981146554
theorem head_get (data : List UInt8) (rs : List Rc) : ((((rs.map (·.tag)).zip (rs.map fun r => D.bytes (body data r))).lookup ("head" : Str)).getD (.bytes [])) = .bytes (((rs.map fun r => (r.tag, body data r)).lookup ("head" : Str)).getD []) := by
  induction rs with
  | nil => rfl
  | cons r rs ih =>
    simp only [List.map_cons, List.zip_cons_cons, List.lookup_cons]
    split
    · rfl
    · exact ih
theorem head_len (data : List UInt8) (rs : List Rc) : (((rs.map fun r => (r.tag, body data r)).lookup ("head" : Str)).getD []).length ≤ data.length := by
  induction rs with
  | nil => simp
  | cons r rs ih =>
    simp only [List.map_cons, List.lookup_cons]
    split
    · exact cut_le _ _ _
    · exact ih
theorem c_is_adjusted {data : List UInt8} {c : Int} (g : Good data c) : Ctr P (n + 8) (.ref 291) [.bytes data] [] (.d (.bool (isAdj data c))) [] := by
  have hz := g.size
  have hh := head_len data (recs data c)
  refine ctr_def (names := ["data"]) (ho := rfl) (hcd := rfl) (hbind := ?_) rfl ?_ rfl rfl ?_
  · intro vs hv
    rcases vs with _ | ⟨a, _ | ⟨_, _⟩⟩ <;> first | rfl | (simp at hv)
  · decide +kernel
  intro B hB hx
  subst hB
  refine ex_assign (ev_sub (ev_call (ev_gref rfl rfl rfl) (cw_K rfl) rfl (evs_cons (ev_name rfl rfl rfl) evs_nil) (c_read_directory g) (Nat.le_refl _) .nil) ev_int (gi_tup (by omega) rfl (by simp)) (fun o i => ⟨_, rfl⟩)) rfl ?_
  unfold isAdj
  refine ex_retd (mo1 := []) (ev_or (ev_not (ev_call (ev_gref rfl rfl rfl) (cw_K rfl) rfl (evs_cons ev_str (evs_cons (ev_meth (ev_name rfl rfl rfl) hm_get cw_b rfl (evs_cons ev_str (evs_cons ev_bytes evs_nil)) (c_get (head_get data (recs data c))).ctr (Nat.zero_le _) .nil rfl rfl) evs_nil)) (c_has_adj (by omega)) (Nat.le_add_left _ _) .nil) tru_bool) tru_bool (fun h => ?_) fun h => ?_) (fun p hp => nomatch hp)
  · unfold headOf
    rw [h, Bool.false_or]
    exact ev_cmp (ev_call (ev_gref rfl rfl rfl) (cw_K rfl) rfl (evs_cons (ev_name rfl rfl rfl) evs_nil) (c_checksum (by omega)) (Nat.le_add_left _ _) .nil) (ev_gint rfl rfl rfl) o_eq
  · unfold headOf
    rw [h]; exact ⟨rfl, rfl⟩
end

end Mine

end
section
open PySem PySem.W PySem.Calls PyProof.Rows
set_option maxRecDepth 100000
namespace Mine
section
variable {sc : Sc} {B : Bd sc} {md : Md} {mo mo' mo1 : MoL} {rest : List Stmt}
theorem et_to {e : Expr} {c c' : Bool} (x : Et B md mo e c mo1) (h : c = c') : Et B md mo e c' mo1 := h ▸ x
theorem ex_retm' {e : Expr} {pos : Pos} {a : Addr} {m : MO} {d : D} (v : Ev B md mo e (.raw (.ref a)) mo1) (ha : (a, m) ∈ mo1) (ne : ¬ B.ext a) (hm : ∀ p ∈ mo', p ∈ mo1) (hk : m.isD = true) (hd : m.d = d) : Ex B md mo (.Return (some e) pos :: rest) (Ends B mo' (.d d)) := hd ▸ ex_retm v ha ne hm hk
end
section
variable {P : Pm} {n : Nat}
noncomputable def sp (c : Int) : Int := if 4 ≤ c then 4 else if 2 ≤ c then 2 else 1
noncomputable def st (c : Int) : Int := if 4 ≤ c then 2 else if 2 ≤ c then 1 else 0
noncomputable def search (c : Int) : List Int := [16 * sp c, st c, 16 * (c - sp c)]
theorem c_search {c : Int} (h1 : 1 ≤ c) (h4 : c ≤ 4) : Ctr P (n + 1) (.ref 298) [.int c] [] (.d (.tup ((search c).map .int))) [] := by
  refine ctr_def (names := ["count"]) (ho := rfl) (hcd := rfl) (hbind := ?_) rfl ?_ rfl rfl ?_
  · intro vs hv
    rcases vs with _ | ⟨a, _ | ⟨_, _⟩⟩ <;> first | rfl | (simp at hv)
  · decide +kernel
  intro B hB hx
  subst hB
  refine ex_unpack2 (ev_tuple (evs_cons ev_int (evs_cons ev_int evs_nil)) (by simp)) unp_tup rfl rfl ?_ rfl (by intros; rfl)
  refine Ex.sub (md' := [("power", .int 1), ("steps", .int 0), ("count", .int c)]) ?_ (Sub.get (.cons rfl (.cons rfl (.cons rfl .nil))))
  have hc : c = 1 ∨ c = 2 ∨ c = 3 ∨ c = 4 := by omega
  rcases hc with rfl | rfl | rfl | rfl
  · exact ex_while (.done (et_to (et_cmp (ev_bin ev_int (ev_name rfl rfl rfl) (o_mul (mulL (by decide)))) (ev_name rfl rfl rfl) o_le) rfl)) rfl (ex_retd (ev_tuple (evs_cons (ev_bin (ev_gint rfl rfl rfl) (ev_name rfl rfl rfl) (o_mul (mulL (by decide)))) (evs_cons (ev_name rfl rfl rfl) (evs_cons (ev_bin (ev_gint rfl rfl rfl) (ev_bin (ev_name rfl rfl rfl) (ev_name rfl rfl rfl) o_sub) (o_mul (mulL (by decide)))) evs_nil))) (by simp [search])) (fun p hp => nomatch hp))
  · exact ex_while (.step (et_to (et_cmp (ev_bin ev_int (ev_name rfl rfl rfl) (o_mul (mulL (by decide)))) (ev_name rfl rfl rfl) o_le) rfl) (ex_assign (ev_bin ev_int (ev_name rfl rfl rfl) (o_mul (mulL (by decide)))) rfl (ex_assign (ev_bin (ev_name rfl rfl rfl) ev_int o_add) rfl (ex_ends (md' := [("power", .int 2), ("steps", .int 1), ("count", .int _)]) (.cons rfl (.cons rfl (.cons rfl .nil)))))) rfl (.done (et_to (et_cmp (ev_bin ev_int (ev_name rfl rfl rfl) (o_mul (mulL (by decide)))) (ev_name rfl rfl rfl) o_le) rfl))) rfl (ex_retd (ev_tuple (evs_cons (ev_bin (ev_gint rfl rfl rfl) (ev_name rfl rfl rfl) (o_mul (mulL (by decide)))) (evs_cons (ev_name rfl rfl rfl) (evs_cons (ev_bin (ev_gint rfl rfl rfl) (ev_bin (ev_name rfl rfl rfl) (ev_name rfl rfl rfl) o_sub) (o_mul (mulL (by decide)))) evs_nil))) (by simp [search])) (fun p hp => nomatch hp))
  · exact ex_while (.step (et_to (et_cmp (ev_bin ev_int (ev_name rfl rfl rfl) (o_mul (mulL (by decide)))) (ev_name rfl rfl rfl) o_le) rfl) (ex_assign (ev_bin ev_int (ev_name rfl rfl rfl) (o_mul (mulL (by decide)))) rfl (ex_assign (ev_bin (ev_name rfl rfl rfl) ev_int o_add) rfl (ex_ends (md' := [("power", .int 2), ("steps", .int 1), ("count", .int _)]) (.cons rfl (.cons rfl (.cons rfl .nil)))))) rfl (.done (et_to (et_cmp (ev_bin ev_int (ev_name rfl rfl rfl) (o_mul (mulL (by decide)))) (ev_name rfl rfl rfl) o_le) rfl))) rfl (ex_retd (ev_tuple (evs_cons (ev_bin (ev_gint rfl rfl rfl) (ev_name rfl rfl rfl) (o_mul (mulL (by decide)))) (evs_cons (ev_name rfl rfl rfl) (evs_cons (ev_bin (ev_gint rfl rfl rfl) (ev_bin (ev_name rfl rfl rfl) (ev_name rfl rfl rfl) o_sub) (o_mul (mulL (by decide)))) evs_nil))) (by simp [search])) (fun p hp => nomatch hp))
  · exact ex_while (.step (et_to (et_cmp (ev_bin ev_int (ev_name rfl rfl rfl) (o_mul (mulL (by decide)))) (ev_name rfl rfl rfl) o_le) rfl) (ex_assign (ev_bin ev_int (ev_name rfl rfl rfl) (o_mul (mulL (by decide)))) rfl (ex_assign (ev_bin (ev_name rfl rfl rfl) ev_int o_add) rfl (ex_ends (md' := [("power", .int 2), ("steps", .int 1), ("count", .int _)]) (.cons rfl (.cons rfl (.cons rfl .nil)))))) rfl (.step (et_to (et_cmp (ev_bin ev_int (ev_name rfl rfl rfl) (o_mul (mulL (by decide)))) (ev_name rfl rfl rfl) o_le) rfl) (ex_assign (ev_bin ev_int (ev_name rfl rfl rfl) (o_mul (mulL (by decide)))) rfl (ex_assign (ev_bin (ev_name rfl rfl rfl) ev_int o_add) rfl (ex_ends (md' := [("power", .int 4), ("steps", .int 2), ("count", .int _)]) (.cons rfl (.cons rfl (.cons rfl .nil)))))) rfl (.done (et_to (et_cmp (ev_bin ev_int (ev_name rfl rfl rfl) (o_mul (mulL (by decide)))) (ev_name rfl rfl rfl) o_le) rfl)))) rfl (ex_retd (ev_tuple (evs_cons (ev_bin (ev_gint rfl rfl rfl) (ev_name rfl rfl rfl) (o_mul (mulL (by decide)))) (evs_cons (ev_name rfl rfl rfl) (evs_cons (ev_bin (ev_gint rfl rfl rfl) (ev_bin (ev_name rfl rfl rfl) (ev_name rfl rfl rfl) o_sub) (o_mul (mulL (by decide)))) evs_nil))) (by simp [search])) (fun p hp => nomatch hp))
noncomputable def lmin : List Int → Int
  | [] => 0
  | [a] => a
  | a :: b :: r => if a ≤ lmin (b :: r) then a else lmin (b :: r)
theorem lmin_ok : ∀ (l : List Int), l ≠ [] → lmin l ∈ l ∧ ∀ a ∈ l, lmin l ≤ a
  | [], h => absurd rfl h
  | [a], _ => by simp [lmin]
  | a :: b :: r, _ => by
    obtain ⟨h1, h2⟩ := lmin_ok (b :: r) (by simp)
    unfold lmin
    split
    · refine ⟨.head _, fun x hx => ?_⟩
      rcases List.mem_cons.mp hx with rfl | hx
      · omega
      · have := h2 x hx; omega
    · refine ⟨.tail _ h1, fun x hx => ?_⟩
      rcases List.mem_cons.mp hx with rfl | hx
      · omega
      · exact h2 x hx
theorem c_lmin {l : List Int} (h : l ≠ []) : Pc P (.builtin "min") [.list (l.map .int)] (.int (lmin l)) := by
  obtain ⟨M, m1, m2, c⟩ := c_min (P := P) (ns := l) (List.length_pos_iff.mpr h)
  obtain ⟨h1, h2⟩ := lmin_ok l h
  have : M = lmin l := by have := m2 _ h1; have := h2 _ m1; omega
  rwa [← this]
noncomputable def fill (rs : List Rc) (r : Rc) (size : Int) : Int := lmin ([r.fin + (-r.fin).fmod 4, size] ++ (rs.filter fun o => decide (o.len > 0) && decide (o.begin' ≥ r.fin)).map (·.begin'))
theorem c_fill {rs : List Rc} {r : Rc} {size : Int} (hn : rs.length ≤ 4) : Ctr P (n + 2) (.ref 303) [.list (rs.map Rc.d), r.d, .int size] [] (.d (.int (fill rs r size))) [] := by
  have hf := List.length_filter_le (fun o : Rc => decide (o.len > 0) && decide (o.begin' ≥ r.fin)) rs
  refine ctr_def (names := ["records", "one", "size"]) (ho := rfl) (hcd := rfl) (hbind := ?_) rfl ?_ rfl rfl ?_
  · intro vs hv
    rcases vs with _ | ⟨a, _ | ⟨b, _ | ⟨c, _ | ⟨_, _⟩⟩⟩⟩ <;> first | rfl | (simp at hv)
  · decide +kernel
  intro B hB hx
  subst hB
  refine ex_comp (ev_name rfl rfl rfl) src_list (fun B' => CompR.filt Rc.d (fun o => .int o.begin') (fun o => decide (o.len > 0) && decide (o.begin' ≥ r.fin)) rs (fun o _ => et_to (et_and (et_cmp (ev_attr (attr := none) (ev_name rfl rfl rfl) fld_rc rfl rfl (by kernel_rfl) (by kernel_rfl) (by kernel_rfl) (by kernel_rfl)) ev_int o_gt) fun _ => et_and (et_cmp (ev_attr (attr := none) (ev_name rfl rfl rfl) fld_rc rfl rfl (by kernel_rfl) (by kernel_rfl) (by kernel_rfl) (by kernel_rfl)) (ev_meth (ev_name rfl rfl rfl) (hm_inst fld_rc rfl (by kernel_rfl) (by kernel_rfl) (by kernel_rfl)) (cw_K rfl) rfl evs_nil c_rc_end (Nat.le_add_left _ _) .nil rfl rfl) o_ge) fun _ => et_and_nil) (by rw [Bool.and_true])) fun o _ _ => (ev_attr (attr := none) (ev_name rfl rfl rfl) fld_rc rfl rfl (by kernel_rfl) (by kernel_rfl) (by kernel_rfl) (by kernel_rfl))) rfl rfl (by simp; omega) rfl rfl fun a ha => ?_
  refine Ex.freeze ha rfl ?_
  refine ex_retd (ev_call (ev_builtin rfl rfl (by decide) rfl rfl) cw_b rfl (evs_cons (ev_bin (En.evl (en_list (evs_cons (ev_bin (ev_meth (ev_name rfl rfl rfl) (hm_inst fld_rc rfl (by kernel_rfl) (by kernel_rfl) (by kernel_rfl)) (cw_K rfl) rfl evs_nil c_rc_end (Nat.le_add_left _ _) .nil rfl rfl) (ev_bin (ev_neg (ev_meth (ev_name rfl rfl rfl) (hm_inst fld_rc rfl (by kernel_rfl) (by kernel_rfl) (by kernel_rfl)) (cw_K rfl) rfl evs_nil c_rc_end (Nat.le_add_left _ _) .nil rfl rfl)) ev_int (o_mod (by omega))) o_add) (evs_cons (ev_name rfl rfl rfl) evs_nil)) (by simp))) (ev_name rfl rfl rfl) (o_ladd (by simp only [List.length_map, List.length_cons, List.length_nil]; omega))) evs_nil) ?_ (Nat.zero_le _) .nil) (fun p hp => nomatch hp)
  have := (c_lmin (P := B.P) (l := [r.fin + (-r.fin).fmod 4, size] ++ (rs.filter fun o => decide (o.len > 0) && decide (o.begin' ≥ r.fin)).map (·.begin')) (by simp)).ctr
  rw [List.map_append, List.map_map] at this
  exact this
noncomputable def zer (l : List UInt8) : List UInt8 := List.replicate (l.length : Int).toNat 0
noncomputable def behind (data : List UInt8) (rs : List Rc) (r : Rc) : List UInt8 := cut data (some r.fin) (some (fill rs r data.length))
noncomputable def words (data : List UInt8) (rs : List Rc) (r : Rc) : List Str :=
  (if r.begin'.fmod 4 != 0 then [("fours" : Str)] else []) ++ (if behind data rs r != zer (behind data rs r) then [("noughts" : Str)] else []) ++ (if tsum r.tag (body data r) != r.total then [("sum" : Str)] else [])
theorem ex_app {sc : Sc} {B : Bd sc} {md : Md} {a : Addr} {ds ds' : List D} {c : Bool} {test e : Expr} {x : Str} {p1 p2 p3 p4 p5 : Pos} {rest : List Stmt} {R : Flow → Heap → Prop}
    (t : Et B md [(a, .lst ds)] test c [(a, .lst ds)]) (hl : md.lookup x = some (.raw (.ref a))) (k : kld sc x = true) (hd : (x == ("__debug__" : Str)) = false) (hz : ds.length ≤ 1000) (hb : (decide (1 < 30) && p2.endLine == p3.line) = true)
    (hs : swapsWith (.Call (.Attribute (.Name x p1) "append" p2) [e] [] p3) none p4.line B.env = pure false) (ha : attributeBase (.Name x p1) "append" B.env (eval (.Name x p1) B.env) = eval (.Name x p1) B.env) (hn : noStar [e] = true)
    {d : D} (he : Ev B md [(a, .lst ds)] e d [(a, .lst ds)]) (hds : ds' = ds ++ (if c then [d] else [])) (hse : starEach [e] B.env = (false, eval e B.env) :: starEach [] B.env)
    (r : Ex B md [(a, .lst ds')] rest R) : Ex B md [(a, .lst ds)] (.If test [.Expr (.Call (.Attribute (.Name x p1) "append" p2) [e] [] p3) p4] [] p5 :: rest) R := by
  refine ex_if (md' := md) (mo2 := [(a, .lst ds')]) t (fun h => ?_) (fun h => ?_) rfl r
  · rw [hds, h]
    exact ex_expr (ev_meth (ev_name hl k hd) (hm_append (.head _)) cw_b hn (evs_cons he evs_nil hse) (c_append (by omega)) (Nat.zero_le _) .here ha hb) ex_end hs
  · rw [hds, h, if_neg (by simp), List.append_nil]
    exact ex_end
theorem ev_empty {sc : Sc} {B : Bd sc} {md : Md} {mo : MoL} {pos : Pos} : En B md mo (.List [] pos) (.lst []) mo := en_list evs_nil (by simp)
theorem c_record_words {data : List UInt8} {c : Int} (g : Good data c) {r : Rc} (hr : r ∈ recs data c) : Ctr P (n + 5) (.ref 310) [.bytes data, .list ((recs data c).map Rc.d), r.d] [] (.d (.list ((words data (recs data c) r).map .str))) [] := by
  have hz := g.size
  have hl := g.num
  have h4 := g.c4
  have hb := cut_le data (some r.fin) (some (fill (recs data c) r data.length))
  have hb2 := cut_le data (some r.begin') (some r.fin)
  refine ctr_def (names := ["data", "records", "one"]) (ho := rfl) (hcd := rfl) (hbind := ?_) rfl ?_ rfl rfl ?_
  · intro vs hv
    rcases vs with _ | ⟨a, _ | ⟨b, _ | ⟨c, _ | ⟨_, _⟩⟩⟩⟩ <;> first | rfl | (simp at hv)
  · decide +kernel
  intro B hB hx
  subst hB
  refine ex_new ev_empty rfl fun a ha => ?_
  refine ex_app (et_cmp (ev_bin (ev_attr (attr := none) (ev_name rfl rfl rfl) fld_rc rfl rfl (by kernel_rfl) (by kernel_rfl) (by kernel_rfl) (by kernel_rfl)) ev_int (o_mod (by omega))) ev_int o_ne) rfl rfl rfl (by simp) rfl rfl rfl rfl ev_str rfl rfl ?_
  refine ex_assign (ev_slice (ev_name rfl rfl rfl) (evo_some (ev_meth (ev_name rfl rfl rfl) (hm_inst fld_rc rfl (by kernel_rfl) (by kernel_rfl) (by kernel_rfl)) (cw_K rfl) rfl evs_nil c_rc_end (Nat.le_add_left _ _) .nil rfl rfl)) (evo_some (ev_call (ev_gref rfl rfl rfl) (cw_K rfl) rfl (evs_cons (ev_name rfl rfl rfl) (evs_cons (ev_name rfl rfl rfl) (evs_cons (ev_call (ev_builtin rfl rfl (by decide) rfl rfl) cw_b rfl (evs_cons (ev_name rfl rfl rfl) evs_nil) (pc_len_bytes (by omega)).ctr (Nat.zero_le _) .nil) evs_nil))) (c_fill (by omega)) (Nat.le_add_left _ _) .nil)) (gs_bytes (by omega))) rfl ?_
  refine ex_app (et_cmp (ev_name rfl rfl rfl) (ev_call (ev_builtin rfl rfl (by decide) rfl rfl) cw_t rfl (evs_cons (ev_call (ev_builtin rfl rfl (by decide) rfl rfl) cw_b rfl (evs_cons (ev_name rfl rfl rfl) evs_nil) (pc_len_bytes (by omega)).ctr (Nat.zero_le _) .nil) evs_nil) (lstr_bytes_int (by omega) (by omega)).ctr (Nat.zero_le _) .nil) o_bne) rfl rfl rfl (by split <;> simp) rfl rfl rfl rfl ev_str rfl rfl ?_
  refine ex_app (et_cmp (ev_call (ev_gref rfl rfl rfl) (cw_K rfl) rfl (evs_cons (ev_attr (attr := none) (ev_name rfl rfl rfl) fld_rc rfl rfl (by kernel_rfl) (by kernel_rfl) (by kernel_rfl) (by kernel_rfl)) (evs_cons (ev_slice (ev_name rfl rfl rfl) (evo_some (ev_attr (attr := none) (ev_name rfl rfl rfl) fld_rc rfl rfl (by kernel_rfl) (by kernel_rfl) (by kernel_rfl) (by kernel_rfl))) (evo_some (ev_meth (ev_name rfl rfl rfl) (hm_inst fld_rc rfl (by kernel_rfl) (by kernel_rfl) (by kernel_rfl)) (cw_K rfl) rfl evs_nil c_rc_end (Nat.le_add_left _ _) .nil rfl rfl)) (gs_bytes (by omega))) evs_nil)) (c_table_sum (by omega)) (Nat.le_add_left _ _) .nil) (ev_attr (attr := none) (ev_name rfl rfl rfl) fld_rc rfl rfl (by kernel_rfl) (by kernel_rfl) (by kernel_rfl) (by kernel_rfl)) o_ne) rfl rfl rfl (by split <;> split <;> simp) rfl rfl rfl rfl ev_str rfl rfl ?_
  refine ex_retm' (ev_name rfl rfl rfl) (.head _) ha (fun p hp => nomatch hp) rfl ?_
  unfold words behind zer tsum body
  show D.list _ = D.list _
  congr 1
  simp only [List.map_append, List.nil_append]
  congr 1
  · congr 1
    · split <;> rfl
    · split <;> rfl
  · split <;> rfl
noncomputable def pr (p : Str × Str) : D := .tup [.str p.1, .str p.2]
noncomputable def told (data : List UInt8) (rs : List Rc) (r : Rc) : List (Str × Str) := (words data rs r).map fun w => (r.tag, w)
noncomputable def heads (data : List UInt8) (c : Int) : List (Str × Str) := if !PyData.eqv (.tuple [.int (rd data 6 2), .int (rd data (6 + 2) 2), .int (rd data (6 + 2 + 2) 2)]) (.tuple ((search c).map .int)) then [(("" : Str), ("searching" : Str))] else []
noncomputable def faults (data : List UInt8) (c : Int) : List (Str × Str) := (recs data c).foldl (fun s r => s ++ told data (recs data c) r) (heads data c) ++ (if !isAdj data c then [(("head" : Str), ("whole" : Str))] else [])
theorem ev_to {sc : Sc} {B : Bd sc} {md : Md} {mo mo1 : MoL} {e : Expr} {d d' : D} (x : Ev B md mo e d mo1) (h : d = d') : Ev B md mo e d' mo1 := h ▸ x
theorem words_len (data : List UInt8) (rs : List Rc) (r : Rc) : (words data rs r).length ≤ 3 := by
  unfold words
  simp only [List.length_append]
  split <;> split <;> split <;> simp
theorem c_faults {data : List UInt8} {c : Int} (g : Good data c) : Ctr P (n + 9) (.ref 315) [.bytes data] [] (.d (.list ((faults data c).map pr))) [] := by
  have hz := g.size
  have hl := g.num
  have h1 := g.c1
  have h4 := g.c4
  have hr := g.room
  have hlen : ∀ (l : List Rc) (s : List (Str × Str)), s.length + 3 * l.length ≤ 100 → (l.foldl (fun s r => s ++ told data (recs data c) r) s).length ≤ 100 := by
    intro l
    induction l with
    | nil => intro s h; simpa using h
    | cons r l ih =>
      intro s h
      refine ih _ ?_
      have := words_len data (recs data c) r
      simp only [List.length_append, told, List.length_map, List.length_cons] at h ⊢
      omega
  refine ctr_def (names := ["data"]) (ho := rfl) (hcd := rfl) (hbind := ?_) rfl ?_ rfl rfl ?_
  · intro vs hv
    rcases vs with _ | ⟨a, _ | ⟨_, _⟩⟩ <;> first | rfl | (simp at hv)
  · decide +kernel
  intro B hB hx
  subst hB
  refine ex_unpack2 (ev_call (ev_gref rfl rfl rfl) (cw_K rfl) rfl (evs_cons (ev_name rfl rfl rfl) (evs_cons ev_int evs_nil)) (c_read_records g) (Nat.le_add_left _ _) .nil) unp_tup rfl rfl ?_ rfl (by intros; rfl)
  refine ex_new ev_empty rfl fun a ha => ?_
  refine ex_app (ds' := (heads data c).map pr) (et_cmp (ev_call (ev_builtin rfl rfl (by decide) rfl rfl) cw_t rfl (evs_cons (ev_methn (eo_call (ev_gref rfl rfl rfl) (cw_K rfl) rfl (evs_cons (ev_name rfl rfl rfl) (evs_cons ev_int evs_nil)) c_oi (Nat.le_add_left _ _) .nil) (fun dx => (hm_inst (.obj (.head _)) rfl (by kernel_rfl) (by kernel_rfl) (by kernel_rfl))) (cw_K rfl) rfl (fun dx => evs_cons ev_int evs_nil) (fun dx => c_oi_rows3 (by omega) (by omega) (by omega)) (Nat.le_add_left _ _) rfl rfl) evs_nil) (pc_tuple (by simp)).ctr (Nat.zero_le _) .nil)
    (ev_call (ev_gref rfl rfl rfl) (cw_K rfl) rfl (evs_cons (ev_to (ev_call (ev_builtin rfl rfl (by decide) rfl rfl) cw_b rfl (evs_cons (ev_name rfl rfl rfl) evs_nil) (pc_len_list (by simp; omega)).ctr (Nat.zero_le _) .nil) (show D.int _ = D.int c by rw [List.length_map, hl]; congr 1; omega)) evs_nil) (c_search h1 h4) (Nat.le_add_left _ _) .nil)
    (o_dne (a := .tuple [.int (rd data 6 2), .int (rd data (6 + 2) 2), .int (rd data (6 + 2 + 2) 2)]) (b := .tuple ((search c).map .int)) rfl rfl (by simp [PyData.depth, PyData.depthAll]))) rfl rfl rfl (by simp) rfl rfl rfl rfl (ev_tuple (evs_cons ev_str (evs_cons ev_str evs_nil)) (by simp)) ?_ rfl ?_
  · unfold heads
    rw [List.nil_append]
    split <;> rfl
  refine Ex.sub (md' := [("found", .raw (.ref a)), ("records", .list ((recs data c).map Rc.d)), ("data", .bytes data)]) ?_ (Sub.get (.cons rfl (.cons rfl (.cons rfl .nil))))
  refine ex_for (ev_name rfl rfl rfl) src_list (ForR.run Rc.d (fun s r => s ++ told data (recs data c) r) (fun _ => [("found", .raw (.ref a)), ("records", .list ((recs data c).map Rc.d)), ("data", .bytes data)]) (fun s => [(a, .lst (s.map pr))])
    (fun s l => (∀ r ∈ l, r ∈ recs data c) ∧ s.length + 3 * l.length ≤ 100) ?_ (recs data c) (heads data c) ?_) rfl ?_
  · rintro s r l ⟨hm, hs⟩
    have hw := words_len data (recs data c) r
    refine ⟨⟨fun q hq => hm q (.tail _ hq), ?_⟩, fun I o => ?_, rfl⟩
    · simp only [List.length_append, told, List.length_map, List.length_cons] at hs ⊢
      omega
    · refine ex_expr (ev_meth (ev_name rfl rfl rfl) (hm_extend (.tail _ (.head _))) cw_b rfl (evs_cons (En.evl (en_comp (ev_call (ev_gref rfl rfl rfl) (cw_K rfl) rfl (evs_cons (ev_name rfl rfl rfl) (evs_cons (ev_name rfl rfl rfl) (evs_cons (ev_name rfl rfl rfl) evs_nil))) (c_record_words g (hm r (.head _))) (Nat.le_add_left _ _) .nil) src_list (fun B' => CompR.map .str (fun w => pr (r.tag, w)) (words data (recs data c) r) fun w hw => ev_tuple (evs_cons (ev_attr (attr := none) (ev_name rfl rfl rfl) fld_rc rfl rfl (by kernel_rfl) (by kernel_rfl) (by kernel_rfl) (by kernel_rfl)) (evs_cons (ev_name rfl rfl rfl) evs_nil)) (by simp)) rfl rfl (by simp; omega))) evs_nil)
        (c_extend (ds := s.map pr) (by simp; simp at hs; omega)) (Nat.zero_le _) (.there .here) rfl rfl) ?_
      rw [show s.map pr ++ (words data (recs data c) r).map (fun w => pr (r.tag, w)) = (s ++ told data (recs data c) r).map pr from by unfold told; rw [List.map_append, List.map_map]; rfl]
      exact ex_ends (.cons rfl (.cons rfl (.cons rfl .nil)))
  · refine ⟨fun r h => h, ?_⟩
    rw [hl]
    unfold heads
    split <;> simp <;> omega
  · have hh := hlen (recs data c) (heads data c) (by rw [hl]; unfold heads; split <;> simp <;> omega)
    refine ex_app (ds' := (faults data c).map pr) (et_not (et_val (ev_call (ev_gref rfl rfl rfl) (cw_K rfl) rfl (evs_cons (ev_name rfl rfl rfl) evs_nil) (c_is_adjusted g) (Nat.le_add_left _ _) .nil) tru_bool)) rfl rfl rfl (by rw [List.length_map]; omega) rfl rfl rfl rfl (ev_tuple (evs_cons ev_str (evs_cons ev_str evs_nil)) (by simp)) ?_ rfl ?_
    · unfold faults
      rw [List.map_append]
      congr 1
      split <;> rfl
    · exact ex_retm' (ev_name rfl rfl rfl) (.head _) ha (fun p hp => nomatch hp) rfl rfl
end

end Mine

end
section
open PySem PySem.W PySem.Calls PyProof.Rows
set_option maxRecDepth 100000
namespace Mine
section
variable {P : Pm}
theorem sorted_dict {ks : List Str} {ds : List D} (h1 : 1 ≤ ks.length) (h5 : ks.length ≤ 5) (hd : ks.Pairwise lt) : Pn P (.builtin "sorted") [.dict ks ds] (.lst (ks.map .str)) := fun A X h vs ok bs rs => by
  obtain ⟨v, rfl, r⟩ := reps1 rs
  rw [rep_dict] at r; obtain ⟨a, us, ep, rfl, nx, ⟨q0, q1⟩, q2, q3⟩ := r
  have hzl : (ks.zip us).length = ks.length := by rw [List.length_zip]; omega
  have rk : ∀ i j (hi : i < ks.length) (hj : j < ks.length), i ≠ j → (decide (ks[i].cps.toList < ks[j].cps.toList) = rkF (List.range ks.length) i j) := by
    intro i j hi hj hij
    unfold rkF
    have e1 : (List.range ks.length).getD i 0 = i := by simp [List.getD_eq_getElem?_getD, hi]
    have e2 : (List.range ks.length).getD j 0 = j := by simp [List.getD_eq_getElem?_getD, hj]
    rw [e1, e2]
    refine decide_eq_decide.mpr ⟨fun h => ?_, fun h => List.pairwise_iff_getElem.mp hd i j hi hj h⟩
    rcases Nat.lt_or_gt_of_ne hij with q | q
    · exact q
    · have := List.pairwise_iff_getElem.mp hd j i hj hi q
      exact absurd (List.lt_trans h this) (List.lt_irrefl _)
  obtain ⟨p, sp, g1, g2⟩ := srt_exists (n := ks.length) (r := List.range ks.length) h1 h5 (by simp) (by simp) List.nodup_range
  have hpl := sp.len
  have hp : p = List.range ks.length := by
    have e := sp.eq
    have : p.map (fun i => (List.range ks.length).getD i 0) = p := by
      have : ∀ i ∈ p, (List.range ks.length).getD i 0 = i := fun i hi => by simp [List.getD_eq_getElem?_getD, sp.lt i hi]
      exact (List.map_congr_left this).trans (by simp)
    rw [← this]; exact e
  refine .of fun tk Q hq => call_function_entry kind_sorted plain_sorted entry_sorted (args_sorted1 _) ?_
  unfold Builtin.«sorted»
  refine wpAny_bind (m := checkCount "sorted" 1 1 _) (wpAny_pure ?_)
  refine wpAny_bind (kdu_collect (A := A.in1) (kdl_dict (knd := strKind P.prog P.w) (kvs := ks.zip us) (ep := ep) q0) ok.1 q1 (by rw [hzl, sizeLine_eq]; omega) fun h' tk' acc hk hacc => ?_)
  have hal : acc.toList.length = ks.length := by rw [Array.length_toList, hacc.1, hzl]
  have rows : ∀ i (hi : i < ks.length), ∃ t, acc.toList[i]? = some (.str ks[i] t) := by
    intro i hi
    obtain ⟨v, e⟩ : ∃ v, acc[i]? = some v := ⟨_, Array.getElem?_eq_getElem (by rw [hacc.1, hzl]; exact hi)⟩
    obtain ⟨k, x, e1, e2⟩ := hacc.2 i v e
    rw [List.getElem?_zip_eq_some] at e1
    obtain ⟨t, rfl⟩ := Value.isStrOf_shape e2
    have : ks[i] = k := by have := e1.1; rw [List.getElem?_eq_getElem hi] at this; exact Option.some.inj this
    exact ⟨t, by rw [Array.getElem?_toList, e, this]⟩
  have hstrs : StrsAre acc.toList ks := by
    have gen : ∀ (vs : List Value) (ss : List Str), vs.length = ss.length → (∀ i (hi : i < ss.length), ∃ t, vs[i]? = some (.str ss[i] t)) → StrsAre vs ss := by
      intro vs
      induction vs with
      | nil => intro ss e _; cases ss with | nil => exact .nil | cons _ _ => simp at e
      | cons v vs ih =>
        intro ss e hr
        cases ss with
        | nil => simp at e
        | cons s ss =>
          obtain ⟨t, ht⟩ := hr 0 (by simp)
          simp at ht; subst ht
          exact .cons s t (ih ss (by simpa using e) fun i hi => by obtain ⟨t, ht⟩ := hr (i + 1) (by simpa using hi); exact ⟨t, by simpa using ht⟩)
    exact gen _ _ hal rows
  refine sort_tail (n := ks.length) (κ₀ := oneType') hal h5 sp g1 g2 (fun h2 s' k Q' hQ' => ?_) (fun i j C s' k hi hj hij hC => ?_) fun H c tk' D dD kH e => ?_
  · rcases hvs : acc.toList with _ | ⟨v1, _ | ⟨v2, rest⟩⟩
    · rw [hvs] at hal; simp at hal; omega
    · rw [hvs] at hal; simp at hal; omega
    · rw [keyKind_strs (by rw [← hvs]; exact hstrs)]
      exact wpAny_pure hQ'
  · obtain ⟨t1, e1⟩ := rows i hi
    obtain ⟨t2, e2⟩ := rows j hj
    rw [List.getD_eq_getElem?_getD, List.getD_eq_getElem?_getD, e1, e2]
    refine kas_lt_str ?_
    rw [rk i j hi hj hij]
    exact hC s'.toks
  · have dD' : h.get? D = none := by
      cases q : h.get? D with
      | none => rfl
      | some o => have := hk _ _ q; rw [dD] at this; cases this
    have ke : Ke h H := fun b o e => kH b o (hk b o e)
    refine hq _ _ _ ⟨ke, D, rfl, dD', _, ⟨c, e⟩, ?_⟩
    rw [hp]
    have e4 : (List.range ks.length).map (fun i => acc.toList.getD i Value.none) = acc.toList := by
      apply List.ext_getElem
      · simp [hal]
      · intro i h1 h2
        rw [List.getElem_map, List.getElem_range, List.getD_eq_getElem?_getD, List.getElem?_eq_getElem h2]; rfl
    rw [e4]
    have gen : ∀ {vs : List Value} {ss : List Str}, StrsAre vs ss → Reps P (fun b => X b ∨ b = D) H vs (ss.map .str) := by
      intro vs ss hs
      induction hs with
      | nil => simp only [List.map_nil, Reps]
      | cons n t _ ih => rw [List.map_cons, reps_cons, rep_str]; exact ⟨⟨_, rfl⟩, ih⟩
    exact gen hstrs
noncomputable def D.flat : D → Bool
  | .none | .bool _ | .int _ | .str _ | .bytes _ | .raw _ => true
  | _ => false
theorem Rep.flat {X X' : Addr → Prop} {h h' : Heap} {v : Value} {d : D} (hf : d.flat = true) (r : Rep P X h v d) : Rep P X' h' v d := by
  cases d <;> first | (simp only [Rep] at r ⊢; exact r) | cases hf
theorem Reps.flat {X X' : Addr → Prop} {h h' : Heap} : ∀ {vs : List Value} {ds : List D}, (ds.all D.flat) = true → Reps P X h vs ds → Reps P X' h' vs ds
  | [], [], _, _ => by simp only [Reps]
  | v :: vs, d :: ds, hf, r => by
    rw [List.all_cons, Bool.and_eq_true] at hf
    rw [reps_cons] at r ⊢
    exact ⟨r.1.flat hf.1, Reps.flat hf.2 r.2⟩
  | [], _ :: _, _, r => by simp only [Reps] at r
  | _ :: _, [], _, r => by simp only [Reps] at r
theorem MoAt.view {X : Addr → Prop} {h : Heap} {a : Addr} {m : MO} (x : MoAt P X h a m) (hm : m.isD = true) : Rep P (fun _ => False) h (.ref a) m.d := (x.ex fun _ _ _ f => f.elim).rep (fun f => f) hm
theorem Base.no {X : Addr → Prop} {h : Heap} (b : Base P X h) : Base P (fun _ => False) h := ⟨b.top, fun _ f => f.elim, fun _ f => f.elim⟩
theorem Pc.view {f : Value} {a : Addr} {m : MO} {r : D} (c : Pc P f [m.d] r) (hm : m.isD = true) (hr : r.flat = true) : Ctr P 0 f [.raw (.ref a)] [(a, m)] (.d r) [(a, m)] := fun A X h vs ok bs rs hmo nd => by
  obtain ⟨v, rfl, r1⟩ := reps1 rs
  rw [rep_raw] at r1; subst r1
  obtain ⟨xa, q⟩ := hmo _ (.head _)
  refine (c A _ h [.ref a] ok bs.no (Reps.one (q.view hm))).mono fun v h' ⟨k, rr⟩ => ⟨k.kp, fun p hp => ?_, rfl, rr.flat hr⟩
  rw [List.mem_singleton] at hp; subst hp
  exact q.ke k
theorem Pn.view {f : Value} {a : Addr} {m : MO} {ds : List D} (c : Pn P f [m.d] (.lst ds)) (hm : m.isD = true) (hr : ds.all D.flat = true) : Ctr P 0 f [.raw (.ref a)] [(a, m)] (.n (.lst ds)) [(a, m)] := fun A X h vs ok bs rs hmo nd => by
  obtain ⟨v, rfl, r1⟩ := reps1 rs
  rw [rep_raw] at r1; subst r1
  obtain ⟨xa, q⟩ := hmo _ (.head _)
  refine (c A _ h [.ref a] ok bs.no (Reps.one (q.view hm))).mono fun v h' ⟨k, D, e, n, us, l, rr⟩ => ⟨k.kp, fun p hp => ?_, rfl, D, e, n, fun p hp => ?_⟩
  · rw [List.mem_singleton] at hp; subst hp
    exact q.ke k
  · rcases List.mem_cons.mp hp with rfl | hp
    · exact ⟨us, l, rr.flat hr⟩
    · rw [List.mem_singleton] at hp; subst hp
      exact (q.also n).ke k
end
section
variable {sc : Sc} {B : Bd sc} {md : Md} {mo mo' mo1 mo2 : MoL} {rest : List Stmt} {R : Flow → Heap → Prop}
theorem Al.no (h : Heap) : Al (fun _ => False) h := fun _ f => f.elim
theorem et_cmpv {l r : Expr} {op : CmpOp} {pos : Pos} {a : Addr} {m : MO} {b : D} {c : Bool} (x : Ev B md mo l (.raw (.ref a)) mo1) (y : Ev B md mo1 r b mo2) (ha : (a, m) ∈ mo2) (hm : m.isD = true) (o : Op2 B.P (compareOp op) m.d b (.bool c)) (hk : behindInMarks op r = false := by rfl) : Et B md mo (.Compare l [op] [r] pos) c mo2 := fun h s => .of fun tk Q hq =>
  wpAny_isTrue_Compare1 ((x h s).to fun u h1 tk1 ⟨g1, r1⟩ => (y h1 g1.s).to fun v h2 tk2 ⟨g2, r2⟩ => by
    rw [rep_raw] at r1; subst r1
    exact (o B.A _ h2 (.ref a) v B.ok0 (Al.no h2) ((g2.s.mos _ ha).1.view hm) (r2.ex fun _ _ _ f => f.elim)).to fun w h3 tk3 ⟨k3, r3⟩ => by
      rw [rep_bool] at r3; subst r3
      exact wpAny_truthy_bool (hq _ _ _ ⟨rfl, (g1.trans g2).ke k3⟩)) hk
theorem et_cmpv2 {l r : Expr} {op : CmpOp} {pos : Pos} {a : Addr} {m : MO} {b : D} {c : Bool} (x : Ev B md mo l b mo1) (y : Ev B md mo1 r (.raw (.ref a)) mo2) (ha : (a, m) ∈ mo2) (hm : m.isD = true) (o : Op2 B.P (compareOp op) b m.d (.bool c)) (hk : behindInMarks op r = false := by rfl) : Et B md mo (.Compare l [op] [r] pos) c mo2 := fun h s => .of fun tk Q hq =>
  wpAny_isTrue_Compare1 ((x h s).to fun u h1 tk1 ⟨g1, r1⟩ => (y h1 g1.s).to fun v h2 tk2 ⟨g2, r2⟩ => by
    rw [rep_raw] at r2; subst r2
    exact (o B.A _ h2 u (.ref a) B.ok0 (Al.no h2) ((g2.rep r1).ex fun _ _ _ f => f.elim) ((g2.s.mos _ ha).1.view hm)).to fun w h3 tk3 ⟨k3, r3⟩ => by
      rw [rep_bool] at r3; subst r3
      exact wpAny_truthy_bool (hq _ _ _ ⟨rfl, (g1.trans g2).ke k3⟩)) hk
theorem ev_subv {value slice : Expr} {pos : Pos} {a : Addr} {m : MO} {b d : D} (x : Ev B md mo value (.raw (.ref a)) mo1) (y : Ev B md mo1 slice b mo2) (ha : (a, m) ∈ mo2) (hm : m.isD = true) (hf : d.flat = true) (g : Gi B.P m.d b d) (hs : ∀ o i, ∃ ops, subscripted slice false o i = operate ops (getItem o i)) : Ev B md mo (.Subscript value slice pos) d mo2 := fun h s => .of fun tk Q hq =>
  Subscript_ ((x h s).to fun u h1 tk1 ⟨g1, r1⟩ => (y h1 g1.s).to fun v h2 tk2 ⟨g2, r2⟩ => by
    rw [rep_raw] at r1; subst r1
    obtain ⟨⟨T, id, hl, hT⟩, run⟩ := g B.A _ h2 (.ref a) v B.ok0 (Al.no h2) ((g2.s.mos _ ha).1.view hm) (r2.ex fun _ _ _ f => f.elim)
    obtain ⟨ops, e⟩ := hs (.ref a) v
    exact tail_any (hT tk2) hl (run.to fun r h3 tk3 ⟨k3, r3⟩ => hq _ _ _ ⟨(g1.trans g2).ke k3, r3.flat hf⟩) e)
theorem en_dict {pos : Pos} : En B md mo (.Dict [] [] pos) (.dct [] []) mo := fun h s => .of fun tk Q hq =>
  wpAny_Dict_empty (hq _ _ _ ⟨s.goKe (Ke.push _ _), _, rfl, size_none _, fun p hp => by
    rcases List.mem_cons.mp hp with rfl | hp
    · have hnew : (h.push { cls := .type "dict", data := .dict #[] }).DictOf (strKind B.P.prog B.P.w) h.objs.size [] := Heap.DictOf.new h
      obtain ⟨ep, hat⟩ := hnew.dictAt
      exact ⟨[], ep, ⟨big s.base, hat⟩, rfl, by simp only [Reps]⟩
    · exact ((s.mos p hp).1.also (size_none _)).ke (Ke.push _ _)⟩)
end

end Mine

end
section
open PySem PySem.W PySem.Calls PyProof.Rows
set_option maxRecDepth 100000
namespace Mine
theorem enc_cmap (t u : Tok) : Builtin.«str.encode» ⟨[.str "cmap" t, .str "ascii" u], []⟩ = (mkBytes #[99, 109, 97, 112] >>= fun b => ret b) := by kernel_rfl
theorem enc_head (t u : Tok) : Builtin.«str.encode» ⟨[.str "head" t, .str "ascii" u], []⟩ = (mkBytes #[104, 101, 97, 100] >>= fun b => ret b) := by kernel_rfl
theorem enc_maxp (t u : Tok) : Builtin.«str.encode» ⟨[.str "maxp" t, .str "ascii" u], []⟩ = (mkBytes #[109, 97, 120, 112] >>= fun b => ret b) := by kernel_rfl
theorem enc_zzzz (t u : Tok) : Builtin.«str.encode» ⟨[.str "zzzz" t, .str "ascii" u], []⟩ = (mkBytes #[122, 122, 122, 122] >>= fun b => ret b) := by kernel_rfl
theorem slot_bj : Slot "bytes" "join" "bytes.join" :=
  .of (owner := "bytes") (n := "join") (by rw [typeLookup_type, builtinLookup_eq_fast]; kernel_rfl) (by decide +kernel) (by decide +kernel) (by decide +kernel)
    (by first | exact .inl (by decide +kernel) | exact .inr (by decide +kernel)) (by rw [isSubtype_type]; kernel_rfl)
theorem entry_bj : entryFor table "bytes.join" = some Builtin.«bytes.join» := by first | exact entryFor_of_fast (by kernel_rfl) | exact entryFor_of_tree (by kernel_rfl)
theorem type_bj : typeOf (.builtin "bytes.join") = pure (.type "method_descriptor") := by kernel_rfl
theorem args_bj (a b : Value) : argsOk "bytes.join" ⟨[a, b], []⟩ := by unfold argsOk; kernel_rfl
theorem args_enc (a b : Value) : argsOk "str.encode" ⟨[a, b], []⟩ := by unfold argsOk; kernel_rfl
theorem tb_bytes (id : String) (b : Array UInt8) (t : Tok) : Builtin.Bytes.takeBufferQuiet? id (.bytes b t) 0 = pure (some (b, none)) := by kernel_rfl
theorem pl_bytes (b : Array UInt8) (t : Tok) : Builtin.Bytes.payload (.bytes b t) = pure b := by kernel_rfl
section
variable {prog : Program} {w : World} {A : Around} {E : Value → Shared → Prop} {s : Shared}
theorem join3 {l : Addr} {n : Nat} {t : Tok} {b1 b2 b3 : Array UInt8} {t1 t2 t3 : Tok} {Q : PySem.Fin → Shared → Prop} (hl : s.heap.get? l = some { cls := .type "list", data := .seq #[.bytes b1 t1, .bytes b2 t2, .bytes b3 t3] n })
    (hz : b1.size + b2.size + b3.size ≤ 1000) (hQ : ∀ t k, Q (.done (.ret (.bytes (b1 ++ b2 ++ b3) t))) { s with toks := k }) : wpAny (model prog w) A (Builtin.«bytes.join» ⟨[.bytes #[] t, .ref l], []⟩) Q E s := by
  obtain ⟨hp, g, d, tk, os⟩ := s
  unfold Builtin.«bytes.join» Builtin.Bytes.joinM
  with_reducible refine wpAny_bind ?_
  with_reducible refine wpAny_of_eq (a := (.bytes #[] t, .ref l)) ?_ ?_
  · kernel_rfl
  dsimp only
  rw [if_pos (by decide)]
  with_reducible refine wpAny_bind ?_
  unfold Builtin.Bytes.joinItems
  with_reducible refine wpAny_bind ?_
  refine wpAny_typeOf (T := "list") ⟨_, hl, rfl⟩ ?_
  rw [if_pos (by decide)]
  with_reducible refine wpAny_pure ?_
  with_reducible refine wpAny_bind ?_
  refine wpAny_seqItems hl rfl ?_
  dsimp only
  rw [if_pos (by decide)]
  refine wpAny_bind ?_
  rw [Std.Legacy.Range.forIn_eq_forIn_range']
  rw [show List.range' ([:(#[Value.bytes b1 t1, Value.bytes b2 t2, Value.bytes b3 t3] : Array Value).size] : Std.Legacy.Range).start ([:(#[Value.bytes b1 t1, Value.bytes b2 t2, Value.bytes b3 t3] : Array Value).size] : Std.Legacy.Range).size ([:(#[Value.bytes b1 t1, Value.bytes b2 t2, Value.bytes b3 t3] : Array Value).size] : Std.Legacy.Range).step = [0, 1, 2] from by simp [Std.Legacy.Range.size, List.range']]
  rw [List.forIn_cons]
  with_reducible refine wpAny_bind ?_
  with_reducible refine wpAny_bind ?_
  refine wpAny_seqItems hl rfl ?_
  dsimp only
  rw [if_neg (by first | exact Bool.false_ne_true | simp [Value.onHeap])]
  with_reducible refine wpAny_bind ?_
  with_reducible refine wpAny_holding ?_
  refine wpAny_of_eq (a := some (b1, none)) ?_ ?_
  · exact tb_bytes _ _ _
  dsimp only
  with_reducible refine wpAny_bind ?_
  refine wpAny_seqItems hl rfl ?_
  dsimp only
  rw [if_neg (by simp)]
  with_reducible refine wpAny_pure ?_
  dsimp only
  rw [List.forIn_cons]
  with_reducible refine wpAny_bind ?_
  with_reducible refine wpAny_bind ?_
  refine wpAny_seqItems hl rfl ?_
  dsimp only
  rw [if_neg (by first | exact Bool.false_ne_true | simp [Value.onHeap])]
  with_reducible refine wpAny_bind ?_
  with_reducible refine wpAny_holding ?_
  refine wpAny_of_eq (a := some (b2, none)) ?_ ?_
  · exact tb_bytes _ _ _
  dsimp only
  with_reducible refine wpAny_bind ?_
  refine wpAny_seqItems hl rfl ?_
  dsimp only
  rw [if_neg (by simp)]
  with_reducible refine wpAny_pure ?_
  dsimp only
  rw [List.forIn_cons]
  with_reducible refine wpAny_bind ?_
  with_reducible refine wpAny_bind ?_
  refine wpAny_seqItems hl rfl ?_
  dsimp only
  rw [if_neg (by first | exact Bool.false_ne_true | simp [Value.onHeap])]
  with_reducible refine wpAny_bind ?_
  with_reducible refine wpAny_holding ?_
  refine wpAny_of_eq (a := some (b3, none)) ?_ ?_
  · exact tb_bytes _ _ _
  dsimp only
  with_reducible refine wpAny_bind ?_
  refine wpAny_seqItems hl rfl ?_
  dsimp only
  rw [if_neg (by simp)]
  with_reducible refine wpAny_pure ?_
  dsimp only
  rw [List.forIn_nil]
  with_reducible refine wpAny_pure ?_
  dsimp only
  with_reducible refine wpAny_bind ?_
  refine wpAny_of_eq (a := #[]) ?_ ?_
  · exact pl_bytes _ _
  rw [if_neg (by simp [Builtin.Bytes.tooLong, sizeLine_eq]; omega)]
  with_reducible refine wpAny_bind ?_
  show wpAny _ _ (mkBytes _) _ _ _
  have hj : Builtin.Bytes.joined #[] (((#[].push b1).push b2).push b3).toList = b1 ++ b2 ++ b3 := by
    unfold Builtin.Bytes.joined
    simp
  rw [hj]
  refine wpAny_mkBytes ?_ (by simp [sizeLine_eq]; omega)
  with_reducible refine wpAny_bind ?_
  with_reducible refine wpAny_holding ?_
  with_reducible refine wpAny_point ?_
  with_reducible refine wpAny_bind ?_
  simp only [List.nil_append, List.cons_append, Builtin.Bytes.joinLetGo]
  refine wpAny_bind (wpAny_letGo ?_)
  refine wpAny_bind (wpAny_letGo ?_)
  refine wpAny_bind (wpAny_letGo ?_)
  with_reducible refine wpAny_pure ?_
  exact wpAny_pure (hQ _ _)
theorem join4 {l : Addr} {n : Nat} {t : Tok} {b1 b2 b3 b4 : Array UInt8} {t1 t2 t3 t4 : Tok} {Q : PySem.Fin → Shared → Prop} (hl : s.heap.get? l = some { cls := .type "list", data := .seq #[.bytes b1 t1, .bytes b2 t2, .bytes b3 t3, .bytes b4 t4] n })
    (hz : b1.size + b2.size + b3.size + b4.size ≤ 1000) (hQ : ∀ t k, Q (.done (.ret (.bytes (b1 ++ b2 ++ b3 ++ b4) t))) { s with toks := k }) : wpAny (model prog w) A (Builtin.«bytes.join» ⟨[.bytes #[] t, .ref l], []⟩) Q E s := by
  obtain ⟨hp, g, d, tk, os⟩ := s
  unfold Builtin.«bytes.join» Builtin.Bytes.joinM
  with_reducible refine wpAny_bind ?_
  with_reducible refine wpAny_of_eq (a := (.bytes #[] t, .ref l)) ?_ ?_
  · kernel_rfl
  dsimp only
  rw [if_pos (by decide)]
  with_reducible refine wpAny_bind ?_
  unfold Builtin.Bytes.joinItems
  with_reducible refine wpAny_bind ?_
  refine wpAny_typeOf (T := "list") ⟨_, hl, rfl⟩ ?_
  rw [if_pos (by decide)]
  with_reducible refine wpAny_pure ?_
  with_reducible refine wpAny_bind ?_
  refine wpAny_seqItems hl rfl ?_
  dsimp only
  rw [if_pos (by decide)]
  refine wpAny_bind ?_
  rw [Std.Legacy.Range.forIn_eq_forIn_range']
  rw [show List.range' ([:(#[Value.bytes b1 t1, Value.bytes b2 t2, Value.bytes b3 t3, Value.bytes b4 t4] : Array Value).size] : Std.Legacy.Range).start ([:(#[Value.bytes b1 t1, Value.bytes b2 t2, Value.bytes b3 t3, Value.bytes b4 t4] : Array Value).size] : Std.Legacy.Range).size ([:(#[Value.bytes b1 t1, Value.bytes b2 t2, Value.bytes b3 t3, Value.bytes b4 t4] : Array Value).size] : Std.Legacy.Range).step = [0, 1, 2, 3] from by simp [Std.Legacy.Range.size, List.range']]
  rw [List.forIn_cons]
  with_reducible refine wpAny_bind ?_
  with_reducible refine wpAny_bind ?_
  refine wpAny_seqItems hl rfl ?_
  dsimp only
  rw [if_neg (by first | exact Bool.false_ne_true | simp [Value.onHeap])]
  with_reducible refine wpAny_bind ?_
  with_reducible refine wpAny_holding ?_
  refine wpAny_of_eq (a := some (b1, none)) ?_ ?_
  · exact tb_bytes _ _ _
  dsimp only
  with_reducible refine wpAny_bind ?_
  refine wpAny_seqItems hl rfl ?_
  dsimp only
  rw [if_neg (by simp)]
  with_reducible refine wpAny_pure ?_
  dsimp only
  rw [List.forIn_cons]
  with_reducible refine wpAny_bind ?_
  with_reducible refine wpAny_bind ?_
  refine wpAny_seqItems hl rfl ?_
  dsimp only
  rw [if_neg (by first | exact Bool.false_ne_true | simp [Value.onHeap])]
  with_reducible refine wpAny_bind ?_
  with_reducible refine wpAny_holding ?_
  refine wpAny_of_eq (a := some (b2, none)) ?_ ?_
  · exact tb_bytes _ _ _
  dsimp only
  with_reducible refine wpAny_bind ?_
  refine wpAny_seqItems hl rfl ?_
  dsimp only
  rw [if_neg (by simp)]
  with_reducible refine wpAny_pure ?_
  dsimp only
  rw [List.forIn_cons]
  with_reducible refine wpAny_bind ?_
  with_reducible refine wpAny_bind ?_
  refine wpAny_seqItems hl rfl ?_
  dsimp only
  rw [if_neg (by first | exact Bool.false_ne_true | simp [Value.onHeap])]
  with_reducible refine wpAny_bind ?_
  with_reducible refine wpAny_holding ?_
  refine wpAny_of_eq (a := some (b3, none)) ?_ ?_
  · exact tb_bytes _ _ _
  dsimp only
  with_reducible refine wpAny_bind ?_
  refine wpAny_seqItems hl rfl ?_
  dsimp only
  rw [if_neg (by simp)]
  with_reducible refine wpAny_pure ?_
  dsimp only
  rw [List.forIn_cons]
  with_reducible refine wpAny_bind ?_
  with_reducible refine wpAny_bind ?_
  refine wpAny_seqItems hl rfl ?_
  dsimp only
  rw [if_neg (by first | exact Bool.false_ne_true | simp [Value.onHeap])]
  with_reducible refine wpAny_bind ?_
  with_reducible refine wpAny_holding ?_
  refine wpAny_of_eq (a := some (b4, none)) ?_ ?_
  · exact tb_bytes _ _ _
  dsimp only
  with_reducible refine wpAny_bind ?_
  refine wpAny_seqItems hl rfl ?_
  dsimp only
  rw [if_neg (by simp)]
  with_reducible refine wpAny_pure ?_
  dsimp only
  rw [List.forIn_nil]
  with_reducible refine wpAny_pure ?_
  dsimp only
  with_reducible refine wpAny_bind ?_
  refine wpAny_of_eq (a := #[]) ?_ ?_
  · exact pl_bytes _ _
  rw [if_neg (by simp [Builtin.Bytes.tooLong, sizeLine_eq]; omega)]
  with_reducible refine wpAny_bind ?_
  show wpAny _ _ (mkBytes _) _ _ _
  have hj : Builtin.Bytes.joined #[] ((((#[].push b1).push b2).push b3).push b4).toList = b1 ++ b2 ++ b3 ++ b4 := by
    unfold Builtin.Bytes.joined
    simp
  rw [hj]
  refine wpAny_mkBytes ?_ (by simp [sizeLine_eq]; omega)
  with_reducible refine wpAny_bind ?_
  with_reducible refine wpAny_holding ?_
  with_reducible refine wpAny_point ?_
  with_reducible refine wpAny_bind ?_
  simp only [List.nil_append, List.cons_append, Builtin.Bytes.joinLetGo]
  refine wpAny_bind (wpAny_letGo ?_)
  refine wpAny_bind (wpAny_letGo ?_)
  refine wpAny_bind (wpAny_letGo ?_)
  refine wpAny_bind (wpAny_letGo ?_)
  with_reducible refine wpAny_pure ?_
  exact wpAny_pure (hQ _ _)
end

end Mine

end
section
open PySem PySem.W PySem.Calls PyProof.Rows
set_option maxRecDepth 100000
namespace Mine
section
variable {P : Pm}
theorem c_bjoin3 {a b c : List UInt8} (hz : a.length + b.length + c.length ≤ 1000) : Pc P (.builtin "bytes.join") [.bytes [], .list [.bytes a, .bytes b, .bytes c]] (.bytes (a ++ b ++ c)) := fun A X h vs ok bs rs => by
  obtain ⟨v, u, rfl, r1, r2⟩ := reps2 rs
  rw [rep_bytes] at r1; obtain ⟨t, rfl⟩ := r1
  rw [rep_list] at r2; obtain ⟨l, us, rfl, nx, ⟨n, q1⟩, q2⟩ := r2
  obtain ⟨x, y, z, rfl, e1, e2, e3⟩ := reps3 q2
  rw [rep_bytes] at e1 e2 e3
  obtain ⟨t1, rfl⟩ := e1; obtain ⟨t2, rfl⟩ := e2; obtain ⟨t3, rfl⟩ := e3
  refine .of fun tk Q hq => wpAny_call_entry slot_bj (typeIs_bytes _ _ _) entry_bj (join3 q1 (by simpa using hz) fun t' k => ⟨_, rfl, hq _ _ _ ⟨.refl h, ?_⟩⟩) (args_bj _ _)
  rw [rep_bytes]; exact ⟨t', by simp⟩
theorem c_bjoin4 {a b c d : List UInt8} (hz : a.length + b.length + c.length + d.length ≤ 1000) : Pc P (.builtin "bytes.join") [.bytes [], .list [.bytes a, .bytes b, .bytes c, .bytes d]] (.bytes (a ++ b ++ c ++ d)) := fun A X h vs ok bs rs => by
  obtain ⟨v, u, rfl, r1, r2⟩ := reps2 rs
  rw [rep_bytes] at r1; obtain ⟨t, rfl⟩ := r1
  rw [rep_list] at r2; obtain ⟨l, us, rfl, nx, ⟨n, q1⟩, q2⟩ := r2
  rcases us with _ | ⟨x, _ | ⟨y, _ | ⟨z, _ | ⟨u, _ | ⟨_, _⟩⟩⟩⟩⟩ <;> simp only [Reps, and_true, and_false] at q2
  obtain ⟨e1, e2, e3, e4⟩ := q2
  rw [rep_bytes] at e1 e2 e3 e4
  obtain ⟨t1, rfl⟩ := e1; obtain ⟨t2, rfl⟩ := e2; obtain ⟨t3, rfl⟩ := e3; obtain ⟨t4, rfl⟩ := e4
  refine .of fun tk Q hq => wpAny_call_entry slot_bj (typeIs_bytes _ _ _) entry_bj (join4 q1 (by simpa using hz) fun t' k => ⟨_, rfl, hq _ _ _ ⟨.refl h, ?_⟩⟩) (args_bj _ _)
  rw [rep_bytes]; exact ⟨t', by simp⟩
noncomputable abbrev tagL : List Str := ["cmap", "head", "maxp", "zzzz"]
noncomputable def enc (s : Str) : List UInt8 := s.cps.toList.map fun n => n.toUInt8
theorem c_encode {s : Str} (h : s ∈ tagL) : Pc P (.builtin "str.encode") [.str s, .str "ascii"] (.bytes (enc s)) := fun A X hh vs ok bs rs => by
  obtain ⟨v, u, rfl, r1, r2⟩ := reps2 rs
  rw [rep_str] at r1 r2
  obtain ⟨t, rfl⟩ := r1; obtain ⟨t', rfl⟩ := r2
  have key : ∃ b : Array UInt8, Builtin.«str.encode» ⟨[.str s t, .str "ascii" t'], []⟩ = (mkBytes b >>= fun b => ret b) ∧ b = (enc s).toArray ∧ b.size ≤ 4 := by
    simp only [tagL, List.mem_cons, List.not_mem_nil, or_false] at h
    rcases h with rfl | rfl | rfl | rfl
    · exact ⟨_, enc_cmap t t', by decide +kernel, by decide⟩
    · exact ⟨_, enc_head t t', by decide +kernel, by decide⟩
    · exact ⟨_, enc_maxp t t', by decide +kernel, by decide⟩
    · exact ⟨_, enc_zzzz t t', by decide +kernel, by decide⟩
  obtain ⟨b, e, eb, hz⟩ := key
  refine .of fun tk Q hq => wpAny_call_entry PySem.F.slot_str_encode (typeIs_str _ _ _) PySem.F.entry_str_encode ?_ (PySem.F.args_str_encode_2 _ _)
  rw [e]
  refine wpAny_bind (wpAny_mkBytes ?_ (by rw [sizeLine_eq]; omega))
  exact wpAny_pure ⟨_, rfl, hq _ _ _ ⟨.refl hh, by rw [rep_bytes]; exact ⟨_, by rw [eb]⟩⟩⟩
end
section
variable {sc : Sc} {B : Bd sc} {md : Md} {mo mo' mo1 mo2 : MoL} {rest : List Stmt} {R : Flow → Heap → Prop}
theorem hm_bjoin {b : List UInt8} : Hm B md mo (.bytes b) "join" (.builtin "bytes.join") := hm_builtin PySem.W.FB.plainAttrs_bytes slot_bj type_bj fun h v s r tk => by
  rw [rep_bytes] at r; obtain ⟨t, rfl⟩ := r
  exact ⟨typeIs_bytes _ _ _, fun b eb => by cases eb⟩
theorem hm_encode {x : Str} : Hm B md mo (.str x) "encode" (.builtin "str.encode") := hm_builtin PySem.F.plainAttrs_str PySem.F.slot_str_encode PySem.F.type_str_encode fun h v s r tk => by
  rw [rep_str] at r; obtain ⟨t, rfl⟩ := r
  exact ⟨typeIs_str _ _ _, fun b eb => by cases eb⟩
noncomputable def outs {α σ : Type} (p : σ → α → Bool) (g : σ → α → D) (step : σ → α → σ) : σ → List α → List D
  | _, [] => []
  | s, a :: l => (if p s a then [g s a] else []) ++ outs p g step (step s a) l
theorem CompR.run {α σ : Type} {x : Str} {elt : Expr} (f : α → D) (g : σ → α → D) (step : σ → α → σ) (o : σ → MoL) (Inv : σ → List α → Prop)
    (hs : ∀ s a l, Inv s (a :: l) → Inv (step s a) l ∧ Ev B ((x, f a) :: md) (o s) elt (g s a) (o (step s a))) :
    ∀ l s, Inv s l → CompR B md x elt [] (o s) (l.map f) (outs (fun _ _ => true) g step s l) (o (l.foldl step s))
  | [], s, _ => .nil
  | a :: l, s, h => by
    obtain ⟨h1, h2⟩ := hs s a l h
    exact .take ets_nil h2 (CompR.run f g step o Inv hs l _ h1)
theorem CompR.runf {α σ : Type} {x : Str} {elt t : Expr} (f : α → D) (p : σ → α → Bool) (g : σ → α → D) (step : σ → α → σ) (o : σ → MoL) (Inv : σ → List α → Prop)
    (hs : ∀ s a l, Inv s (a :: l) → Inv (step s a) l ∧ Et B ((x, f a) :: md) (o s) t (p s a) (o (step s a)) ∧ (p s a = true → Ev B ((x, f a) :: md) (o (step s a)) elt (g s a) (o (step s a)))) :
    ∀ l s, Inv s l → CompR B md x elt [t] (o s) (l.map f) (outs p g step s l) (o (l.foldl step s))
  | [], s, _ => .nil
  | a :: l, s, h => by
    obtain ⟨h1, h2, h3⟩ := hs s a l h
    have ih := CompR.runf f p g step o Inv hs l _ h1
    unfold outs
    by_cases q : p s a = true
    · rw [if_pos q]; rw [q] at h2; exact .take (ets_one h2) (h3 q) ih
    · rw [if_neg q]; rw [Bool.not_eq_true] at q; rw [q] at h2; exact .skip (ets_one h2) ih
end
noncomputable def dr (cells : List Int) (at' many : Int) : Int := (cells.getD (at'.fmod cells.length).toNat 0 + at'.fdiv cells.length * (7 * at' + 3 + at'.fdiv 2)).fmod many
theorem dr_pos (cells : List Int) (at' : Int) {many : Int} (h : 0 < many) : 0 ≤ dr cells at' many ∧ dr cells at' many < many := ⟨Int.fmod_nonneg_of_pos _ h, Int.fmod_lt_of_pos _ h⟩
noncomputable abbrev tp (cells : List Int) (at' : Int) : MO := .lst [.list (cells.map .int), .int at']
section
variable {P : Pm} {n : Nat}
theorem c_draw {T : Addr} {cells : List Int} {at' many : Int} (hc : 1 ≤ cells.length) (hc2 : cells.length ≤ 60) (h0 : 0 ≤ at') (h1 : at' ≤ 10000) (hm : many ≠ 0) :
    Ctr P (n + 1) (.ref 323) [.raw (.ref T), .int many] [(T, tp cells at')] (.d (.int (dr cells at' many))) [(T, tp cells (at' + 1))] := by
  have hm1 : 0 ≤ at'.fmod cells.length := Int.fmod_nonneg_of_pos _ (by omega)
  have hm2 : at'.fmod cells.length < cells.length := Int.fmod_lt_of_pos _ (by omega)
  have hd0 : at'.fdiv cells.length = at' / cells.length := Int.fdiv_eq_ediv_of_nonneg _ (by omega)
  have hd1 : 0 ≤ at' / (cells.length : Int) := Int.ediv_nonneg h0 (by omega)
  have hd2 : at' / (cells.length : Int) ≤ at' := Int.ediv_le_self _ h0
  refine ctr_def (names := ["tape", "many"]) (ho := rfl) (hcd := rfl) (hbind := ?_) rfl ?_ rfl rfl ?_
  · intro vs hv
    rcases vs with _ | ⟨a, _ | ⟨b, _ | ⟨_, _⟩⟩⟩ <;> first | rfl | (simp at hv)
  · decide +kernel
  intro B hB hx
  subst hB
  refine ex_unpack2 (d1 := .list (cells.map .int)) (d2 := .int at') (ev_name rfl rfl rfl) (unp_mo (.head _)) rfl rfl ?_ rfl (by intros; rfl)
  refine ex_setidx (k := 1) (ds := [.list (cells.map .int), .int at']) (ev_bin (ev_name rfl rfl rfl) ev_int o_add) (ev_name rfl rfl rfl) ev_int .here (by omega) (by simp) (by simp) ?_
  have hlen : ((cells.map D.int).length : Int) = cells.length := by rw [List.length_map]
  have LN : ∀ {md : Md} {mo : MoL} {pos p1 p2 : Pos}, md.lookup ("cells" : Str) = some (D.list (cells.map .int)) → Ev B md mo (.Call (.Name "len" p1) [.Name "cells" p2] [] pos) (.int cells.length) mo := fun e => hlen ▸ ev_call (ev_builtin rfl rfl (by decide) rfl rfl) cw_b rfl (evs_cons (ev_name e rfl rfl) evs_nil) (pc_len_list (by rw [List.length_map]; omega)).ctr (Nat.zero_le _) .nil
  refine ex_retd (ev_bin (ev_bin (ev_sub (ev_name rfl rfl rfl) (ev_bin (ev_name rfl rfl rfl) (LN rfl) (o_mod (by omega))) (gi_list (d := .int (cells.getD (at'.fmod cells.length).toNat 0)) hm1 ?_ (by rw [List.length_map]; omega)) (fun o i => ⟨_, rfl⟩)) (ev_bin (ev_bin (ev_name rfl rfl rfl) (LN rfl) (o_div (by omega) (by omega))) (ev_bin (ev_bin (ev_bin ev_int (ev_name rfl rfl rfl) (o_mul (mulL (by decide)))) ev_int o_add) (ev_bin (ev_name rfl rfl rfl) ev_int (o_div (by omega) (by decide))) o_add) (o_mul (mulL ?_))) o_add) (ev_name rfl rfl rfl) (o_mod hm)) fun p hp => hp
  · rw [List.getElem?_map, List.getD_eq_getElem?_getD, List.getElem?_eq_getElem (by omega)]; rfl
  · rw [hd0]; omega
end

end Mine

end
section
open PySem PySem.W PySem.Calls PyProof.Rows
set_option maxRecDepth 100000
namespace Mine
section
variable {P : Pm} {n : Nat}
theorem rngd_mem {c a : Int} (h : a ∈ rng (c - 1) (-1) (-1)) : 0 ≤ a ∧ a < c := by
  unfold rng at h
  obtain ⟨i, hi, rfl⟩ := List.mem_map.mp h
  rw [List.mem_range] at hi
  unfold Builtin.Range.rangeSize at hi
  simp only [show ¬ ((-1 : Int) > 0) from by omega, if_false, show (-(-1) : Int) = 1 from rfl, Int.ediv_one] at hi
  split at hi <;> omega
theorem pow256 {a : Int} (h0 : 0 ≤ a) (h1 : a < 4) : (256 : Int) ^ a.toNat ≠ 0 ∧ ((256 : Int) ^ a.toNat).natAbs < 1073741824 := by
  have : a = 0 ∨ a = 1 ∨ a = 2 ∨ a = 3 := by omega
  rcases this with rfl | rfl | rfl | rfl <;> decide
noncomputable def octs (number count : Int) : List Int := (rng (count - 1) (-1) (-1)).map fun s => (number.fdiv (256 ^ s.toNat)).fmod 256
noncomputable def oct (number count : Int) : List UInt8 := byL (octs number count)
theorem rngd_len {c : Int} (h : 0 ≤ c) : (rng (c - 1) (-1) (-1)).length = c.toNat := by
  unfold rng
  rw [List.length_map, List.length_range]
  unfold Builtin.Range.rangeSize
  simp only [show ¬ ((-1 : Int) > 0) from by omega, if_false, show (-(-1) : Int) = 1 from rfl, Int.ediv_one]
  split <;> omega
theorem oct_len {number c : Int} (h : 0 ≤ c) : (oct number c).length = c.toNat := by
  unfold oct byL octs
  rw [List.length_map, List.length_map, rngd_len h]
theorem c_octets {number count : Int} (h0 : 0 ≤ count) (h4 : count ≤ 4) : Ctr P (n + 1) (.ref 328) [.int number, .int count] [] (.d (.bytes (oct number count))) [] := by
  have hl := rngd_len h0
  refine ctr_def (names := ["number", "count"]) (ho := rfl) (hcd := rfl) (hbind := ?_) rfl ?_ rfl rfl ?_
  · intro vs hv
    rcases vs with _ | ⟨a, _ | ⟨b, _ | ⟨_, _⟩⟩⟩ <;> first | rfl | (simp at hv)
  · decide +kernel
  intro B hB hx
  subst hB
  refine ex_retd (ev_call (ev_builtin rfl rfl (by decide) rfl rfl) cw_t rfl (evs_cons (ev_to (En.evl (en_comp (ev_call (ev_builtin rfl rfl (by decide) rfl rfl) cw_t rfl (evs_cons (ev_bin (ev_name rfl rfl rfl) ev_int o_sub) (evs_cons (ev_neg ev_int) (evs_cons (ev_neg ev_int) evs_nil))) (pc_range3 (by decide) (by decide)).ctr (Nat.zero_le _) .nil) (src_rng (small_of (by omega) (by decide) (by decide)))
    (fun B' => CompR.map D.int (fun s => .int ((number.fdiv (256 ^ s.toNat)).fmod 256)) _ fun s hs => by
      have hb := rngd_mem hs
      have hp := pow256 hb.1 (by omega)
      exact ev_bin (ev_bin (ev_name rfl rfl rfl) (ev_bin ev_int (ev_name rfl rfl rfl) (o_pow hb.1 (by omega) (by decide))) (o_div hp.1 hp.2)) ev_int (o_mod (by decide))) rfl rfl (by rw [List.length_map]; show (rng (count - 1) (-1) (-1)).length ≤ _; omega)))
    (show D.list _ = D.list ((octs number count).map .int) by unfold octs; rw [List.map_map]; rfl)) evs_nil) (c_bytes_list (fun x hx => ?_) ?_).ctr (Nat.zero_le _) .nil) (fun p hp => nomatch hp)
  · unfold octs at hx
    obtain ⟨s, _, rfl⟩ := List.mem_map.mp hx
    exact ⟨Int.fmod_nonneg_of_pos _ (by omega), Int.fmod_lt_of_pos _ (by omega)⟩
  · unfold octs
    rw [List.length_map, hl]; omega
noncomputable def lsums (l : List UInt8) : List Int := (rng 0 l.length 1).map fun a => ((l.getD a.toNat 0).toNat : Int) * 256 ^ (3 - a.fmod 4).toNat
noncomputable def lsum (l : List UInt8) : Int := (lsums l).sum.fmod (2 ^ (32 : Int).toNat)
theorem rng1_len {a b : Int} (h : a ≤ b) : (rng a b 1).length = (b - a).toNat := by
  unfold rng
  rw [List.length_map, List.length_range]
  unfold Builtin.Range.rangeSize
  simp only [show (1 : Int) > 0 from by omega, if_true, Int.ediv_one]
  split <;> omega
theorem c_lsum {l : List UInt8} (hz : l.length ≤ 100000) : Ctr P (n + 1) (.ref 333) [.bytes l] [] (.d (.int (lsum l))) [] := by
  have hl := rng1_len (a := 0) (b := l.length) (by omega)
  refine ctr_def (names := ["octets"]) (ho := rfl) (hcd := rfl) (hbind := ?_) rfl ?_ rfl rfl ?_
  · intro vs hv
    rcases vs with _ | ⟨a, _ | ⟨_, _⟩⟩ <;> first | rfl | (simp at hv)
  · decide +kernel
  intro B hB hx
  subst hB
  refine ex_retd (ev_bin (ev_call (ev_builtin rfl rfl (by decide) rfl rfl) cw_b rfl (evs_cons (ev_to (En.evl (en_comp (ev_call (ev_builtin rfl rfl (by decide) rfl rfl) cw_t rfl (evs_cons (ev_call (ev_builtin rfl rfl (by decide) rfl rfl) cw_b rfl (evs_cons (ev_name rfl rfl rfl) evs_nil) (pc_len_bytes (by omega)).ctr (Nat.zero_le _) .nil) evs_nil) pc_range1.ctr (Nat.zero_le _) .nil) (src_rng (small_of (by decide) (by omega) (by decide)))
    (fun B' => CompR.map D.int (fun a => .int (((l.getD a.toNat 0).toNat : Int) * 256 ^ (3 - a.fmod 4).toNat)) _ fun a ha => by
      have hb := rng1_mem ha
      have hf := fm4 a
      have := UInt8.toNat_lt (l.getD a.toNat 0)
      exact ev_bin (ev_sub (ev_name rfl rfl rfl) (ev_name rfl rfl rfl) (gi_bytes hb.1 hb.2 (by omega)) (fun o i => ⟨_, rfl⟩)) (ev_bin ev_int (ev_bin ev_int (ev_bin (ev_name rfl rfl rfl) ev_int (o_mod (by decide))) o_sub) (o_pow (by omega) (by omega) (by decide))) (o_mul (mulL (by omega)))) rfl rfl (by rw [List.length_map]; show (rng 0 l.length 1).length ≤ _; omega)))
    (show D.list _ = D.list ((lsums l).map .int) by unfold lsums; rw [List.map_map]; rfl)) evs_nil) pc_sum.ctr (Nat.zero_le _) .nil) (ev_bin ev_int ev_int (o_pow (by decide) (by decide) (by decide))) (o_mod (by decide))) (fun p hp => nomatch hp)
noncomputable def told1 (tag : Str) (l : List UInt8) : List UInt8 := if tag == "head" then cut l none (some 8) ++ List.replicate (4 : Int).toNat 0 ++ cut l (some 12) none else l
theorem c_told {tag : Str} {l : List UInt8} (hz : l.length ≤ 20000) : Ctr P (n + 2) (.ref 352) [.str tag, .bytes l] [] (.d (.int (lsum (told1 tag l)))) [] := by
  have h1 := cut_le l none (some 8)
  have h3 := cut_le l (some 12) none
  have hl : (told1 tag l).length ≤ 50000 := by
    unfold told1
    split
    · simp only [List.length_append, List.length_replicate]; omega
    · omega
  refine ctr_def (names := ["tag", "octets"]) (ho := rfl) (hcd := rfl) (hbind := ?_) rfl ?_ rfl rfl ?_
  · intro vs hv
    rcases vs with _ | ⟨a, _ | ⟨b, _ | ⟨_, _⟩⟩⟩ <;> first | rfl | (simp at hv)
  · decide +kernel
  intro B hB hx
  subst hB
  refine ex_retd (ev_call (ev_gref rfl rfl rfl) (cw_K rfl) rfl (evs_cons (ev_ife (mo2 := []) (d := .bytes (told1 tag l)) (et_cmp (ev_name rfl rfl rfl) ev_str o_seq) (fun h => ?_) fun h => ?_) evs_nil) (c_lsum (by omega)) (Nat.le_refl _) .nil) (fun p hp => nomatch hp)
  · unfold told1
    rw [if_pos h]
    exact ev_bin (ev_bin (ev_slice (ev_name rfl rfl rfl) evo_none (evo_some ev_int) (gs_bytes (by omega))) (ev_call (ev_builtin rfl rfl (by decide) rfl rfl) cw_t rfl (evs_cons ev_int evs_nil) (lstr_bytes_int (by omega) (by omega)).ctr (Nat.zero_le _) .nil) (o_badd (by simp; omega))) (ev_slice (ev_name rfl rfl rfl) (evo_some ev_int) evo_none (gs_bytes (by omega))) (o_badd (by simp; omega))
  · unfold told1
    rw [if_neg (by rw [h]; simp)]
    exact (ev_name rfl rfl rfl)
noncomputable def drs (cells : List Int) (many : Int) : Int → Nat → List Int
  | _, 0 => []
  | s, k + 1 => dr cells s many :: drs cells many (s + 1) k
theorem drs_len (cells : List Int) (many : Int) : ∀ k s, (drs cells many s k).length = k
  | 0, _ => rfl
  | k + 1, s => by unfold drs; rw [List.length_cons, drs_len]
theorem drs_mem {cells : List Int} {many : Int} (h : 0 < many) : ∀ {k s x}, x ∈ drs cells many s k → 0 ≤ x ∧ x < many
  | 0, _, _, hx => by simp [drs] at hx
  | k + 1, s, x, hx => by
    unfold drs at hx
    rcases List.mem_cons.mp hx with rfl | hx
    · exact dr_pos _ _ h
    · exact drs_mem h hx
theorem outs_drs {α : Type} (cells : List Int) (many : Int) : ∀ (l : List α) (s : Int), outs (fun _ _ => true) (fun (s : Int) (_ : α) => D.int (dr cells s many)) (fun s _ => s + 1) s l = (drs cells many s l.length).map .int
  | [], _ => rfl
  | a :: l, s => by
    unfold outs
    rw [outs_drs cells many l, List.length_cons]; rfl
theorem fold_inc {α : Type} : ∀ (l : List α) (s : Int), l.foldl (fun (s : Int) (_ : α) => s + 1) s = s + l.length
  | [], s => by simp
  | a :: l, s => by rw [List.foldl_cons, fold_inc l, List.length_cons]; omega
theorem putK_new : ∀ {ks : List Str} {k : Str}, k ∉ ks → putK ks k = ks ++ [k]
  | [], _, _ => rfl
  | a :: ks, k, h => by
    simp only [List.mem_cons, not_or] at h
    unfold putK
    rw [if_neg (Ne.symm h.1), putK_new h.2]; rfl
theorem put_new {α : Type} : ∀ {ks : List Str} {vs : List α} {k : Str} {v : α}, k ∉ ks → ks.length = vs.length → put ks vs k v = vs ++ [v]
  | [], [], _, _, _, _ => rfl
  | a :: ks, w :: vs, k, v, h, hl => by
    simp only [List.mem_cons, not_or] at h
    unfold put
    rw [if_neg (Ne.symm h.1), put_new h.2 (by simpa using hl)]; rfl
  | [], _ :: _, _, _, _, hl => by simp at hl
  | _ :: _, [], _, _, _, hl => by simp at hl
end

end Mine

end
section
open PySem PySem.W PySem.Calls PyProof.Rows
set_option maxRecDepth 100000
namespace Mine
theorem CompR.cast {sc : Sc} {B : Bd sc} {md : Md} {mo mo' mo'' : MoL} {x : Str} {elt : Expr} {ifs : List Expr} {ds out out' : List D} (c : CompR B md x elt ifs mo ds out mo') (h1 : out = out') (h2 : mo' = mo'') : CompR B md x elt ifs mo ds out' mo'' := h1 ▸ h2 ▸ c
section
variable {P : Pm} {n : Nat}
noncomputable abbrev KV := List (Str × List UInt8)
noncomputable def KV.ks (k : KV) : List Str := k.map (·.1)
noncomputable def KV.vs (k : KV) : List D := k.map fun p => .bytes p.2
theorem KV.len (k : KV) : k.ks.length = k.vs.length := by simp [KV.ks, KV.vs]
noncomputable def tabM (tag : Str) : Int := if tag == "head" then 12 else 0
noncomputable def tabStep (cells : List Int) (s : Int × KV) (tag : Str) : Int × KV := (s.1 + 1 + (dr cells s.1 4 + tabM tag), s.2 ++ [(tag, byL (drs cells 256 (s.1 + 1) (dr cells s.1 4 + tabM tag).toNat))])
theorem tabM_le (tag : Str) : 0 ≤ tabM tag ∧ tabM tag ≤ 12 := by unfold tabM; split <;> omega
structure Tabs (kv : KV) : Prop where
  small : ∀ p ∈ kv, p.2.length ≤ 15
  head : ∀ p ∈ kv, p.1 = "head" → 12 ≤ p.2.length
theorem tab_fold (cells : List Int) : ∀ (l : List Str) (s : Int × KV), 0 ≤ s.1 → Tabs s.2 → (l.foldl (tabStep cells) s).1 ≤ s.1 + 16 * l.length ∧ 0 ≤ (l.foldl (tabStep cells) s).1 ∧ (l.foldl (tabStep cells) s).2.ks = s.2.ks ++ l ∧ Tabs (l.foldl (tabStep cells) s).2
  | [], s, h, t => by simp [KV.ks]; exact ⟨h, t⟩
  | tag :: l, s, h, t => by
    have hd := dr_pos cells s.1 (many := 4) (by omega)
    have hm := tabM_le tag
    obtain ⟨a, b, c, d⟩ := tab_fold cells l (tabStep cells s tag) (by show 0 ≤ s.1 + 1 + _; omega) (by
      have hlen : (byL (drs cells 256 (s.1 + 1) (dr cells s.1 4 + tabM tag).toNat)).length = (dr cells s.1 4 + tabM tag).toNat := by unfold byL; rw [List.length_map, drs_len]
      refine ⟨fun p hp => ?_, fun p hp e => ?_⟩
      · rcases List.mem_append.mp hp with hp | hp
        · exact t.small p hp
        · rw [List.mem_singleton] at hp; subst hp; show (byL _).length ≤ 15; rw [hlen]; omega
      · rcases List.mem_append.mp hp with hp | hp
        · exact t.head p hp e
        · rw [List.mem_singleton] at hp; subst hp
          show 12 ≤ (byL _).length
          rw [hlen]
          have : tabM tag = 12 := by unfold tabM; rw [show tag = "head" from e]; rfl
          omega)
    rw [List.foldl_cons]
    refine ⟨?_, b, ?_, d⟩
    · have : (tabStep cells s tag).1 = s.1 + 1 + (dr cells s.1 4 + tabM tag) := rfl
      rw [List.length_cons]; omega
    · rw [c]; simp [tabStep, KV.ks]
theorem rep_tags : ∀ (X : Addr → Prop) h, P.K.In h → (∀ b, X b → P.hT.get? b = none) → Rep P X h (.ref 316) (.tup (tagL.map .str)) := rep_ktup rfl rfl rfl fun X h => by
  simp only [List.map_cons, List.map_nil, reps_cons, reps_nil, rep_str]
  exact ⟨⟨_, rfl⟩, ⟨_, rfl⟩, ⟨_, rfl⟩, ⟨_, rfl⟩, trivial⟩
theorem c_tables {T : Addr} {cells : List Int} (hc : 1 ≤ cells.length) (hc2 : cells.length ≤ 60) : ∃ (k : Nat) (at' : Int) (kv : KV), 1 ≤ k ∧ k ≤ 4 ∧ kv.ks = tagL.take k ∧ Tabs kv ∧ 0 ≤ at' ∧ at' ≤ 200 ∧
    Ctr P (n + 2) (.ref 338) [.raw (.ref T)] [(T, tp cells 0)] (.n (.dct kv.ks kv.vs)) [(T, tp cells at')] := by
  have hd := dr_pos cells 0 (many := 4) (by omega)
  obtain ⟨k, hk⟩ : ∃ k : Nat, 1 + dr cells 0 4 = k := ⟨(1 + dr cells 0 4).toNat, by omega⟩
  have hkl : (tagL.take k).length = k := by rw [List.length_take]; show min k 4 = k; omega
  obtain ⟨f1, f2, f3, f4⟩ := tab_fold cells (tagL.take k) (0 + 1, []) (by simp) ⟨by simp, by simp⟩
  refine ⟨k, _, _, by omega, by omega, by rw [f3]; rfl, f4, f2, Int.le_trans f1 (by show (0 : Int) + 1 + 16 * ((tagL.take k).length : Int) ≤ 200; rw [hkl]; omega), ?_⟩
  have hnd : (tagL.take k).Nodup := (show tagL.Nodup by decide).sublist (List.take_sublist _ _)
  refine ctr_def (names := ["tape"]) (ho := rfl) (hcd := rfl) (hbind := ?_) rfl ?_ rfl rfl ?_
  · intro vs hv
    rcases vs with _ | ⟨a, _ | ⟨_, _⟩⟩ <;> first | rfl | (simp at hv)
  · decide +kernel
  intro B hB hx
  subst hB
  refine ex_new en_dict rfl fun t ht => ?_
  refine ex_for (ev_slice (ev_global (d := .tup (tagL.map .str)) rfl rfl rfl rep_tags) evo_none (evo_some (ev_to (ev_bin ev_int (ev_call (ev_gref rfl rfl rfl) (cw_K rfl) rfl (evs_cons (ev_name rfl rfl rfl) (evs_cons ev_int evs_nil)) (c_draw hc hc2 (by omega) (by omega) (by omega)) (Nat.le_refl _) (.there .here)) o_add) (congrArg D.int hk))) (gs_tup (by simp; omega) (by simp))) (by rw [← List.map_take]; exact src_tup)
    (ForR.run D.str (tabStep cells) (fun _ => [("tables", .raw (.ref t)), ("tape", .raw (.ref T))]) (fun s => [(t, .dct s.2.ks s.2.vs), (T, tp cells s.1)])
      (fun s l => (s.2.ks ++ l).Nodup ∧ 0 ≤ s.1 ∧ s.1 + 20 * l.length ≤ 5000 ∧ s.2.length + l.length ≤ 4) ?_ (tagL.take k) (0 + 1, []) ?_) rfl ?_
  · rintro s tag l ⟨i1, i2, i3, i4⟩
    have hd := dr_pos cells s.1 (many := 4) (by omega)
    have hm := tabM_le tag
    rw [List.length_cons] at i3 i4
    have hnew : tag ∉ s.2.ks := fun h => by
      rw [List.nodup_append] at i1
      exact i1.2.2 tag h tag (.head _) rfl
    refine ⟨⟨?_, by show 0 ≤ s.1 + 1 + _; omega, by show s.1 + 1 + _ + _ ≤ _; omega, by show (s.2 ++ _).length + _ ≤ 4; rw [List.length_append]; simp only [List.length_singleton]; omega⟩, fun I o => ?_, rfl⟩
    · have : (tabStep cells s tag).2.ks ++ l = s.2.ks ++ tag :: l := by simp [tabStep, KV.ks]
      rw [this]; exact i1
    · have e1 : putK s.2.ks tag = (tabStep cells s tag).2.ks := by rw [putK_new hnew]; simp [tabStep, KV.ks]
      have e2 : put s.2.ks s.2.vs tag (.bytes (byL (drs cells 256 (s.1 + 1) (dr cells s.1 4 + tabM tag).toNat))) = (tabStep cells s tag).2.vs := by rw [put_new hnew s.2.len]; simp [tabStep, KV.vs]
      have hln : (rng 0 (dr cells s.1 4 + tabM tag) 1).length = (dr cells s.1 4 + tabM tag).toNat := by rw [rng1_len (by omega)]; simp
      have hml := drs_len cells 256 (dr cells s.1 4 + tabM tag).toNat (s.1 + 1)
      refine ex_setkey (v := ev_call (ev_builtin rfl rfl (by decide) rfl rfl) cw_t rfl (evs_cons (En.evl (en_comp (out := (drs cells 256 (s.1 + 1) (dr cells s.1 4 + tabM tag).toNat).map .int) (mo2 := [(I, .obj o), (t, .dct s.2.ks s.2.vs), (T, tp cells (tabStep cells s tag).1)]) (ev_call (ev_builtin rfl rfl (by decide) rfl rfl) cw_t rfl (evs_cons (ev_bin (ev_call (ev_gref rfl rfl rfl) (cw_K rfl) rfl (evs_cons (ev_name rfl rfl rfl) (evs_cons ev_int evs_nil)) (c_draw hc hc2 i2 (by omega) (by omega)) (Nat.le_refl _) (.there (.there .here))) (ev_ife (mo2 := [(I, .obj o), (t, .dct s.2.ks s.2.vs), (T, tp cells (s.1 + 1))]) (d := .int (tabM tag)) (et_cmp (ev_name rfl rfl rfl) ev_str o_seq) (fun h => ev_to ev_int (by unfold tabM; rw [if_pos h])) fun h => ev_to ev_int (by unfold tabM; rw [if_neg (by rw [h]; simp)])) o_add) evs_nil) pc_range1.ctr (Nat.zero_le _) .nil) (src_rng (small_of (by decide) (by omega) (by decide)))
        (fun B' => CompR.cast (CompR.run D.int (fun (x : Int) _ => D.int (dr cells x 256)) (fun x _ => x + 1) (fun x => [(I, .obj o), (t, .dct s.2.ks s.2.vs), (T, tp cells x)]) (fun x l => 0 ≤ x ∧ x + l.length ≤ 9000) (fun x a l h => ⟨by have := h.2; rw [List.length_cons] at this; exact ⟨by omega, by omega⟩,
          ev_call (ev_gref rfl rfl rfl) (cw_K rfl) rfl (evs_cons (ev_name rfl rfl rfl) (evs_cons ev_int evs_nil)) (c_draw hc hc2 h.1 (by have := h.2; omega) (by omega)) (Nat.le_refl _) (.there (.there .here))⟩) (rng 0 (dr cells s.1 4 + tabM tag) 1) (s.1 + 1) ⟨by omega, by rw [hln]; omega⟩)
          (by rw [outs_drs, hln]) (by rw [fold_inc, hln]; show [_, _, (T, tp cells (s.1 + 1 + _))] = [_, _, (T, tp cells (s.1 + 1 + _))]; rw [Int.toNat_of_nonneg (by omega)])) rfl rfl (by rw [List.length_map, hln]; omega))) evs_nil) (c_bytes_list (ns := drs cells 256 (s.1 + 1) (dr cells s.1 4 + tabM tag).toNat) (fun x hx => drs_mem (by omega) hx) (by rw [hml]; omega)).ctr (Nat.zero_le _) .nil) (ho := (ev_name rfl rfl rfl)) (hi := (ev_name rfl rfl rfl)) (u := .there .here) ?_ ?_
      · have : s.2.ks.length = s.2.length := by simp [KV.ks]
        omega
      · rw [e1, e2]; exact ex_ends (.cons rfl (.cons rfl .nil))
  · refine ⟨by simpa [KV.ks] using hnd, by simp, ?_, ?_⟩
    · show (0 : Int) + 1 + 20 * ((tagL.take k).length : Int) ≤ 5000; rw [hkl]; omega
    · show 0 + (tagL.take k).length ≤ 4; rw [hkl]; omega
  · exact ex_retn (ev_name rfl rfl rfl) (.head _) ht fun p hp => .tail _ hp
end

end Mine

end
section
open PySem PySem.W PySem.Calls PyProof.Rows
set_option maxRecDepth 100000
set_option maxHeartbeats 4000000
namespace Mine
noncomputable def itn {σ : Type} (f : σ → σ) : Nat → σ → σ
  | 0, s => s
  | n + 1, s => itn f n (f s)
section
variable {sc : Sc} {B : Bd sc}
theorem WhileR.run {test : Expr} {body : List Stmt} {σ : Type} (step : σ → σ) (m : σ → Md) (o : σ → MoL) (meas : σ → Nat) (Inv : σ → Prop)
    (h0 : ∀ s, Inv s → meas s = 0 → Et B (m s) (o s) test false (o s))
    (hs : ∀ s, Inv s → meas s ≠ 0 → Inv (step s) ∧ meas (step s) + 1 = meas s ∧ Et B (m s) (o s) test true (o s) ∧ Ex B (m s) (o s) body (Nx B (m (step s)) (o (step s))) ∧ (o (step s)).map (·.1) = (o s).map (·.1)) :
    ∀ n s, meas s = n → Inv s → WhileR B test body n (m s) (o s) (m (itn step n s)) (o (itn step n s))
  | 0, s, e, i => .done (h0 s i e)
  | n + 1, s, e, i => by
    obtain ⟨a, b, c, d, f⟩ := hs s i (by omega)
    exact .step c d f (WhileR.run step m o meas Inv h0 hs n (step s) (by omega) a)
end
theorem itn_inv {σ : Type} {step : σ → σ} {meas : σ → Nat} {Inv : σ → Prop} (hs : ∀ s, Inv s → meas s ≠ 0 → Inv (step s) ∧ meas (step s) + 1 = meas s) : ∀ n s, meas s = n → Inv s → Inv (itn step n s) ∧ meas (itn step n s) = 0
  | 0, s, e, i => ⟨i, e⟩
  | n + 1, s, e, i => by
    obtain ⟨a, b⟩ := hs s i (by omega)
    exact itn_inv hs n (step s) (by omega) a
structure LS where
  left : List Str
  oct : List UInt8
  pl : List (Str × Int)
  tp : Int
noncomputable def bod (kv : KV) (tag : Str) : List UInt8 := (kv.lookup tag).getD []
structure LI (kv : KV) (A : Int) (s : LS) : Prop where
  nd : (s.left ++ s.pl.map (·.1)).Nodup
  all : ∀ t, t ∈ kv.ks ↔ (t ∈ s.left ∨ t ∈ s.pl.map (·.1))
  num : s.left.length + s.pl.length = kv.length
  sz : s.oct.length ≤ 19 * s.pl.length
  tp0 : 0 ≤ s.tp
  tp1 : s.tp ≤ 300 + 3 * s.pl.length
  at' : ∀ q ∈ s.pl, ∃ pre post, s.oct = pre ++ bod kv q.1 ++ post ∧ A + (pre.length : Int) = q.2
  ord : s.pl.Pairwise fun a b => a.2 + ((bod kv a.1).length : Int) ≤ b.2
noncomputable def g3 (d : Int) : Int := [0, 0, 7].getD d.toNat 0
noncomputable def g2 (d : Int) : Int := [0, 7].getD d.toNat 0
noncomputable def fillB (n g : Int) : List UInt8 := byL (List.replicate n.toNat g)
noncomputable def lPick (cells : List Int) (s : LS) : Nat := (dr cells s.tp s.left.length).toNat
noncomputable def lTag (cells : List Int) (s : LS) : Str := s.left.getD (lPick cells s) ""
noncomputable def lOct (cells : List Int) (s : LS) : List UInt8 := s.oct ++ fillB (dr cells (s.tp + 1 + 1) 5) (g3 (dr cells (s.tp + 1) 3))
noncomputable def lStep (cells : List Int) (kv : KV) (A : Int) (s : LS) : LS := ⟨s.left.eraseIdx (lPick cells s), lOct cells s ++ bod kv (lTag cells s), s.pl ++ [(lTag cells s, A + (lOct cells s).length)], s.tp + 1 + 1 + 1⟩
theorem lPick_lt (cells : List Int) {s : LS} (h : s.left.length ≠ 0) : lPick cells s < s.left.length := by
  have := dr_pos cells s.tp (many := s.left.length) (by omega)
  unfold lPick; omega
theorem lTag_at (cells : List Int) {s : LS} (h : s.left.length ≠ 0) : s.left[lPick cells s]? = some (lTag cells s) := by
  unfold lTag
  rw [List.getD_eq_getElem?_getD, List.getElem?_eq_getElem (lPick_lt cells h)]; rfl
theorem lTag_mem (cells : List Int) {s : LS} (h : s.left.length ≠ 0) : lTag cells s ∈ s.left := List.mem_of_getElem? (lTag_at cells h)
theorem fillB_len (n g : Int) : (fillB n g).length = n.toNat := by unfold fillB byL; simp
theorem bod_le {kv : KV} (t : Tabs kv) (tag : Str) : (bod kv tag).length ≤ 15 := by
  unfold bod
  cases h : kv.lookup tag with
  | none => simp
  | some b =>
    have : (tag, b) ∈ kv := by
      clear t
      induction kv with
      | nil => cases h
      | cons p kv ih =>
        rw [List.lookup_cons] at h
        split at h
        · rename_i e; rw [beq_iff_eq] at e; cases h; subst e; exact .head _
        · exact .tail _ (ih h)
    exact t.small _ this
theorem erase_perm {α : Type} : ∀ (l : List α) (i : Nat) (h : i < l.length), (l[i] :: l.eraseIdx i).Perm l
  | a :: l, 0, _ => List.Perm.refl _
  | a :: l, i + 1, h => by
    have ih := erase_perm l i (by simpa using h)
    have hi : i < l.length := by simpa using h
    exact (List.Perm.swap a (l[i]'hi) (l.eraseIdx i)).trans (ih.cons a)
theorem li_step {cells : List Int} {kv : KV} {A : Int} (t : Tabs kv) {s : LS} (i : LI kv A s) (h : s.left.length ≠ 0) : LI kv A (lStep cells kv A s) ∧ (lStep cells kv A s).left.length + 1 = s.left.length := by
  have hl := lPick_lt cells h
  have ha := lTag_at cells h
  have hd := dr_pos cells (s.tp + 1 + 1) (many := 5) (by omega)
  have hb := bod_le t (lTag cells s)
  have hp : (lTag cells s :: s.left.eraseIdx (lPick cells s)).Perm s.left := by
    have e : s.left[lPick cells s] = lTag cells s := by rw [List.getElem?_eq_getElem hl] at ha; exact Option.some.inj ha
    have := erase_perm _ _ hl
    rwa [e] at this
  have hel : (s.left.eraseIdx (lPick cells s)).length + 1 = s.left.length := by rw [List.length_eraseIdx, if_pos hl]; omega
  refine ⟨⟨?_, fun t => ?_, ?_, ?_, ?_, ?_, fun q hq => ?_, ?_⟩, hel⟩
  · show (s.left.eraseIdx _ ++ (s.pl ++ [(lTag cells s, A + ((lOct cells s).length : Int))]).map (·.1)).Nodup
    rw [List.map_append, ← List.append_assoc]
    refine (List.Perm.nodup_iff ?_).mp i.nd
    refine (hp.symm.append_right _).trans ?_
    show (lTag cells s :: (s.left.eraseIdx _ ++ s.pl.map (·.1))).Perm (s.left.eraseIdx _ ++ s.pl.map (·.1) ++ [lTag cells s])
    exact (List.perm_append_singleton _ _).symm
  · rw [i.all t, ← hp.mem_iff]
    show _ ↔ t ∈ s.left.eraseIdx _ ∨ t ∈ (s.pl ++ [(lTag cells s, A + ((lOct cells s).length : Int))]).map (·.1)
    simp only [List.mem_cons, List.map_append, List.mem_append, List.map_cons, List.map_nil, List.not_mem_nil, or_false]
    constructor
    · rintro ((h | h) | h)
      · exact .inr (.inr h)
      · exact .inl h
      · exact .inr (.inl h)
    · rintro (h | h | h)
      · exact .inl (.inr h)
      · exact .inr h
      · exact .inl (.inl h)
  · show (s.left.eraseIdx _).length + (s.pl ++ [_]).length = kv.length
    rw [List.length_append]; have := i.num; simp only [List.length_singleton]; omega
  · show (lOct cells s ++ bod kv (lTag cells s)).length ≤ 19 * (s.pl ++ [_]).length
    unfold lOct
    rw [List.length_append, List.length_append, List.length_append, fillB_len]
    have := i.sz
    simp only [List.length_singleton]; omega
  · show 0 ≤ s.tp + 1 + 1 + 1; have := i.tp0; omega
  · show s.tp + 1 + 1 + 1 ≤ 300 + 3 * (((s.pl ++ [_]).length : Nat) : Int)
    rw [List.length_append]; have := i.tp1; simp only [List.length_singleton]; omega
  · rcases List.mem_append.mp hq with hq | hq
    · obtain ⟨pre, post, e1, e2⟩ := i.at' q hq
      refine ⟨pre, post ++ fillB (dr cells (s.tp + 1 + 1) 5) (g3 (dr cells (s.tp + 1) 3)) ++ bod kv (lTag cells s), ?_, e2⟩
      show lOct cells s ++ _ = _
      unfold lOct
      rw [e1]
      simp only [List.append_assoc]
    · rw [List.mem_singleton] at hq; subst hq
      exact ⟨lOct cells s, [], by show lOct cells s ++ bod kv _ = _; simp, rfl⟩
  · show (s.pl ++ [(lTag cells s, _)]).Pairwise _
    rw [List.pairwise_append]
    refine ⟨i.ord, List.pairwise_singleton _ _, fun a ha b hb => ?_⟩
    rw [List.mem_singleton] at hb; subst hb
    obtain ⟨pre, post, e1, e2⟩ := i.at' a ha
    show a.2 + _ ≤ A + ((lOct cells s).length : Int)
    have : pre.length + (bod kv a.1).length ≤ (lOct cells s).length := by
      unfold lOct
      rw [e1]; simp only [List.length_append]; omega
    omega
theorem kv_look {kv : KV} {tag : Str} (h : tag ∈ kv.ks) : (kv.ks.zip kv.vs).lookup tag = some (.bytes (bod kv tag)) := by
  unfold bod KV.ks KV.vs at *
  induction kv with
  | nil => simp at h
  | cons p kv ih =>
    rw [List.map_cons, List.map_cons, List.zip_cons_cons, List.lookup_cons, List.lookup_cons]
    by_cases e : tag = p.1
    · subst e; simp only [beq_self_eq_true]; rfl
    · rw [show (tag == p.1) = false from beq_eq_false_iff_ne.mpr e]
      simp only [List.map_cons, List.mem_cons] at h
      exact ih (h.resolve_left e)
theorem map_erase {α β : Type} (f : α → β) : ∀ (l : List α) (i : Nat), (l.map f).eraseIdx i = (l.eraseIdx i).map f
  | [], _ => rfl
  | a :: l, 0 => rfl
  | a :: l, i + 1 => by rw [List.map_cons, List.eraseIdx_cons_succ, List.eraseIdx_cons_succ, List.map_cons, map_erase f l i]
theorem strOk_tag {t : Str} (h : t ∈ tagL) : PyData.strOk t = true := by
  simp only [tagL, List.mem_cons, List.not_mem_nil, or_false] at h
  rcases h with rfl | rfl | rfl | rfl <;> decide +kernel
theorem lay_strs : ∀ {l : List Str}, (∀ t ∈ l, t ∈ tagL) → PyData.canLayAll0 (l.map .str) = true
  | [], _ => by simp [PyData.canLayAll0]
  | a :: l, h => by
    simp only [List.map_cons, PyData.canLayAll0, Bool.and_eq_true, PyData.canLay0]
    exact ⟨strOk_tag (h a (.head _)), lay_strs fun t ht => h t (.tail _ ht)⟩
theorem depth_strs : ∀ (l : List Str), PyData.depthAll (l.map .str) ≤ 2
  | [] => by simp [PyData.depthAll]
  | a :: l => by have := depth_strs l; simp only [List.map_cons, PyData.depthAll, PyData.depth]; omega
theorem toD_strs (l : List Str) : toD (.list (l.map .str)) = .list (l.map .str) := by
  simp only [toD, toDs_map, List.map_map]
  congr 1
section
variable {P : Pm} {n : Nat}
theorem o_ne_nil {l : List Str} (h : ∀ t ∈ l, t ∈ tagL) : Op2 P (compareOp .NotEq) (.list (l.map .str)) (.list []) (.bool (!l.isEmpty)) := by
  have := o_dne (P := P) (a := .list (l.map .str)) (b := .list []) (by simpa only [PyData.canLay0] using lay_strs h) rfl (by have := depth_strs l; simp only [PyData.depth]; omega)
  rw [toD_strs] at this
  have e : PyData.eqv (.list (l.map .str)) (.list []) = l.isEmpty := by cases l <;> simp [PyData.eqv, PyData.eqvAll]
  rw [e] at this
  exact this
theorem c_laid {T t : Addr} {cells : List Int} {kv : KV} {k : Nat} {at0 : Int} (hc : 1 ≤ cells.length) (hc2 : cells.length ≤ 60) (hk1 : 1 ≤ k) (hk4 : k ≤ 4) (hks : kv.ks = tagL.take k) (hT : Tabs kv) (h0 : 0 ≤ at0) (h1 : at0 ≤ 200) :
    ∃ (oct : List UInt8) (pl : List (Str × Int)) (at' : Int), LI kv (12 + 16 * (k : Int)) ⟨[], oct, pl, at'⟩ ∧ ∃ (tail : List UInt8), tail.length ≤ 3 ∧
    Ctr P (n + 2) (.ref 345) [.raw (.ref T), .raw (.ref t)] [(t, .dct kv.ks kv.vs), (T, tp cells at0)] (.d (.tup [.bytes (oct ++ tail), .dict (pl.map (·.1)) (pl.map fun q => .int q.2)])) [(t, .dct kv.ks kv.vs), (T, tp cells (at' + 1 + 1))] := by
  have hkl : kv.ks.length = k := by rw [hks, List.length_take]; show min k 4 = k; omega
  have hkv : kv.length = k := by rw [← hkl]; simp [KV.ks]
  have hnd : kv.ks.Nodup := by rw [hks]; exact (show tagL.Nodup by decide).sublist (List.take_sublist _ _)
  have hpw : kv.ks.Pairwise lt := by rw [hks]; exact (show tagL.Pairwise lt by decide +kernel).sublist (List.take_sublist _ _)
  have hin : ∀ x ∈ kv.ks, x ∈ tagL := fun x hx => by rw [hks] at hx; exact List.mem_of_mem_take hx
  have i0 : LI kv (12 + 16 * (k : Int)) ⟨kv.ks, [], [], at0⟩ := ⟨by simpa using hnd, fun x => by simp, by simp [KV.ks], by simp, h0, by simp; omega, by simp, .nil⟩
  obtain ⟨iE, mE⟩ := itn_inv (step := lStep cells kv (12 + 16 * (k : Int))) (meas := fun s => s.left.length) (Inv := LI kv (12 + 16 * (k : Int))) (fun s i h => li_step hT i h) k ⟨kv.ks, [], [], at0⟩ hkl i0
  generalize hE : itn (lStep cells kv (12 + 16 * (k : Int))) k ⟨kv.ks, [], [], at0⟩ = E at iE mE
  obtain ⟨le, oc, pl, tE⟩ := E
  have : le = [] := List.length_eq_zero_iff.mp mE
  subst this
  have hn2 := iE.num
  simp only [List.length_nil, Nat.zero_add] at hn2
  have ht0 := iE.tp0
  have ht1 := iE.tp1
  have hsz := iE.sz
  simp only at ht0 ht1 hsz
  have hd1 := dr_pos cells tE (many := 2) (by omega)
  have hd2 := dr_pos cells (tE + 1) (many := 4) (by omega)
  refine ⟨oc, pl, tE, iE, fillB (dr cells (tE + 1) 4) (g2 (dr cells tE 2)), by rw [fillB_len]; omega, ?_⟩
  refine ctr_def (names := ["tape", "tables"]) (ho := rfl) (hcd := rfl) (hbind := ?_) rfl ?_ rfl rfl ?_
  · intro vs hv
    rcases vs with _ | ⟨a, _ | ⟨b, _ | ⟨_, _⟩⟩⟩ <;> first | rfl | (simp at hv)
  · decide +kernel
  intro B hB hx
  subst hB
  refine ex_assign (ev_to (ev_bin ev_int (ev_bin ev_int (ev_call (ev_builtin rfl rfl (by decide) rfl rfl) cw_b rfl (evs_cons (ev_name rfl rfl rfl) evs_nil) ((pc_len_dict (ks := kv.ks) (ds := kv.vs) kv.len (by rw [← kv.len, hkl]; omega)).view (m := .dct kv.ks kv.vs) rfl rfl) (Nat.zero_le _) .here) (o_mul (mulL (by decide)))) o_add) (show D.int (12 + 16 * ((kv.ks.length : Nat) : Int)) = D.int (12 + 16 * (k : Int)) by rw [hkl])) rfl ?_
  refine ex_unpack3 (m3 := .lst (kv.ks.map .str)) ev_bytes en_dict (fun a => en_call (ev_builtin rfl rfl (by decide) rfl rfl) cw_b rfl (evs_cons (ev_name rfl rfl rfl) evs_nil) ((sorted_dict (by omega) (by omega) hpw).view (m := .dct kv.ks kv.vs) rfl (by simp [D.flat])) (Nat.zero_le _) (.there .here)) rfl rfl rfl (fun a b ha hb => ?_) rfl (by intros; rfl)
  refine ex_while (WhileR.run (lStep cells kv (12 + 16 * (k : Int))) (fun s => [("octets", .bytes s.oct), ("places", .raw (.ref a)), ("left", .raw (.ref b)), ("at", .int (12 + 16 * (k : Int))), ("tape", .raw (.ref T)), ("tables", .raw (.ref t))])
    (fun s => [(b, .lst (s.left.map .str)), (a, .dct (s.pl.map (·.1)) (s.pl.map fun q => .int q.2)), (t, .dct kv.ks kv.vs), (T, tp cells s.tp)]) (fun s => s.left.length) (LI kv (12 + 16 * (k : Int))) ?_ ?_ k ⟨kv.ks, [], [], at0⟩ hkl i0) rfl ?_
  · intro s i h
    have : s.left = [] := List.length_eq_zero_iff.mp h
    exact et_to (et_cmpv (ev_name rfl rfl rfl) (En.evl ev_empty) (.head _) rfl (o_ne_nil fun x hx => hin x ((i.all x).mpr (.inl hx)))) (by rw [this]; rfl)
  · intro s i h
    obtain ⟨i', hm⟩ := li_step (cells := cells) hT i h
    have hp := lPick_lt cells h
    have hat := lTag_at cells h
    have hmem := lTag_mem cells h
    have hlk := (i.all _).mpr (.inl hmem)
    have hn := i.num
    have s0 := i.tp0
    have s1 := i.tp1
    have ssz := i.sz
    have d0 := dr_pos cells s.tp (many := s.left.length) (by omega)
    have d1 := dr_pos cells (s.tp + 1) (many := 3) (by omega)
    have d2 := dr_pos cells (s.tp + 1 + 1) (many := 5) (by omega)
    have hbl := bod_le hT (lTag cells s)
    have hol : (lOct cells s).length ≤ 200 := by unfold lOct; rw [List.length_append, fillB_len]; omega
    have hnew : lTag cells s ∉ s.pl.map (·.1) := fun hh => (List.nodup_append.mp i.nd).2.2 _ hmem _ hh rfl
    refine ⟨i', hm, et_to (et_cmpv (ev_name rfl rfl rfl) (En.evl ev_empty) (.head _) rfl (o_ne_nil fun x hx => hin x ((i.all x).mpr (.inl hx)))) (by cases hq : s.left with | nil => rw [hq] at h; simp at h | cons _ _ => rfl), ?_, rfl⟩
    refine ex_assign (d := .str (lTag cells s)) (ev_meth (ev_name rfl rfl rfl) (hm_pop (.head _)) cw_b rfl (evs_cons (ev_call (ev_gref rfl rfl rfl) (cw_K rfl) rfl (evs_cons (ev_name rfl rfl rfl) (evs_cons (ev_to (ev_call (ev_builtin rfl rfl (by decide) rfl rfl) cw_b rfl (evs_cons (ev_name rfl rfl rfl) evs_nil) ((pc_len_list (ds := s.left.map .str) (by rw [List.length_map]; omega)).view (m := .lst (s.left.map .str)) rfl rfl) (Nat.zero_le _) .here) (show D.int _ = D.int (s.left.length : Int) by rw [List.length_map])) evs_nil)) (c_draw hc hc2 s0 (by omega) (by omega)) (Nat.le_refl _) (.there (.there (.there .here)))) evs_nil)
      (c_pop (ds := s.left.map .str) d0.1 (by rw [List.getElem?_map]; show (s.left[lPick cells s]?).map _ = _; rw [hat]; rfl) (by rw [List.length_map]; omega)) (Nat.zero_le _) .here rfl rfl) rfl ?_
    rw [show (s.left.map D.str).eraseIdx (dr cells s.tp s.left.length).toNat = (lStep cells kv (12 + 16 * (k : Int)) s).left.map .str from by rw [map_erase]; rfl]
    refine ex_assign (d := .bytes (fillB (dr cells (s.tp + 1 + 1) 5) (g3 (dr cells (s.tp + 1) 3)))) (ev_call (ev_builtin rfl rfl (by decide) rfl rfl) cw_t rfl (evs_cons (ev_to (ev_bin (En.evl (en_list (evs_cons (ev_sub (ev_tuple (evs_cons ev_int (evs_cons ev_int (evs_cons ev_int evs_nil))) (by simp)) (ev_call (ev_gref rfl rfl rfl) (cw_K rfl) rfl (evs_cons (ev_name rfl rfl rfl) (evs_cons ev_int evs_nil)) (c_draw hc hc2 (by omega) (by omega) (by omega)) (Nat.le_refl _) (.there (.there (.there .here)))) (gi_tup (d := .int (g3 (dr cells (s.tp + 1) 3))) d1.1 ?_ (by simp)) (fun o i => ⟨_, rfl⟩)) evs_nil) (by simp)))
      (ev_call (ev_gref rfl rfl rfl) (cw_K rfl) rfl (evs_cons (ev_name rfl rfl rfl) (evs_cons ev_int evs_nil)) (c_draw hc hc2 (by omega) (by omega) (by omega)) (Nat.le_refl _) (.there (.there (.there .here)))) (o_lmul d2.1 (by omega))) (show D.list _ = D.list ((List.replicate (dr cells (s.tp + 1 + 1) 5).toNat (g3 (dr cells (s.tp + 1) 3))).map .int) by rw [List.map_replicate])) evs_nil) (c_bytes_list (fun x hx => ?_) (by rw [List.length_replicate]; omega)).ctr (Nat.zero_le _) .nil) rfl ?_
    · have : dr cells (s.tp + 1) 3 = 0 ∨ dr cells (s.tp + 1) 3 = 1 ∨ dr cells (s.tp + 1) 3 = 2 := by omega
      rcases this with e | e | e <;> rw [e] <;> rfl
    · have hx' := (List.mem_replicate.mp hx).2
      have : dr cells (s.tp + 1) 3 = 0 ∨ dr cells (s.tp + 1) 3 = 1 ∨ dr cells (s.tp + 1) 3 = 2 := by omega
      rcases this with e | e | e <;> rw [e] at hx' <;> subst hx' <;> decide
    refine ex_assign (d := .bytes (lOct cells s)) (ev_bin (ev_name rfl rfl rfl) (ev_name rfl rfl rfl) (o_badd (by rw [fillB_len]; omega))) rfl ?_
    refine ex_setkey (v := ev_bin (ev_name rfl rfl rfl) (ev_call (ev_builtin rfl rfl (by decide) rfl rfl) cw_b rfl (evs_cons (ev_name rfl rfl rfl) evs_nil) (pc_len_bytes (by omega)).ctr (Nat.zero_le _) .nil) o_add) (ho := (ev_name rfl rfl rfl)) (hi := (ev_name rfl rfl rfl)) (u := .there .here) (by rw [List.length_map]; omega) ?_
    rw [putK_new hnew, put_new hnew (by simp)]
    refine ex_assign (d := .bytes (lOct cells s ++ bod kv (lTag cells s))) (ev_bin (ev_name rfl rfl rfl) (ev_subv (ev_name rfl rfl rfl) (ev_name rfl rfl rfl) (.tail _ (.tail _ (.head _))) rfl rfl (gi_dict (kv_look hlk)) (fun o i => ⟨_, rfl⟩)) (o_badd (by omega))) rfl ?_
    rw [show s.pl.map (·.1) ++ [lTag cells s] = (lStep cells kv (12 + 16 * (k : Int)) s).pl.map (·.1) from by simp [lStep], show (s.pl.map fun q => D.int q.2) ++ [D.int (12 + 16 * (k : Int) + ((lOct cells s).length : Int))] = (lStep cells kv (12 + 16 * (k : Int)) s).pl.map (fun q => .int q.2) from by simp [lStep]]
    exact ex_ends (.cons rfl (.cons rfl (.cons rfl (.cons rfl (.cons rfl (.cons rfl .nil))))))
  · rw [hE]
    show Ex B _ [(b, .lst []), (a, .dct (pl.map (·.1)) (pl.map fun q => .int q.2)), (t, .dct kv.ks kv.vs), (T, tp cells tE)] _ _
    refine Ex.sub (md' := [("places", .raw (.ref a)), ("octets", .bytes oc), ("tape", .raw (.ref T))]) ?_ (Sub.get (.cons rfl (.cons rfl (.cons rfl .nil))))
    refine Ex.drop (Ex.freeze ha rfl ?_)
    refine ex_retd (ev_tuple (evs_cons (ev_bin (ev_name rfl rfl rfl) (ev_call (ev_builtin rfl rfl (by decide) rfl rfl) cw_t rfl (evs_cons (ev_to (ev_bin (En.evl (en_list (evs_cons (ev_sub (ev_tuple (evs_cons ev_int (evs_cons ev_int evs_nil)) (by simp)) (ev_call (ev_gref rfl rfl rfl) (cw_K rfl) rfl (evs_cons (ev_name rfl rfl rfl) (evs_cons ev_int evs_nil)) (c_draw hc hc2 (by omega) (by omega) (by omega)) (Nat.le_refl _) (.there .here)) (gi_tup (d := .int (g2 (dr cells tE 2))) hd1.1 ?_ (by simp)) (fun o i => ⟨_, rfl⟩)) evs_nil) (by simp)))
      (ev_call (ev_gref rfl rfl rfl) (cw_K rfl) rfl (evs_cons (ev_name rfl rfl rfl) (evs_cons ev_int evs_nil)) (c_draw hc hc2 (by omega) (by omega) (by omega)) (Nat.le_refl _) (.there .here)) (o_lmul hd2.1 (by omega))) (show D.list _ = D.list ((List.replicate (dr cells (tE + 1) 4).toNat (g2 (dr cells tE 2))).map .int) by rw [List.map_replicate])) evs_nil) (c_bytes_list (fun x hx => ?_) (by rw [List.length_replicate]; omega)).ctr (Nat.zero_le _) .nil) (o_badd (by show oc.length + (fillB _ _).length ≤ _; rw [fillB_len]; omega))) (evs_cons (ev_name rfl rfl rfl) evs_nil)) (by simp)) fun p hp => hp
    · have : dr cells tE 2 = 0 ∨ dr cells tE 2 = 1 := by omega
      rcases this with e | e <;> rw [e] <;> rfl
    · have hx' := (List.mem_replicate.mp hx).2
      have : dr cells tE 2 = 0 ∨ dr cells tE 2 = 1 := by omega
      rcases this with e | e <;> rw [e] at hx' <;> subst hx' <;> decide
end

end Mine

end
section
open PySem PySem.W PySem.Calls PyProof.Rows
set_option maxRecDepth 100000
set_option maxHeartbeats 4000000
namespace Mine
section
variable {P : Pm} {n : Nat}
noncomputable abbrev PL := List (Str × Int)
noncomputable def PL.at (pl : PL) (tag : Str) : Int := (pl.lookup tag).getD 0
theorem pl_look {pl : PL} {tag : Str} (h : tag ∈ pl.map (·.1)) : ((pl.map (·.1)).zip (pl.map fun q => D.int q.2)).lookup tag = some (.int (pl.at tag)) := by
  unfold PL.at
  induction pl with
  | nil => simp at h
  | cons p pl ih =>
    rw [List.map_cons, List.map_cons, List.zip_cons_cons, List.lookup_cons, List.lookup_cons]
    by_cases e : tag = p.1
    · subst e; simp only [beq_self_eq_true]; rfl
    · rw [show (tag == p.1) = false from beq_eq_false_iff_ne.mpr e]
      simp only [List.map_cons, List.mem_cons] at h
      exact ih (h.resolve_left e)
noncomputable def lEnd (kv : KV) (pl : PL) (tag : Str) : Int := pl.at tag + ((bod kv tag).length : Int)
noncomputable def lLater (kv : KV) (pl : PL) (tag : Str) : List Int := (kv.ks.filter fun o => (bod kv o != []) && decide (pl.at o ≥ lEnd kv pl tag)).map pl.at
noncomputable def lMin (data : List UInt8) (kv : KV) (pl : PL) (tag : Str) : Int := lmin ([(data.length : Int), (lEnd kv pl tag + 3).fdiv 4 * 4] ++ lLater kv pl tag)
noncomputable def lBehind (data : List UInt8) (kv : KV) (pl : PL) (tag : Str) : List Int := (rng (lEnd kv pl tag) (lMin data kv pl tag) 1).filter fun a => ((data.getD a.toNat 0).toNat : Int) != 0
noncomputable def lWords (data : List UInt8) (kv : KV) (pl : PL) (wrong : List Str) (tag : Str) : List Str :=
  (if (pl.at tag).fmod 4 != 0 then [("fours" : Str)] else []) ++ (if !(lBehind data kv pl tag).isEmpty then [("noughts" : Str)] else []) ++ (if wrong.any (fun y => y == tag) then [("sum" : Str)] else [])
theorem lay_ints : ∀ (l : List Int), PyData.canLayAll0 (l.map .int) = true
  | [] => by simp [PyData.canLayAll0]
  | a :: l => by simp only [List.map_cons, PyData.canLayAll0, Bool.and_eq_true, PyData.canLay0]; exact ⟨trivial, lay_ints l⟩
theorem depth_ints : ∀ (l : List Int), PyData.depthAll (l.map .int) ≤ 2
  | [] => by simp [PyData.depthAll]
  | a :: l => by have := depth_ints l; simp only [List.map_cons, PyData.depthAll, PyData.depth]; omega
theorem o_ne_nilI {l : List Int} : Op2 P (compareOp .NotEq) (.list (l.map .int)) (.list []) (.bool (!l.isEmpty)) := by
  have := o_dne (P := P) (a := .list (l.map .int)) (b := .list []) (by simpa only [PyData.canLay0] using lay_ints l) rfl (by have := depth_ints l; simp only [PyData.depth]; omega)
  have h : toD (.list (l.map .int)) = .list (l.map .int) := by
    simp only [toD, toDs_map, List.map_map]
    first | done | congr 1
  rw [h] at this
  have e : PyData.eqv (.list (l.map .int)) (.list []) = l.isEmpty := by cases l <;> simp [PyData.eqv, PyData.eqvAll]
  rw [e] at this
  exact this
theorem o_in_strs {l : List Str} {t : Str} (h : ∀ t ∈ l, t ∈ tagL) (ht : t ∈ tagL) : Op2 P (compareOp .In) (.str t) (.list (l.map .str)) (.bool (l.any fun y => y == t)) := by
  have := o_inl (P := P) (a := .str t) (xs := l.map .str) (by simpa only [PyData.canLay0] using strOk_tag ht) (lay_strs h) (by simp [PyData.depth])
  rw [toD_strs] at this
  have e : (l.map PyData.str).any (fun y => PyData.eqv y (.str t)) = l.any fun y => y == t := by rw [List.any_map]; first | rfl | (congr 1; funext y; simp [PyData.eqv])
  rw [e] at this
  exact this
theorem c_lwords {data : List UInt8} {kv : KV} {pl : PL} {wrong : List Str} {tag : Str} (hz : data.length ≤ 20000) (hin : ∀ t ∈ kv.ks, t ∈ tagL) (hpl : ∀ t ∈ kv.ks, t ∈ pl.map (·.1)) (hw : ∀ t ∈ wrong, t ∈ tagL) (ht : tag ∈ kv.ks) (hk : kv.ks.length ≤ 4) (hb : (bod kv tag).length ≤ 15)
    (h0 : 0 ≤ pl.at tag) (h9 : pl.at tag ≤ 20000) :
    Ctr P (n + 1) (.ref 357) [.bytes data, .dict kv.ks kv.vs, .dict (pl.map (·.1)) (pl.map fun q => .int q.2), .list (wrong.map .str), .str tag] [] (.d (.list ((lWords data kv pl wrong tag).map .str))) [] := by
  obtain ⟨m1, m2⟩ := lmin_ok ([(data.length : Int), (lEnd kv pl tag + 3).fdiv 4 * 4] ++ lLater kv pl tag) (by simp)
  have hml : lMin data kv pl tag ≤ data.length := m2 _ (by simp)
  have he : 0 ≤ lEnd kv pl tag := by unfold lEnd; omega
  have hmn : 0 ≤ lMin data kv pl tag := by
    rcases List.mem_append.mp m1 with h | h
    · simp only [List.mem_cons, List.not_mem_nil, or_false] at h
      unfold lMin
      rcases h with h | h
      · rw [h]; omega
      · rw [h, Int.fdiv_eq_ediv_of_nonneg _ (by omega)]; omega
    · unfold lLater at h
      obtain ⟨o, ho, e⟩ := List.mem_map.mp h
      have := (List.mem_filter.mp ho).2
      rw [Bool.and_eq_true, decide_eq_true_eq] at this
      have e' : pl.at o = lMin data kv pl tag := e
      omega
  have hll : (lLater kv pl tag).length ≤ 4 := by unfold lLater; rw [List.length_map]; exact Nat.le_trans (List.length_filter_le _ _) hk
  refine ctr_def (names := ["data", "tables", "places", "wrong", "tag"]) (ho := rfl) (hcd := rfl) (hbind := ?_) rfl ?_ rfl rfl ?_
  · intro vs hv
    rcases vs with _ | ⟨a, _ | ⟨b, _ | ⟨c, _ | ⟨d, _ | ⟨e, _ | ⟨_, _⟩⟩⟩⟩⟩⟩ <;> first | rfl | (simp at hv)
  · decide +kernel
  intro B hB hx
  subst hB
  refine ex_unpack2 (d1 := .int (pl.at tag)) (d2 := .int (lEnd kv pl tag)) (ev_tuple (evs_cons (ev_sub (ev_name rfl rfl rfl) (ev_name rfl rfl rfl) (gi_dict (pl_look (hpl _ ht))) (fun o i => ⟨_, rfl⟩)) (evs_cons (ev_bin (ev_sub (ev_name rfl rfl rfl) (ev_name rfl rfl rfl) (gi_dict (pl_look (hpl _ ht))) (fun o i => ⟨_, rfl⟩)) (ev_call (ev_builtin rfl rfl (by decide) rfl rfl) cw_b rfl (evs_cons (ev_sub (ev_name rfl rfl rfl) (ev_name rfl rfl rfl) (gi_dict (kv_look ht)) (fun o i => ⟨_, rfl⟩)) evs_nil) (pc_len_bytes (by omega)).ctr (Nat.zero_le _) .nil) o_add) evs_nil)) (by simp)) unp_tup rfl rfl ?_ rfl ?_
  · refine ex_comp (ds := kv.ks.map .str) (ev_name rfl rfl rfl) src_dict (fun B' => CompR.filt D.str (fun o => .int (pl.at o)) (fun o => (bod kv o != []) && decide (pl.at o ≥ lEnd kv pl tag)) kv.ks (fun o ho => et_to (et_and (et_cmp (ev_sub (ev_name rfl rfl rfl) (ev_name rfl rfl rfl) (gi_dict (kv_look ho)) (fun o i => ⟨_, rfl⟩)) ev_bytes o_bne) fun _ => et_and (et_cmp (ev_sub (ev_name rfl rfl rfl) (ev_name rfl rfl rfl) (gi_dict (pl_look (hpl _ ho))) (fun o i => ⟨_, rfl⟩)) (ev_name rfl rfl rfl) o_ge) fun _ => et_and_nil) (by rw [Bool.and_true])) fun o ho _ => ev_sub (ev_name rfl rfl rfl) (ev_name rfl rfl rfl) (gi_dict (pl_look (hpl _ ho))) (fun o i => ⟨_, rfl⟩)) rfl rfl (by rw [List.length_map]; omega) rfl rfl fun a ha => ?_
    refine Ex.freeze ha rfl ?_
    rw [show MO.d (.lst ((kv.ks.filter fun o => (bod kv o != []) && decide (pl.at o ≥ lEnd kv pl tag)).map fun o => .int (pl.at o))) = .list ((lLater kv pl tag).map .int) from by unfold lLater; rw [List.map_map]; rfl]
    refine ex_comp (ev_call (ev_builtin rfl rfl (by decide) rfl rfl) cw_t rfl (evs_cons (ev_name rfl rfl rfl) (evs_cons (ev_call (ev_builtin rfl rfl (by decide) rfl rfl) cw_b rfl (evs_cons (ev_to (ev_bin (En.evl (en_list (evs_cons (ev_call (ev_builtin rfl rfl (by decide) rfl rfl) cw_b rfl (evs_cons (ev_name rfl rfl rfl) evs_nil) (pc_len_bytes (by omega)).ctr (Nat.zero_le _) .nil) (evs_cons (ev_bin (ev_bin (ev_bin (ev_name rfl rfl rfl) ev_int o_add) ev_int (o_div (by decide) (by decide))) ev_int (o_mul (mulR (by decide)))) evs_nil)) (by simp))) (ev_name rfl rfl rfl) (o_ladd (by simp only [List.length_map, List.length_cons, List.length_nil]; omega))) (show D.list _ = D.list (([(data.length : Int), (lEnd kv pl tag + 3).fdiv 4 * 4] ++ lLater kv pl tag).map .int) by rw [List.map_append]; rfl)) evs_nil) (c_lmin (by simp)).ctr (Nat.zero_le _) .nil) evs_nil)) pc_range2.ctr (Nat.zero_le _) .nil)
      (src_rng (a := lEnd kv pl tag) (b := lMin data kv pl tag) (small_of ?_ ?_ (by decide)))
      (fun B' => CompR.filt D.int D.int (fun a => ((data.getD a.toNat 0).toNat : Int) != 0) (rng (lEnd kv pl tag) (lMin data kv pl tag) 1) (fun a ha => by
        have := rng1_mem ha
        exact et_cmp (ev_sub (ev_name rfl rfl rfl) (ev_name rfl rfl rfl) (gi_bytes (by omega) (by omega) (by omega)) (fun o i => ⟨_, rfl⟩)) ev_int o_ne) fun a _ _ => (ev_name rfl rfl rfl)) rfl rfl ?_ rfl rfl fun a ha => ?_
    rotate_right
    · refine Ex.freeze ha rfl ?_
      refine ex_assign (d := .list ((if (pl.at tag).fmod 4 != 0 then [("fours" : Str)] else []).map .str)) (ev_ife (mo2 := []) (et_cmp (ev_bin (ev_name rfl rfl rfl) ev_int (o_mod (by decide))) ev_int o_ne) (fun h => ?_) fun h => ?_) rfl ?_
      · rw [h]; exact En.evl (en_list (evs_cons ev_str evs_nil) (by simp))
      · rw [h]; exact En.evl ev_empty
      refine ex_retd (ev_to (ev_bin (ev_bin (ev_name rfl rfl rfl) (ev_ife (mo2 := []) (d := .list ((if !(lBehind data kv pl tag).isEmpty then [("noughts" : Str)] else []).map .str)) (et_cmp (ev_name rfl rfl rfl) (En.evl ev_empty) o_ne_nilI) (fun h => ?_) fun h => ?_) (o_ladd ?_)) (ev_ife (mo2 := []) (d := .list ((if wrong.any (fun y => y == tag) then [("sum" : Str)] else []).map .str)) (et_cmp (ev_name rfl rfl rfl) (ev_name rfl rfl rfl) (o_in_strs hw (hin _ ht))) (fun h => ?_) fun h => ?_) (o_ladd ?_)) (show D.list _ = D.list ((lWords data kv pl wrong tag).map .str) by unfold lWords; rw [List.map_append, List.map_append])) (fun p hp => nomatch hp)
      · have h' : (!(lBehind data kv pl tag).isEmpty) = true := h
        rw [h']; exact En.evl (en_list (evs_cons ev_str evs_nil) (by simp))
      · have h' : (!(lBehind data kv pl tag).isEmpty) = false := h
        rw [h']; exact En.evl ev_empty
      · rw [List.length_map, List.length_map]; split <;> split <;> simp
      · rw [h]; exact En.evl (en_list (evs_cons ev_str evs_nil) (by simp))
      · rw [h]; exact En.evl ev_empty
      · rw [List.length_append, List.length_map, List.length_map, List.length_map]; split <;> split <;> split <;> simp
    · unfold lEnd; omega
    · omega
    · rw [List.length_map]
      have : (rng (lEnd kv pl tag) (lMin data kv pl tag) 1).length ≤ (lMin data kv pl tag - lEnd kv pl tag).toNat := by
        unfold rng
        rw [List.length_map, List.length_range]
        unfold Builtin.Range.rangeSize
        simp only [show (1 : Int) > 0 from by omega, if_true, Int.ediv_one]
        split <;> omega
      omega
  · intros; rfl
end

end Mine

end
section
open PySem PySem.W PySem.Calls PyProof.Rows
set_option maxRecDepth 100000
set_option maxHeartbeats 4000000
namespace Mine
section
variable {sc : Sc} {B : Bd sc} {md : Md} {mo mo' mo1 mo2 : MoL}
theorem ev_script {value e : Expr} {p pos : Pos} {l : Addr} {vs : List Value} {ns : List Int} {i : Int} (hl : B.P.hT.IsList l vs.toArray) (hi : IntsAre vs ns) (hz : vs.length ≤ 1000000) (x : Ev B md mo value (.raw (.ref l)) mo) (r : Ev B md mo e (.int i) mo) : Ev B md mo (.Subscript value (.Slice none (some e) none p) pos) (.list ((cut ns none (some i)).map .int)) mo := fun h s => .of fun tk Q hq =>
  Subscript_ ((x h s).to fun u h1 tk1 ⟨g1, r1⟩ => wpAny_Slice ((evo_none h1 g1.s).to fun vl h2 tk2 ⟨g2, p2⟩ => ((evo_some r) h2 g2.s).to fun vr h3 tk3 ⟨g3, p3⟩ => by
    rw [evalPart_none]
    refine wpAny_pure ?_
    rw [rep_raw] at r1; subst r1
    have kp := Ke.push h3 { cls := .type "slice", data := .fields #[vl, vr, .none] }
    have g4 := g3.ke kp
    have hl4 : (h3.push { cls := .type "slice", data := .fields #[vl, vr, .none] }).IsList l vs.toArray := let ⟨o, e, r⟩ := hl; ⟨o, g4.s.base.top _ _ e, r⟩
    have key : ∀ tk, wpAny (model B.P.prog B.P.w) B.A (getItem (.ref l) (.ref h3.objs.size)) (fun v s' => ∃ h' tk', s' = { B.P.σ with heap := h', toks := tk' } ∧ Ke (h3.push { cls := .type "slice", data := .fields #[vl, vr, .none] }) h' ∧ Rep B.P (XX B mo) h' v (.list ((cut ns none (some i)).map .int))) (fun _ _ => False) { B.P.σ with heap := h3.push { cls := .type "slice", data := .fields #[vl, vr, .none] }, toks := tk } := fun tk =>
      wpAny_getItem_list_slice hl4 (Heap.IsSliceOf.new ..) p2 p3 .none (by simp) ⟨_, _, rfl, Ke.push _ _, by
        rw [slicePick_cut, rep_list]
        refine ⟨_, cut vs none (some i), rfl, g4.s.new (size_none _), ⟨0, Heap.get?_push_size _ rfl⟩, ?_⟩
        have gen : ∀ {vs : List Value} {ns : List Int}, IntsAre vs ns → ∀ X h, Reps B.P X h vs (ns.map .int) := by
          intro vs ns hh
          induction hh with
          | nil => intro X h; simp only [List.map_nil, Reps]
          | cons n t _ ih => intro X h; rw [List.map_cons, reps_cons, rep_int]; exact ⟨⟨_, rfl⟩, ih X h⟩
        have hlen := hi.length
        have e : (cut ns none (some i)).map D.int = cut (ns.map D.int) none (some i) := by unfold cut; rw [List.map_take, List.map_drop, List.length_map]
        rw [e]
        have := gen hi (XX B mo) ((h3.push { cls := .type "slice", data := .fields #[vl, vr, .none] }).push { cls := .type "list", data := .seq (cut vs none (some i)).toArray })
        unfold cut
        rw [List.length_map, ← hlen]
        exact (this.drop _).take _⟩ (by rw [List.size_toArray, sizeLine_eq]; omega)
    exact tail_any (Heap.IsList.typeIs (s := { B.P.σ with heap := _, toks := tk3 }) hl4) list_getitem_lookup (wpAny_mono (key tk3) (fun v s' ⟨h', tk', e, k5, r5⟩ => by subst e; exact hq _ _ _ ⟨((g1.trans g2).trans g4).ke k5, r5⟩) fun _ _ f => f) rfl))
end
noncomputable def cellsOf (ns : List Int) : List Int := if (cut ns none (some 60)).isEmpty then [3] else cut ns none (some 60)
theorem cells_ok (ns : List Int) : 1 ≤ (cellsOf ns).length ∧ (cellsOf ns).length ≤ 60 := by
  unfold cellsOf
  have h : (cut ns none (some 60)).length ≤ 60 := by
    unfold cut
    simp only [Option.elim, List.drop_zero, List.length_take]
    unfold clipAt
    omega
  split
  · simp
  · rename_i hne
    refine ⟨?_, h⟩
    cases hq : cut ns none (some 60) with
    | nil => rw [hq] at hne; simp at hne
    | cons _ _ => simp
noncomputable def wr (cells : List Int) : Int → List Str → List Str
  | _, [] => []
  | s, t :: l => (if dr cells s 4 == 1 then [t] else []) ++ wr cells (s + 1) l
theorem outs_wr (cells : List Int) : ∀ (l : List Str) (s : Int), outs (fun s _ => dr cells s 4 == 1) (fun (_ : Int) t => D.str t) (fun s _ => s + 1) s l = (wr cells s l).map .str
  | [], _ => rfl
  | t :: l, s => by
    unfold outs wr
    rw [outs_wr cells l, List.map_append]
    congr 1
    split <;> rfl
theorem wr_mem {cells : List Int} : ∀ {l : List Str} {s : Int} {t : Str}, t ∈ wr cells s l → t ∈ l
  | [], _, _, h => by simp [wr] at h
  | a :: l, s, t, h => by
    unfold wr at h
    rcases List.mem_append.mp h with h | h
    · split at h
      · rw [List.mem_singleton] at h; subst h; exact .head _
      · simp at h
    · exact .tail _ (wr_mem h)
theorem wr_len {cells : List Int} : ∀ (l : List Str) (s : Int), (wr cells s l).length ≤ l.length
  | [], _ => by simp [wr]
  | a :: l, s => by
    have := wr_len (cells := cells) l (s + 1)
    unfold wr
    rw [List.length_append, List.length_cons]
    split <;> simp <;> omega
noncomputable def stp (k : Nat) : Int := (([2, 4] : List Int).filter fun p => decide (p ≤ (k : Int))).length
noncomputable def nums0 (k : Nat) : List Int := [16 * 2 ^ (stp k).toNat, stp k, 16 * (k : Int) - 16 * 2 ^ (stp k).toNat]
noncomputable def numsF (k : Nat) (searching : Bool) (j : Int) : List Int := if searching then nums0 k else (nums0 k).set j.toNat ((nums0 k).getD j.toNat 0 + 1)
noncomputable def hdr (k : Nat) (nums : List Int) : List UInt8 := oct 65536 4 ++ (oct k 2 ++ oct (nums.getD 0 0) 2 ++ oct (nums.getD 1 0) 2 ++ oct (nums.getD 2 0) 2)
noncomputable def tot (kv : KV) (wrong : List Str) (tag : Str) : Int := lsum (told1 tag (bod kv tag)) + (if wrong.any (fun y => y == tag) then 1 else 0)
noncomputable def recB (kv : KV) (pl : PL) (wrong : List Str) (tag : Str) : List UInt8 := oct (tot kv wrong tag) 4 ++ oct (pl.at tag) 4 ++ oct ((bod kv tag).length : Int) 4
noncomputable def dir (kv : KV) (pl : PL) (wrong : List Str) (h : List UInt8) : List UInt8 := kv.ks.foldl (fun d tag => d ++ enc tag ++ recB kv pl wrong tag) h
noncomputable def hasHead (kv : KV) : Bool := ((kv.ks.zip kv.vs).lookup ("head" : Str)).isSome
noncomputable def bare (d : List UInt8) (a : Int) : List UInt8 := cut d none (some a) ++ List.replicate (4 : Int).toNat 0 ++ cut d (some (a + 4)) none
noncomputable def lack (b : List UInt8) (wh : Bool) : Int := (2981146554 - lsum b + (if wh then 0 else 1)).fmod (2 ^ (32 : Int).toNat)
noncomputable def adj (x a : Int) : List Int := (rng 0 4 1).map fun s => (x.fdiv (256 ^ (3 - (a + s).fmod 4).toNat)).fmod 256
noncomputable def patch (d : List UInt8) (a : Int) (wh : Bool) : List UInt8 := cut (bare d a) none (some a) ++ byL (adj (lack (bare d a) wh) a) ++ cut (bare d a) (some (a + 4)) none
noncomputable def data2 (kv : KV) (pl : PL) (d : List UInt8) (wh : Bool) : List UInt8 := if hasHead kv then patch d (pl.at "head" + 8) wh else d
noncomputable def setB : KV → List UInt8 → KV
  | [], _ => []
  | p :: r, b => if p.1 = "head" then (p.1, b) :: r else p :: setB r b
noncomputable def kv2 (kv : KV) (pl : PL) (d : List UInt8) (wh : Bool) : KV := if hasHead kv then setB kv (cut (patch d (pl.at "head" + 8) wh) (some (pl.at "head")) (some (pl.at "head" + ((bod kv "head").length : Int)))) else kv
noncomputable def dueOf (kv : KV) (pl : PL) (wrong : List Str) (data : List UInt8) (kv' : KV) (searching wh : Bool) : List (Str × Str) :=
  kv.ks.foldl (fun s tag => s ++ (lWords data kv' pl wrong tag).map fun w => (tag, w)) (if searching then [] else [(("" : Str), ("searching" : Str))]) ++ (if wh then [] else [(("head" : Str), ("whole" : Str))])
structure Laid (k : Nat) (kv : KV) (pl : PL) (oc tail : List UInt8) (wrong : List Str) (d : List UInt8) (searching : Bool) (j : Int) : Prop where
  k1 : 1 ≤ k
  k4 : k ≤ 4
  ks : kv.ks = tagL.take k
  tabs : Tabs kv
  li : ∃ tE, LI kv (12 + 16 * (k : Int)) ⟨[], oc, pl, tE⟩
  tl : tail.length ≤ 3
  wr : ∀ t ∈ wrong, t ∈ kv.ks
  j0 : 0 ≤ j
  j3 : j < 3
  d : d = dir kv pl wrong (hdr k (numsF k searching j)) ++ (oc ++ tail)

end Mine

end
section
open PySem PySem.W PySem.Calls PyProof.Rows
set_option maxRecDepth 100000
set_option maxHeartbeats 4000000
namespace Mine
theorem cut_eq {α : Type} (l : List α) {lo hi : Int} (h0 : 0 ≤ lo) (h1 : lo ≤ hi) (h2 : hi ≤ l.length) : cut l (some lo) (some hi) = (l.drop lo.toNat).take (hi - lo).toNat := by
  unfold cut
  simp only [Option.elim]
  rw [PyProof.Rows.clipAt_in h0 (by omega), PyProof.Rows.clipAt_in (by omega) h2]
  congr 1; omega
theorem cut_pre {α : Type} (l : List α) {hi : Int} (h1 : 0 ≤ hi) (h2 : hi ≤ l.length) : cut l none (some hi) = l.take hi.toNat := by
  unfold cut
  simp only [Option.elim, List.drop_zero, Nat.sub_zero]
  rw [PyProof.Rows.clipAt_in h1 h2]
theorem cut_post {α : Type} (l : List α) {lo : Int} (h0 : 0 ≤ lo) (h1 : lo ≤ l.length) : cut l (some lo) none = l.drop lo.toNat := by
  unfold cut
  simp only [Option.elim]
  rw [PyProof.Rows.clipAt_in h0 h1, List.take_of_length_le]
  rw [List.length_drop]; omega
theorem cut_mid {α : Type} {d x y z : List α} (hd : d = x ++ y ++ z) {lo hi : Int} (h1 : lo = (x.length : Int)) (h2 : hi = lo + (y.length : Int)) : cut d (some lo) (some hi) = y := by
  subst hd
  rw [cut_eq _ (by omega) (by omega) (by simp only [List.length_append]; omega)]
  rw [show lo.toNat = x.length from by omega, show (hi - lo).toNat = y.length from by omega]
  rw [List.append_assoc, List.drop_left, List.take_left]
theorem u8 {x : Int} (h0 : 0 ≤ x) (h1 : x < 256) : ((x.toNat.toUInt8).toNat : Int) = x := by
  have : (x.toNat.toUInt8).toNat = x.toNat := by
    show (UInt8.ofNat x.toNat).toNat = _
    rw [UInt8.toNat_ofNat']; omega
  rw [this]; omega
theorem octs4 (n : Int) (h : 0 ≤ n) : octs n 4 = [n / 16777216 % 256, n / 65536 % 256, n / 256 % 256, n % 256] := by
  have e : rng (4 - 1) (-1) (-1) = [3, 2, 1, 0] := by decide
  unfold octs
  rw [e]
  simp only [List.map_cons, List.map_nil]
  rw [Int.fdiv_eq_ediv_of_nonneg _ (by decide), Int.fdiv_eq_ediv_of_nonneg _ (by decide), Int.fdiv_eq_ediv_of_nonneg _ (by decide), Int.fdiv_eq_ediv_of_nonneg _ (by decide),
    Int.fmod_eq_emod_of_nonneg _ (by decide), Int.fmod_eq_emod_of_nonneg _ (by decide), Int.fmod_eq_emod_of_nonneg _ (by decide), Int.fmod_eq_emod_of_nonneg _ (by decide)]
  have e3 : (256 : Int) ^ (3 : Int).toNat = 16777216 := by decide
  have e2 : (256 : Int) ^ (2 : Int).toNat = 65536 := by decide
  have e1 : (256 : Int) ^ (1 : Int).toNat = 256 := by decide
  have e0 : (256 : Int) ^ (0 : Int).toNat = 1 := by decide
  rw [e3, e2, e1, e0, Int.ediv_one]
theorem octs2 (n : Int) (h : 0 ≤ n) : octs n 2 = [n / 256 % 256, n % 256] := by
  have e : rng (2 - 1) (-1) (-1) = [1, 0] := by decide
  unfold octs
  rw [e]
  simp only [List.map_cons, List.map_nil]
  rw [Int.fdiv_eq_ediv_of_nonneg _ (by decide), Int.fdiv_eq_ediv_of_nonneg _ (by decide), Int.fmod_eq_emod_of_nonneg _ (by decide), Int.fmod_eq_emod_of_nonneg _ (by decide)]
  have e1 : (256 : Int) ^ (1 : Int).toNat = 256 := by decide
  have e0 : (256 : Int) ^ (0 : Int).toNat = 1 := by decide
  rw [e1, e0, Int.ediv_one]
theorem be4 {n : Int} (h : 0 ≤ n) : be (oct n 4) = n % 4294967296 := by
  unfold oct
  rw [octs4 n h]
  unfold be byL
  simp only [List.map_cons, List.map_nil, List.foldl_cons, List.foldl_nil]
  rw [u8 (by omega) (by omega), u8 (by omega) (by omega), u8 (by omega) (by omega), u8 (by omega) (by omega)]
  omega
theorem be2 {n : Int} (h : 0 ≤ n) : be (oct n 2) = n % 65536 := by
  unfold oct
  rw [octs2 n h]
  unfold be byL
  simp only [List.map_cons, List.map_nil, List.foldl_cons, List.foldl_nil]
  rw [u8 (by omega) (by omega), u8 (by omega) (by omega)]
  omega
theorem rd4 {d x z : List UInt8} {n at' : Int} (hd : d = x ++ oct n 4 ++ z) (ha : at' = (x.length : Int)) (h : 0 ≤ n) : rd d at' 4 = n % 4294967296 := by
  unfold rd
  rw [cut_mid hd ha (by rw [oct_len (by omega)]; rfl), be4 h]
theorem rd2 {d x z : List UInt8} {n at' : Int} (hd : d = x ++ oct n 2 ++ z) (ha : at' = (x.length : Int)) (h : 0 ≤ n) : rd d at' 2 = n % 65536 := by
  unfold rd
  rw [cut_mid hd ha (by rw [oct_len (by omega)]; rfl), be2 h]
theorem chrs_tag {t : Str} (h : t ∈ tagL) : chrs (enc t) = t := by
  simp only [tagL, List.mem_cons, List.not_mem_nil, or_false] at h
  rcases h with rfl | rfl | rfl | rfl <;> decide +kernel
theorem enc_len {t : Str} (h : t ∈ tagL) : (enc t).length = 4 := by
  simp only [tagL, List.mem_cons, List.not_mem_nil, or_false] at h
  rcases h with rfl | rfl | rfl | rfl <;> rfl
theorem rc_of {d x z : List UInt8} {t : Str} {a b c w : Int} (hd : d = x ++ (enc t ++ (oct a 4 ++ oct b 4 ++ oct c 4)) ++ z) (hw : w = (x.length : Int)) (ht : t ∈ tagL) (ha : 0 ≤ a) (hb : 0 ≤ b) (hc : 0 ≤ c) :
    rcOf d w = ⟨t, a % 4294967296, b % 4294967296, c % 4294967296, w⟩ := by
  have he := enc_len ht
  have l4 : ∀ n, (oct n 4).length = 4 := fun n => oct_len (by omega)
  unfold rcOf
  congr 1
  · rw [cut_mid (x := x) (y := enc t) (z := oct a 4 ++ oct b 4 ++ oct c 4 ++ z) (by rw [hd]; simp only [List.append_assoc]) hw (by rw [he]; rfl), chrs_tag ht]
  · exact rd4 (x := x ++ enc t) (z := oct b 4 ++ oct c 4 ++ z) (by rw [hd]; simp only [List.append_assoc]) (by rw [List.length_append, he]; omega) ha
  · exact rd4 (x := x ++ enc t ++ oct a 4) (z := oct c 4 ++ z) (by rw [hd]; simp only [List.append_assoc]) (by simp only [List.length_append, he, l4]; omega) hb
  · exact rd4 (x := x ++ enc t ++ oct a 4 ++ oct b 4) (z := z) (by rw [hd]; simp only [List.append_assoc]) (by simp only [List.length_append, he, l4]; omega) hc
noncomputable def mkR (kv : KV) (pl : PL) (wrong : List Str) (t : Str) (w : Int) : Rc := ⟨t, tot kv wrong t % 4294967296, pl.at t, ((bod kv t).length : Int), w⟩
theorem dir_split (kv : KV) (pl : PL) (wrong : List Str) : ∀ (l : List Str) (h z : List UInt8) (i : Nat) (hi : i < l.length), (∀ t ∈ l, t ∈ tagL) → ∃ x y, l.foldl (fun d tag => d ++ enc tag ++ recB kv pl wrong tag) h ++ z = x ++ (enc l[i] ++ recB kv pl wrong l[i]) ++ y ∧ x.length = h.length + 16 * i
  | [], _, _, i, hi, _ => by simp at hi
  | t :: l, h, z, 0, _, ht => by
    have gen : ∀ (l : List Str) (h z : List UInt8), ∃ y, l.foldl (fun d tag => d ++ enc tag ++ recB kv pl wrong tag) h ++ z = h ++ y := by
      intro l
      induction l with
      | nil => intro h z; exact ⟨z, rfl⟩
      | cons t l ih =>
        intro h z
        obtain ⟨y, e⟩ := ih (h ++ enc t ++ recB kv pl wrong t) z
        exact ⟨enc t ++ recB kv pl wrong t ++ y, by rw [List.foldl_cons, e]; simp only [List.append_assoc]⟩
    obtain ⟨y, e⟩ := gen l (h ++ enc t ++ recB kv pl wrong t) z
    exact ⟨h, y, by rw [List.foldl_cons, e]; simp only [List.getElem_cons_zero, List.append_assoc], by simp⟩
  | t :: l, h, z, i + 1, hi, ht => by
    obtain ⟨x, y, e1, e2⟩ := dir_split kv pl wrong l (h ++ enc t ++ recB kv pl wrong t) z i (by simpa using hi) fun a ha => ht a (.tail _ ha)
    refine ⟨x, y, by rw [List.foldl_cons, e1]; rfl, ?_⟩
    rw [e2]
    simp only [List.length_append, recB, enc_len (ht t (.head _)), oct_len (show (0 : Int) ≤ 4 by omega)]
    show h.length + 4 + (4 + 4 + 4) + 16 * i = h.length + 16 * (i + 1)
    omega
theorem wheres_eq {k : Nat} (h1 : 1 ≤ k) (h4 : k ≤ 4) : wheres (k : Int) = (List.range k).map fun (i : Nat) => (12 + 16 * (i : Int)) := by
  have : k = 1 ∨ k = 2 ∨ k = 3 ∨ k = 4 := by omega
  rcases this with rfl | rfl | rfl | rfl <;> decide
theorem setB_ks : ∀ (kv : KV) (b : List UInt8), KV.ks (setB kv b) = kv.ks
  | [], _ => rfl
  | p :: r, b => by
    unfold setB
    split
    · rfl
    · show p.1 :: KV.ks (setB r b) = p.1 :: KV.ks r
      rw [setB_ks r b]
theorem hasHead_mem {kv : KV} : hasHead kv = true ↔ ("head" : Str) ∈ kv.ks := by
  unfold hasHead KV.ks KV.vs
  induction kv with
  | nil => simp
  | cons p kv ih =>
    rw [List.map_cons, List.map_cons, List.zip_cons_cons, List.lookup_cons, List.mem_cons]
    by_cases e : ("head" : Str) = p.1
    · rw [show (("head" : Str) == p.1) = true from beq_iff_eq.mpr e]; simp [e]
    · rw [show (("head" : Str) == p.1) = false from beq_eq_false_iff_ne.mpr e]
      constructor
      · intro h; exact .inr (ih.mp h)
      · intro h; exact ih.mpr (h.resolve_left e)
theorem oct_len' (x c : Int) (h : 0 ≤ c) : (oct x c).length = c.toNat := oct_len h
theorem dir_len (kv : KV) (pl : PL) (wrong : List Str) : ∀ (l : List Str) (h : List UInt8), (∀ t ∈ l, t ∈ tagL) → (l.foldl (fun d tag => d ++ enc tag ++ recB kv pl wrong tag) h).length = h.length + 16 * l.length
  | [], h, _ => by simp
  | t :: l, h, ht => by
    have e : (enc t).length = 4 := by
      have := ht t (.head _)
      simp only [tagL, List.mem_cons, List.not_mem_nil, or_false] at this
      rcases this with rfl | rfl | rfl | rfl <;> rfl
    rw [List.foldl_cons, dir_len kv pl wrong l _ fun x hx => ht x (.tail _ hx)]
    simp only [List.length_append, recB, oct_len' _ 4 (by omega), e, List.length_cons]
    omega
theorem pl_at_mem {pl : PL} {tag : Str} (h : tag ∈ pl.map (·.1)) : (tag, pl.at tag) ∈ pl := by
  unfold PL.at
  induction pl with
  | nil => simp at h
  | cons p pl ih =>
    rw [List.lookup_cons]
    by_cases e : tag = p.1
    · subst e; simp
    · rw [show (tag == p.1) = false from beq_eq_false_iff_ne.mpr e]
      simp only [List.map_cons, List.mem_cons] at h
      exact .tail _ (ih (h.resolve_left e))

end Mine

end
section
open PySem PySem.W PySem.Calls PyProof.Rows
set_option maxRecDepth 100000
set_option maxHeartbeats 4000000
namespace Mine
noncomputable def SS : List UInt8 → Nat → Int
  | [], _ => 0
  | c :: l, o => (c.toNat : Int) * 256 ^ (3 - o % 4) + SS l (o + 1)
theorem SS_cons (c : UInt8) (l : List UInt8) (o : Nat) : SS (c :: l) o = (c.toNat : Int) * 256 ^ (3 - o % 4) + SS l (o + 1) := rfl
theorem SS_nil (o : Nat) : SS [] o = 0 := rfl
theorem SS_app : ∀ (x y : List UInt8) (o : Nat), SS (x ++ y) o = SS x o + SS y (o + x.length)
  | [], y, o => by simp [SS]
  | c :: x, y, o => by
    rw [List.cons_append, SS_cons, SS_cons, SS_app x y (o + 1), List.length_cons, show o + (x.length + 1) = o + 1 + x.length by omega]
    omega
theorem SS_zero : ∀ (n o : Nat), SS (List.replicate n 0) o = 0
  | 0, _ => rfl
  | n + 1, o => by
    rw [List.replicate_succ, SS_cons, SS_zero n (o + 1)]
    show (0 : Int) * _ + 0 = 0
    omega
theorem fmod4 (i : Nat) : (3 - ((i : Nat) : Int).fmod 4).toNat = 3 - i % 4 := by
  rw [Int.fmod_eq_emod_of_nonneg _ (by omega)]; omega
theorem lsums_eq (l : List UInt8) : (lsums l).sum = SS l 0 := by
  have e : rng 0 (l.length : Int) 1 = (List.range l.length).map fun (i : Nat) => ((i : Nat) : Int) := by
    unfold rng
    have : (Builtin.Range.rangeSize 0 (l.length : Int) 1).toNat = l.length := by
      unfold Builtin.Range.rangeSize
      simp only [show (1 : Int) > 0 from by omega, if_true, Int.ediv_one]
      split <;> omega
    rw [this]
    refine List.map_congr_left fun i _ => by omega
  have gen : ∀ (l : List UInt8) (o : Nat), ((List.range l.length).map fun (i : Nat) => ((l.getD i 0).toNat : Int) * 256 ^ (3 - (o + i) % 4)).sum = SS l o := by
    intro l
    induction l with
    | nil => intro o; rfl
    | cons c l ih =>
      intro o
      rw [List.length_cons, List.range_succ_eq_map, List.map_cons, List.sum_cons, List.map_map]
      rw [SS_cons, ← ih (o + 1)]
      congr 1
      congr 1
      refine List.map_congr_left fun i _ => ?_
      show (((c :: l).getD (i + 1) 0).toNat : Int) * 256 ^ (3 - (o + (i + 1)) % 4) = _
      rw [show o + (i + 1) = o + 1 + i by omega]
      rfl
  unfold lsums
  rw [e, List.map_map, ← gen l 0]
  congr 1
  refine List.map_congr_left fun i _ => ?_
  show ((l.getD ((i : Nat) : Int).toNat 0).toNat : Int) * 256 ^ (3 - ((i : Nat) : Int).fmod 4).toNat = _
  rw [fmod4, Int.toNat_natCast, Nat.zero_add]
theorem lsum_eq (l : List UInt8) : lsum l = SS l 0 % 4294967296 := by
  unfold lsum
  rw [lsums_eq, Int.fmod_eq_emod_of_nonneg _ (by decide)]
  rfl
theorem SS_four (a b c e : UInt8) (l : List UInt8) {o : Nat} (h : o % 4 = 0) : SS (a :: b :: c :: e :: l) o = be [a, b, c, e] + SS l (o + 4) := by
  rw [SS_cons, SS_cons, SS_cons, SS_cons]
  have h1 : (o + 1) % 4 = 1 := by omega
  have h2 : (o + 1 + 1) % 4 = 2 := by omega
  have h3 : (o + 1 + 1 + 1) % 4 = 3 := by omega
  rw [h, h1, h2, h3]
  unfold be
  simp only [List.foldl_cons, List.foldl_nil]
  have e3 : (256 : Int) ^ (3 - 0) = 16777216 := by decide
  have e2 : (256 : Int) ^ (3 - 1) = 65536 := by decide
  have e1 : (256 : Int) ^ (3 - 2) = 256 := by decide
  have e0 : (256 : Int) ^ (3 - 3) = 1 := by decide
  rw [e3, e2, e1, e0]
  have e4 : SS l (o + 1 + 1 + 1 + 1) = SS l (o + 4) := rfl
  rw [e4]
  omega
theorem rng4_eq (m : Nat) : rng 0 ((4 * m : Nat) : Int) 4 = (List.range m).map fun (i : Nat) => ((4 * i : Nat) : Int) := by
  unfold rng
  have : (Builtin.Range.rangeSize 0 ((4 * m : Nat) : Int) 4).toNat = m := by
    unfold Builtin.Range.rangeSize
    rw [if_pos (by omega)]
    split <;> omega
  rw [this]
  refine List.map_congr_left fun i _ => by omega
theorem words_sum : ∀ (m : Nat) (x l : List UInt8) (t : Int), l.length = 4 * m → x.length % 4 = 0 →
    (List.range m).foldl (fun (t : Int) i => t + rd (x ++ l) ((x.length + 4 * i : Nat) : Int) 4) t = t + SS l x.length
  | 0, x, l, t, hl, _ => by
    have : l = [] := List.length_eq_zero_iff.mp (by omega)
    subst this
    simp [SS]
  | m + 1, x, l, t, hl, hx => by
    rcases l with _ | ⟨a, _ | ⟨b, _ | ⟨c, _ | ⟨e, l⟩⟩⟩⟩ <;> simp only [List.length_cons, List.length_nil] at hl <;> try omega
    rw [List.range_succ_eq_map, List.foldl_cons, List.foldl_map]
    have h1 : rd (x ++ a :: b :: c :: e :: l) ((x.length + 4 * 0 : Nat) : Int) 4 = be [a, b, c, e] := by
      unfold rd
      rw [cut_mid (x := x) (y := [a, b, c, e]) (z := l) (by simp) (by omega) (by show _ = _ + ((4 : Nat) : Int); omega)]
    rw [h1]
    have ih := words_sum m (x ++ [a, b, c, e]) l (t + be [a, b, c, e]) (by omega) (by rw [List.length_append]; show (x.length + 4) % 4 = 0; omega)
    have e1 : (x ++ [a, b, c, e]) ++ l = x ++ a :: b :: c :: e :: l := by simp
    rw [e1] at ih
    have e2 : (x ++ [a, b, c, e]).length = x.length + 4 := by rw [List.length_append]; rfl
    rw [e2] at ih
    have e3 : (fun (t : Int) (i : Nat) => t + rd (x ++ a :: b :: c :: e :: l) ((x.length + 4 * (Nat.succ i) : Nat) : Int) 4) = fun t i => t + rd (x ++ a :: b :: c :: e :: l) ((x.length + 4 + 4 * i : Nat) : Int) 4 := by
      funext t i
      rw [show x.length + 4 * Nat.succ i = x.length + 4 + 4 * i by omega]
    show List.foldl (fun (t : Int) (i : Nat) => t + rd (x ++ a :: b :: c :: e :: l) ((x.length + 4 * (Nat.succ i) : Nat) : Int) 4) _ _ = _
    rw [e3, ih, SS_four a b c e l hx]
    omega
theorem ck_eq (l : List UInt8) : ck l = lsum l := by
  rw [lsum_eq]
  unfold ck ckn
  have hp := pad_len l
  obtain ⟨m, hm⟩ : ∃ m, (pad l).length = 4 * m := ⟨(pad l).length / 4, by omega⟩
  rw [hm, rng4_eq, List.foldl_map]
  have := words_sum m [] (pad l) 0 hm rfl
  simp only [List.nil_append, List.length_nil, Nat.zero_add] at this
  rw [this]
  have e : SS (pad l) 0 = SS l 0 := by
    unfold pad
    rw [SS_app, SS_zero]; omega
  rw [e]; simp
theorem adj_sum {x : Int} (h0 : 0 ≤ x) (h1 : x < 4294967296) (a : Nat) : SS (byL (adj x (a : Int))) a = x ∧ (byL (adj x (a : Int))).length = 4 := by
  have e : rng 0 4 1 = [0, 1, 2, 3] := by decide
  unfold adj
  rw [e]
  simp only [List.map_cons, List.map_nil]
  have f : ∀ s : Nat, (3 - ((a : Int) + (s : Int)).fmod 4).toNat = 3 - (a + s) % 4 := fun s => by
    have := fmod4 (a + s)
    rwa [Int.natCast_add] at this
  have f0 := f 0
  have f1 := f 1
  have f2 := f 2
  have f3 := f 3
  rw [show ((0 : Nat) : Int) = 0 from rfl] at f0
  rw [show ((1 : Nat) : Int) = 1 from rfl] at f1
  rw [show ((2 : Nat) : Int) = 2 from rfl] at f2
  rw [show ((3 : Nat) : Int) = 3 from rfl] at f3
  rw [f0, f1, f2, f3]
  have e3 : (256 : Int) ^ 3 = 16777216 := by decide
  have e2 : (256 : Int) ^ 2 = 65536 := by decide
  have e1 : (256 : Int) ^ 1 = 256 := by decide
  have e0 : (256 : Int) ^ 0 = 1 := by decide
  have hb : ∀ p : Nat, 0 ≤ (x.fdiv (256 ^ p)).fmod 256 ∧ (x.fdiv (256 ^ p)).fmod 256 < 256 := fun p => ⟨Int.fmod_nonneg_of_pos _ (by omega), Int.fmod_lt_of_pos _ (by omega)⟩
  refine ⟨?_, by unfold byL; rfl⟩
  unfold byL
  simp only [List.map_cons, List.map_nil]
  rw [SS_cons, SS_cons, SS_cons, SS_cons, SS_nil]
  rw [u8 (hb _).1 (hb _).2, u8 (hb _).1 (hb _).2, u8 (hb _).1 (hb _).2, u8 (hb _).1 (hb _).2]
  have q : ∀ p : Nat, (x.fdiv (256 ^ p)).fmod 256 = x / 256 ^ p % 256 := fun p => by
    rw [Int.fdiv_eq_ediv_of_nonneg _ (Int.pow_nonneg (by omega)), Int.fmod_eq_emod_of_nonneg _ (by omega)]
  rw [q, q, q, q]
  have ha : a % 4 = 0 ∨ a % 4 = 1 ∨ a % 4 = 2 ∨ a % 4 = 3 := by omega
  rcases ha with h | h | h | h
  · have g0 : (a + 0) % 4 = 0 := by omega
    have g1 : (a + 1) % 4 = 1 := by omega
    have g2 : (a + 2) % 4 = 2 := by omega
    have g3 : (a + 3) % 4 = 3 := by omega
    have g2' : (a + 1 + 1) % 4 = 2 := by omega
    have g3' : (a + 1 + 1 + 1) % 4 = 3 := by omega
    simp only [g0, g1, g2, g3, g2', g3', h, Nat.sub_zero, Nat.reduceSub, e3, e2, e1, e0, Int.ediv_one]; omega
  · have g0 : (a + 0) % 4 = 1 := by omega
    have g1 : (a + 1) % 4 = 2 := by omega
    have g2 : (a + 2) % 4 = 3 := by omega
    have g3 : (a + 3) % 4 = 0 := by omega
    have g2' : (a + 1 + 1) % 4 = 3 := by omega
    have g3' : (a + 1 + 1 + 1) % 4 = 0 := by omega
    simp only [g0, g1, g2, g3, g2', g3', h, Nat.sub_zero, Nat.reduceSub, e3, e2, e1, e0, Int.ediv_one]; omega
  · have g0 : (a + 0) % 4 = 2 := by omega
    have g1 : (a + 1) % 4 = 3 := by omega
    have g2 : (a + 2) % 4 = 0 := by omega
    have g3 : (a + 3) % 4 = 1 := by omega
    have g2' : (a + 1 + 1) % 4 = 0 := by omega
    have g3' : (a + 1 + 1 + 1) % 4 = 1 := by omega
    simp only [g0, g1, g2, g3, g2', g3', h, Nat.sub_zero, Nat.reduceSub, e3, e2, e1, e0, Int.ediv_one]; omega
  · have g0 : (a + 0) % 4 = 3 := by omega
    have g1 : (a + 1) % 4 = 0 := by omega
    have g2 : (a + 2) % 4 = 1 := by omega
    have g3 : (a + 3) % 4 = 2 := by omega
    have g2' : (a + 1 + 1) % 4 = 1 := by omega
    have g3' : (a + 1 + 1 + 1) % 4 = 2 := by omega
    simp only [g0, g1, g2, g3, g2', g3', h, Nat.sub_zero, Nat.reduceSub, e3, e2, e1, e0, Int.ediv_one]; omega

end Mine

end
section
open PySem PySem.W PySem.Calls PyProof.Rows
set_option maxRecDepth 100000
set_option maxHeartbeats 4000000
namespace Mine
theorem patch_form {d : List UInt8} {a : Nat} (h : a + 4 ≤ d.length) (wh : Bool) :
    bare d (a : Int) = d.take a ++ List.replicate 4 0 ++ d.drop (a + 4) ∧ patch d (a : Int) wh = d.take a ++ byL (adj (lack (bare d (a : Int)) wh) (a : Int)) ++ d.drop (a + 4) := by
  have hb : bare d (a : Int) = d.take a ++ List.replicate 4 0 ++ d.drop (a + 4) := by
    unfold bare
    rw [cut_pre _ (by omega) (by omega), cut_post _ (by omega) (by omega)]
    rw [show ((a : Int)).toNat = a from rfl, show ((a : Int) + 4).toNat = a + 4 from rfl]
    rfl
  refine ⟨hb, ?_⟩
  have hT : (d.take a).length = a := by rw [List.length_take]; omega
  have hl : (bare d (a : Int)).length = d.length := by rw [hb]; simp only [List.length_append, List.length_replicate, List.length_take, List.length_drop]; omega
  unfold patch
  rw [cut_pre (bare d (a : Int)) (by omega) (by omega), cut_post (bare d (a : Int)) (by omega) (by omega)]
  rw [show ((a : Int)).toNat = a from rfl, show ((a : Int) + 4).toNat = a + 4 from rfl]
  have e1 : (bare d (a : Int)).take a = d.take a := by
    rw [hb, List.append_assoc, List.take_append_of_le_length (by omega), List.take_of_length_le (by omega)]
  have e2 : (bare d (a : Int)).drop (a + 4) = d.drop (a + 4) := by
    rw [hb]
    have : (d.take a ++ List.replicate 4 (0 : UInt8)).length = a + 4 := by rw [List.length_append, hT]; rfl
    rw [← this, List.drop_left]
  rw [e1, e2]
theorem patch_sum {d : List UInt8} {a : Nat} (h : a + 4 ≤ d.length) (wh : Bool) : lsum (patch d (a : Int) wh) = (2981146554 + (if wh then 0 else 1)) % 4294967296 := by
  obtain ⟨hb, hp⟩ := patch_form h wh
  have hT : (d.take a).length = a := by rw [List.length_take]; omega
  have hx0 : 0 ≤ lack (bare d (a : Int)) wh := Int.fmod_nonneg_of_pos _ (by decide)
  have hx1 : lack (bare d (a : Int)) wh < 4294967296 := Int.fmod_lt_of_pos _ (by decide)
  obtain ⟨s1, s2⟩ := adj_sum hx0 hx1 a
  have hbs : lsum (bare d (a : Int)) = (SS (d.take a) 0 + SS (d.drop (a + 4)) (a + 4)) % 4294967296 := by
    rw [lsum_eq, hb, SS_app, SS_app, SS_zero]
    simp only [List.length_append, hT, List.length_replicate, Nat.zero_add, Int.add_zero]
  have hlk : lack (bare d (a : Int)) wh = (2981146554 - lsum (bare d (a : Int)) + (if wh then 0 else 1)) % 4294967296 := by
    unfold lack
    rw [Int.fmod_eq_emod_of_nonneg _ (by decide)]; rfl
  rw [lsum_eq, hp, SS_app, SS_app]
  simp only [List.length_append, hT, s2, Nat.zero_add]
  rw [s1, hlk, hbs]
  omega
theorem patch_cut {α : Type} {T v w R : List α} (hvw : w.length = v.length) {lo hi : Int} (h0 : 0 ≤ lo) (h1 : lo ≤ hi) (h2 : hi ≤ ((T ++ v ++ R).length : Int)) (hc : hi ≤ (T.length : Int) ∨ (T.length : Int) + (v.length : Int) ≤ lo) :
    cut (T ++ w ++ R) (some lo) (some hi) = cut (T ++ v ++ R) (some lo) (some hi) := by
  have hl : (T ++ w ++ R).length = (T ++ v ++ R).length := by simp only [List.length_append, hvw]
  rw [cut_eq _ h0 h1 (by omega), cut_eq _ h0 h1 h2]
  rcases hc with hc | hc
  · have gen : ∀ Z : List α, ((T ++ Z).drop lo.toNat).take (hi - lo).toNat = (T.drop lo.toNat).take (hi - lo).toNat := fun Z => by
      rw [List.drop_append_of_le_length (by omega), List.take_append_of_le_length (by rw [List.length_drop]; omega)]
    rw [List.append_assoc, List.append_assoc, gen, gen]
  · have e1 : (T ++ w ++ R).drop lo.toNat = R.drop (lo.toNat - (T ++ w).length) := by
      rw [List.drop_append, List.drop_of_length_le (by simp only [List.length_append]; omega)]; rfl
    have e2 : (T ++ v ++ R).drop lo.toNat = R.drop (lo.toNat - (T ++ v).length) := by
      rw [List.drop_append, List.drop_of_length_le (by simp only [List.length_append]; omega)]; rfl
    rw [e1, e2]
    simp only [List.length_append, hvw]
theorem split4 {α : Type} (d : List α) {a : Nat} (h : a + 4 ≤ d.length) : d = d.take a ++ (d.drop a).take 4 ++ d.drop (a + 4) ∧ ((d.drop a).take 4).length = 4 := by
  refine ⟨?_, by rw [List.length_take, List.length_drop]; omega⟩
  have : (d.drop a).take 4 ++ d.drop (a + 4) = d.drop a := by
    rw [← List.drop_drop]; exact List.take_append_drop 4 (d.drop a)
  rw [List.append_assoc, this, List.take_append_drop]
structure Cx (k : Nat) (kv : KV) (pl : PL) (wrong : List Str) (nums : List Int) (d : List UInt8) : Prop where
  k1 : 1 ≤ k
  k4 : k ≤ 4
  ks : kv.ks = tagL.take k
  tabs : Tabs kv
  wr : ∀ t ∈ wrong, t ∈ kv.ks
  at' : ∀ t ∈ kv.ks, ∃ X Y, d = X ++ bod kv t ++ Y ∧ (X.length : Int) = pl.at t ∧ 12 + 16 * k ≤ X.length
  dis : ∀ t ∈ kv.ks, ∀ u ∈ kv.ks, t ≠ u → pl.at t + ((bod kv t).length : Int) ≤ pl.at u ∨ pl.at u + ((bod kv u).length : Int) ≤ pl.at t
  hd : ∃ rest, d = dir kv pl wrong (hdr k nums) ++ rest
  dl : (dir kv pl wrong (hdr k nums)).length = 12 + 16 * k
  len : d.length ≤ 400
theorem laid_cx {k : Nat} {kv : KV} {pl : PL} {oc tail : List UInt8} {wrong : List Str} {d : List UInt8} {searching : Bool} {j : Int} (L : Laid k kv pl oc tail wrong d searching j) (hdl : (dir kv pl wrong (hdr k (numsF k searching j))).length = 12 + 16 * k) (hpl : ∀ t ∈ kv.ks, (t, pl.at t) ∈ pl) : Cx k kv pl wrong (numsF k searching j) d := by
  obtain ⟨k1, k4, hks, tabs, ⟨tE, li⟩, tl, wr, j0, j3, hd⟩ := L
  have hoc := li.sz
  have hn := li.num
  simp only [List.length_nil, Nat.zero_add] at hoc hn
  have hkl : kv.length = k := by
    have : kv.ks.length = k := by rw [hks, List.length_take]; show min k 4 = k; omega
    simpa [KV.ks] using this
  refine ⟨k1, k4, hks, tabs, wr, fun t ht => ?_, fun t ht u hu htu => ?_, ⟨_, hd⟩, hdl, ?_⟩
  · obtain ⟨pre, post, e1, e2⟩ := li.at' _ (hpl t ht)
    simp only at e1 e2
    refine ⟨dir kv pl wrong (hdr k (numsF k searching j)) ++ pre, post ++ tail, ?_, ?_, ?_⟩
    · rw [hd, e1]; simp only [List.append_assoc]
    · rw [List.length_append, hdl]; omega
    · rw [List.length_append, hdl]; omega
  · obtain ⟨i, hi, ei⟩ := List.mem_iff_getElem.mp (hpl t ht)
    obtain ⟨m, hm, em⟩ := List.mem_iff_getElem.mp (hpl u hu)
    have hne : i ≠ m := by
      rintro rfl
      rw [ei] at em
      exact htu (congrArg Prod.fst em)
    have := List.pairwise_iff_getElem.mp li.ord
    rcases Nat.lt_or_gt_of_ne hne with q | q
    · have h := this i m hi hm q
      rw [ei, em] at h; exact .inl h
    · have h := this m i hm hi q
      rw [ei, em] at h; exact .inr h
  · rw [hd]; simp only [List.length_append, hdl]; omega
theorem bod_setB : ∀ (kv : KV) (b : List UInt8) (t : Str), (t ≠ "head" → bod (setB kv b) t = bod kv t) ∧ (("head" : Str) ∈ kv.ks → bod (setB kv b) "head" = b)
  | [], b, t => ⟨fun _ => rfl, fun h => by simp [KV.ks] at h⟩
  | p :: r, b, t => by
    obtain ⟨h1, h2⟩ := bod_setB r b t
    constructor
    · intro hne
      unfold bod setB
      by_cases e : p.1 = "head"
      · rw [if_pos e, List.lookup_cons, List.lookup_cons]
        have : (t == p.1) = false := beq_eq_false_iff_ne.mpr fun q => hne (q.trans e)
        rw [this]
      · rw [if_neg e, List.lookup_cons, List.lookup_cons]
        split
        · rfl
        · exact h1 hne
    · intro hm
      unfold bod setB
      by_cases e : p.1 = "head"
      · rw [if_pos e, List.lookup_cons, show (("head" : Str) == p.1) = true from beq_iff_eq.mpr e.symm]; rfl
      · rw [if_neg e, List.lookup_cons, show (("head" : Str) == p.1) = false from beq_eq_false_iff_ne.mpr fun q => e q.symm]
        refine h2 ?_
        simp only [KV.ks, List.map_cons, List.mem_cons] at hm
        exact hm.resolve_left fun q => e q.symm
structure Fx (k : Nat) (kv : KV) (pl : PL) (wrong : List Str) (nums : List Int) (D : List UInt8) (kw : KV) (wh : Bool) : Prop where
  hd : ∃ rest, D = dir kv pl wrong (hdr k nums) ++ rest
  len : D.length ≤ 400
  ks : kw.ks = kv.ks
  fin : ∀ t ∈ kv.ks, 12 + 16 * (k : Int) ≤ pl.at t ∧ pl.at t + ((bod kv t).length : Int) ≤ D.length
  bod : ∀ t ∈ kv.ks, Mine.bod kw t = cut D (some (pl.at t)) (some (pl.at t + ((Mine.bod kv t).length : Int))) ∧ (Mine.bod kw t).length = (Mine.bod kv t).length ∧ unadj t (Mine.bod kw t) = told1 t (Mine.bod kv t)
  whole : ("head" : Str) ∈ kv.ks → lsum D = (2981146554 + (if wh then 0 else 1)) % 4294967296
  head : ("head" : Str) ∈ kv.ks → 12 ≤ (Mine.bod kv "head").length

end Mine

end
section
open PySem PySem.W PySem.Calls PyProof.Rows
set_option maxRecDepth 100000
set_option maxHeartbeats 4000000
namespace Mine
theorem un_told {t : Str} (h : t ≠ "head") (x : List UInt8) : unadj t x = told1 t x := by
  unfold unadj told1 hasAdj
  rw [show (t == ("head" : Str)) = false from beq_eq_false_iff_ne.mpr h]
  rfl
theorem un_head {x b : List UInt8} (hx : 12 ≤ x.length) (hb : 12 ≤ b.length) (h1 : x.take 8 = b.take 8) (h2 : x.drop 12 = b.drop 12) : unadj "head" x = told1 "head" b := by
  unfold unadj told1 hasAdj
  rw [show (("head" : Str) == ("head" : Str)) = true from beq_iff_eq.mpr rfl, if_pos (by simp; omega), if_pos rfl]
  rw [cut_pre _ (by decide) (by omega), cut_post _ (by decide) (by omega), cut_pre _ (by decide) (by omega), cut_post _ (by decide) (by omega)]
  show x.take 8 ++ _ ++ x.drop 12 = b.take 8 ++ _ ++ b.drop 12
  rw [h1, h2]
theorem fx {k : Nat} {kv : KV} {pl : PL} {wrong : List Str} {nums : List Int} {d : List UInt8} (C : Cx k kv pl wrong nums d) (wh : Bool) (hh : hasHead kv = true ↔ ("head" : Str) ∈ kv.ks) :
    Fx k kv pl wrong nums (data2 kv pl d wh) (kv2 kv pl d wh) wh := by
  obtain ⟨k1, k4, hks, tabs, wr, hat, dis, ⟨rest, hd⟩, hdl, hlen⟩ := C
  have hhead : ("head" : Str) ∈ kv.ks → 12 ≤ (bod kv "head").length := by
    intro hm
    obtain ⟨p, hp, e⟩ := List.mem_map.mp hm
    have : bod kv "head" = (kv.lookup ("head" : Str)).getD [] := rfl
    have key : ∀ kv : KV, (∀ p ∈ kv, p.1 = ("head" : Str) → 12 ≤ p.2.length) → ("head" : Str) ∈ kv.ks → 12 ≤ (bod kv "head").length := by
      intro kv
      induction kv with
      | nil => intro _ h; simp [KV.ks] at h
      | cons q r ih =>
        intro h1 h2
        unfold bod
        by_cases e : ("head" : Str) = q.1
        · rw [List.lookup_cons, show (("head" : Str) == q.1) = true from beq_iff_eq.mpr e]
          exact h1 q (.head _) e.symm
        · rw [List.lookup_cons, show (("head" : Str) == q.1) = false from beq_eq_false_iff_ne.mpr e]
          simp only [KV.ks, List.map_cons, List.mem_cons] at h2
          exact ih (fun p hp => h1 p (.tail _ hp)) (h2.resolve_left e)
    exact key kv (fun p hp e => tabs.head p hp e) hm
  have hfin : ∀ t ∈ kv.ks, 12 + 16 * (k : Int) ≤ pl.at t ∧ pl.at t + ((bod kv t).length : Int) ≤ d.length := by
    intro t ht
    obtain ⟨X, Y, e1, e2, e3⟩ := hat t ht
    have := congrArg List.length e1
    simp only [List.length_append] at this
    omega
  have hcut : ∀ t ∈ kv.ks, cut d (some (pl.at t)) (some (pl.at t + ((bod kv t).length : Int))) = bod kv t := by
    intro t ht
    obtain ⟨X, Y, e1, e2, e3⟩ := hat t ht
    exact cut_mid e1 e2.symm rfl
  by_cases hq : hasHead kv = true
  · have hm := hh.mp hq
    obtain ⟨X, Y, e1, e2, e3⟩ := hat _ hm
    have h12 := hhead hm
    have hlen1 := congrArg List.length e1
    simp only [List.length_append] at hlen1
    have ha4 : (X.length + 8) + 4 ≤ d.length := by omega
    obtain ⟨hb, hp⟩ := patch_form ha4 wh
    have hsum := patch_sum ha4 wh
    obtain ⟨hsp, hv4⟩ := split4 d ha4
    have hx0 : 0 ≤ lack (bare d ((X.length + 8 : Nat) : Int)) wh := Int.fmod_nonneg_of_pos _ (by decide)
    have hx1 : lack (bare d ((X.length + 8 : Nat) : Int)) wh < 4294967296 := Int.fmod_lt_of_pos _ (by decide)
    have hw4 := (adj_sum hx0 hx1 (X.length + 8)).2
    have ea : pl.at "head" + 8 = ((X.length + 8 : Nat) : Int) := by omega
    have eD : data2 kv pl d wh = patch d ((X.length + 8 : Nat) : Int) wh := by unfold data2; rw [if_pos hq, ea]
    have ek : kv2 kv pl d wh = setB kv (cut (data2 kv pl d wh) (some (pl.at "head")) (some (pl.at "head" + ((bod kv "head").length : Int)))) := by unfold kv2; rw [if_pos hq, eD, ea]
    rw [ek]
    generalize hD : data2 kv pl d wh = D at eD
    have hsD : lsum D = (2981146554 + (if wh then 0 else 1)) % 4294967296 := by rw [eD]; exact hsum
    rw [hp] at eD
    generalize byL (adj (lack (bare d ((X.length + 8 : Nat) : Int)) wh) ((X.length + 8 : Nat) : Int)) = w at eD hw4
    have hT : (d.take (X.length + 8)).length = X.length + 8 := by rw [List.length_take]; omega
    have hDl : D.length = d.length := by
      rw [eD]; simp only [List.length_append, hT, hw4, List.length_drop]; omega
    have pc : ∀ {lo hi : Int}, 0 ≤ lo → lo ≤ hi → hi ≤ (d.length : Int) → (hi ≤ ((X.length + 8 : Nat) : Int) ∨ ((X.length + 8 : Nat) : Int) + 4 ≤ lo) → cut D (some lo) (some hi) = cut d (some lo) (some hi) := by
      intro lo hi h0 h1 h2 h3
      have := patch_cut (T := d.take (X.length + 8)) (v := (d.drop (X.length + 8)).take 4) (w := w) (R := d.drop (X.length + 8 + 4)) (by rw [hw4, hv4]) h0 h1 (by rw [← hsp]; exact h2) (by rw [hT, hv4]; exact h3)
      rwa [← eD, ← hsp] at this
    refine ⟨?_, by omega, setB_ks _ _, fun t ht => ?_, fun t ht => ?_, fun _ => hsD, hhead⟩
    · refine ⟨(rest.take (X.length + 8 - (12 + 16 * k))) ++ w ++ d.drop (X.length + 8 + 4), ?_⟩
      rw [eD]
      have : d.take (X.length + 8) = dir kv pl wrong (hdr k nums) ++ rest.take (X.length + 8 - (12 + 16 * k)) := by
        conv => lhs; rw [hd]
        rw [List.take_append, hdl, List.take_of_length_le (by omega)]
      rw [this]
      simp only [List.append_assoc]
    · have := hfin t ht
      exact ⟨this.1, by rw [hDl]; exact this.2⟩
    · by_cases hne : t = "head"
      · subst hne
        have eb := (bod_setB kv (cut D (some (pl.at "head")) (some (pl.at "head" + ((bod kv "head").length : Int)))) "head").2 hm
        have hf := hfin _ hm
        have hcl : (cut D (some (pl.at "head")) (some (pl.at "head" + ((bod kv "head").length : Int)))).length = (bod kv "head").length := by
          rw [cut_len _ (by omega) (by omega) (by omega)]; omega
        rw [eb]
        refine ⟨rfl, hcl, ?_⟩
        have hbd : bod kv "head" = (d.drop (pl.at "head").toNat).take (pl.at "head" + ((bod kv "head").length : Int) - pl.at "head").toNat := (hcut _ hm).symm.trans (cut_eq d (by omega) (by omega) (by omega))
        refine un_head (by omega) h12 ?_ ?_
        · have q := pc (lo := pl.at "head") (hi := pl.at "head" + 8) (by omega) (by omega) (by omega) (.inl (by omega))
          rw [cut_eq _ (by omega) (by omega) (by omega), cut_eq _ (by omega) (by omega) (by omega)] at q
          refine Eq.trans ?_ (congrArg (List.take 8) hbd.symm)
          rw [cut_eq D (by omega) (by omega) (by omega), List.take_take, List.take_take]
          rw [show min 8 (pl.at "head" + ((bod kv "head").length : Int) - pl.at "head").toNat = (pl.at "head" + 8 - pl.at "head").toNat from by omega]
          exact q
        · have q := pc (lo := pl.at "head" + 12) (hi := pl.at "head" + ((bod kv "head").length : Int)) (by omega) (by omega) (by omega) (.inr (by omega))
          rw [cut_eq _ (by omega) (by omega) (by omega), cut_eq _ (by omega) (by omega) (by omega)] at q
          refine Eq.trans ?_ (congrArg (List.drop 12) hbd.symm)
          rw [cut_eq D (by omega) (by omega) (by omega), List.drop_take, List.drop_take, List.drop_drop, List.drop_drop]
          rw [show (pl.at "head").toNat + 12 = (pl.at "head" + 12).toNat from by omega]
          rw [show (pl.at "head" + ((bod kv "head").length : Int) - pl.at "head").toNat - 12 = (pl.at "head" + ((bod kv "head").length : Int) - (pl.at "head" + 12)).toNat from by omega]
          exact q
      · have eb := (bod_setB kv (cut D (some (pl.at "head")) (some (pl.at "head" + ((bod kv "head").length : Int)))) t).1 hne
        have hf := hfin t ht
        rw [eb]
        refine ⟨?_, rfl, un_told hne _⟩
        rw [pc (by omega) (by omega) hf.2 (by rcases dis t ht _ hm hne with q | q <;> omega)]
        exact (hcut t ht).symm
  · have eD : data2 kv pl d wh = d := by unfold data2; rw [if_neg hq]
    have ek : kv2 kv pl d wh = kv := by unfold kv2; rw [if_neg hq]
    have hm : ("head" : Str) ∉ kv.ks := fun h => hq (hh.mpr h)
    rw [eD, ek]
    refine ⟨⟨rest, hd⟩, hlen, rfl, hfin, fun t ht => ⟨(hcut t ht).symm, rfl, un_told (fun e => hm (e ▸ ht)) _⟩, fun h => absurd h hm, hhead⟩

end Mine

end
section
open PySem PySem.W PySem.Calls PyProof.Rows
set_option maxRecDepth 100000
set_option maxHeartbeats 4000000
namespace Mine
theorem dir_pre (kv : KV) (pl : PL) (wrong : List Str) : ∀ (l : List Str) (h : List UInt8), ∃ y, l.foldl (fun d tag => d ++ enc tag ++ recB kv pl wrong tag) h = h ++ y
  | [], h => ⟨[], by simp⟩
  | t :: l, h => by
    obtain ⟨y, e⟩ := dir_pre kv pl wrong l (h ++ enc t ++ recB kv pl wrong t)
    exact ⟨enc t ++ recB kv pl wrong t ++ y, by rw [List.foldl_cons, e]; simp only [List.append_assoc]⟩
theorem hdr_len (k : Nat) (nums : List Int) : (hdr k nums).length = 12 := by
  unfold hdr
  simp only [List.length_append, oct_len (show (0 : Int) ≤ 2 by omega), oct_len (show (0 : Int) ≤ 4 by omega)]
  rfl
structure Rx (kv : KV) (pl : PL) (wrong : List Str) (rs : List Rc) : Prop where
  tags : rs.map (·.tag) = kv.ks
  each : ∀ r ∈ rs, r.begin' = pl.at r.tag ∧ r.len = ((bod kv r.tag).length : Int) ∧ r.total = tot kv wrong r.tag % 4294967296
theorem tot_nonneg (kv : KV) (wrong : List Str) (t : Str) : 0 ≤ tot kv wrong t := by
  unfold tot
  have : 0 ≤ lsum (told1 t (bod kv t)) := by rw [lsum_eq]; omega
  split <;> omega
theorem rx {k : Nat} {kv : KV} {pl : PL} {wrong : List Str} {nums : List Int} {D : List UInt8} {kw : KV} {wh : Bool} (F : Fx k kv pl wrong nums D kw wh) (k1 : 1 ≤ k) (k4 : k ≤ 4) (hks : kv.ks = tagL.take k) : Rx kv pl wrong (recs D k) := by
  have hkl : kv.ks.length = k := by rw [hks, List.length_take]; show min k 4 = k; omega
  have hin : ∀ x ∈ kv.ks, x ∈ tagL := fun x hx => by rw [hks] at hx; exact List.mem_of_mem_take hx
  obtain ⟨rest, hd⟩ := F.hd
  have key : ∀ i (hi : i < kv.ks.length), rcOf D (12 + 16 * (i : Int)) = mkR kv pl wrong kv.ks[i] (12 + 16 * (i : Int)) := by
    intro i hi
    obtain ⟨x, y, e1, e2⟩ := dir_split kv pl wrong kv.ks (hdr k nums) rest i hi hin
    rw [hdr_len] at e2
    have hm : kv.ks[i] ∈ kv.ks := List.getElem_mem hi
    have hf := F.fin _ hm
    have hl := F.len
    have ht := tot_nonneg kv wrong kv.ks[i]
    rw [rc_of (d := D) (x := x) (z := y) (t := kv.ks[i]) (by rw [hd]; exact e1) (by rw [e2]; omega) (hin _ hm) ht (by omega) (by omega)]
    unfold mkR
    rw [show pl.at kv.ks[i] % 4294967296 = pl.at kv.ks[i] from Int.emod_eq_of_lt (by omega) (by omega), show ((bod kv kv.ks[i]).length : Int) % 4294967296 = ((bod kv kv.ks[i]).length : Int) from Int.emod_eq_of_lt (by omega) (by omega)]
  have er : recs D k = (List.range k).map fun (i : Nat) => rcOf D (12 + 16 * (i : Int)) := by
    unfold recs
    rw [wheres_eq k1 k4, List.map_map]; rfl
  constructor
  · rw [er, List.map_map]
    apply List.ext_getElem
    · rw [List.length_map, List.length_range, hkl]
    · intro i h1 h2
      rw [List.getElem_map, List.getElem_range]
      show (rcOf D (12 + 16 * (i : Int))).tag = _
      rw [key i h2]; rfl
  · intro r hr
    rw [er] at hr
    obtain ⟨i, hi, rfl⟩ := List.mem_map.mp hr
    rw [List.mem_range] at hi
    rw [key i (by omega)]
    exact ⟨rfl, rfl, rfl⟩
theorem ordered_of : ∀ {rs : List Rc}, (rs.map (·.tag)).Pairwise lt → ordered rs
  | [], _ => trivial
  | [a], _ => trivial
  | a :: b :: r, h => by
    rw [List.map_cons, List.map_cons] at h
    exact ⟨List.rel_of_pairwise_cons h (.head _), ordered_of (List.Pairwise.of_cons h)⟩
theorem nums_ok {k : Nat} (k1 : 1 ≤ k) (k4 : k ≤ 4) (s : Bool) {j : Int} (j0 : 0 ≤ j) (j3 : j < 3) : 0 ≤ (numsF k s j).getD 0 0 ∧ 0 ≤ (numsF k s j).getD 1 0 ∧ 0 ≤ (numsF k s j).getD 2 0 ∧
    (!PyData.eqv (.tuple [.int ((numsF k s j).getD 0 0 % 65536), .int ((numsF k s j).getD 1 0 % 65536), .int ((numsF k s j).getD 2 0 % 65536)]) (.tuple ((search (k : Int)).map .int))) = !s := by
  have hk : k = 1 ∨ k = 2 ∨ k = 3 ∨ k = 4 := by omega
  have hj : j = 0 ∨ j = 1 ∨ j = 2 := by omega
  rcases hk with rfl | rfl | rfl | rfl <;> rcases hj with rfl | rfl | rfl <;> cases s <;> decide +kernel
theorem good {k : Nat} {kv : KV} {pl : PL} {wrong : List Str} {D : List UInt8} {kw : KV} {wh s : Bool} {j : Int} (F : Fx k kv pl wrong (numsF k s j) D kw wh) (C : Cx k kv pl wrong (numsF k s j) d) (j0 : 0 ≤ j) (j3 : j < 3) :
    Good D k ∧ heads D k = (if s then [] else [(("" : Str), ("searching" : Str))]) := by
  have k1 := C.k1
  have k4 := C.k4
  have R := rx F k1 k4 C.ks
  obtain ⟨n0, n1, n2, n3⟩ := nums_ok k1 k4 s j0 j3
  obtain ⟨rest, hd⟩ := F.hd
  obtain ⟨y, ey⟩ := dir_pre kv pl wrong kv.ks (hdr k (numsF k s j))
  have eD : D = hdr k (numsF k s j) ++ (y ++ rest) := by rw [hd]; unfold dir; rw [ey]; simp only [List.append_assoc]
  have hDl : 12 + 16 * k ≤ D.length := by rw [hd, List.length_append, C.dl]; omega
  unfold hdr at eD
  have l4 : (oct 65536 4).length = 4 := oct_len (by omega)
  have l2 : ∀ x, (oct x 2).length = 2 := fun x => oct_len (by omega)
  have hpw : kv.ks.Pairwise lt := by rw [C.ks]; exact (show tagL.Pairwise lt by decide +kernel).sublist (List.take_sublist _ _)
  have htag : ∀ r ∈ recs D k, r.tag ∈ kv.ks := fun r hr => by rw [← R.tags]; exact List.mem_map_of_mem hr
  have hrf : ∀ r ∈ recs D k, r.fin = pl.at r.tag + ((bod kv r.tag).length : Int) := fun r hr => by unfold Rc.fin; rw [(R.each r hr).1, (R.each r hr).2.1]
  have hnd : (recs D k).Pairwise fun a b => a.tag ≠ b.tag := by
    have : ((recs D k).map (·.tag)).Nodup := by rw [R.tags, C.ks]; exact (show tagL.Nodup by decide).sublist (List.take_sublist _ _)
    unfold List.Nodup at this
    rwa [List.pairwise_map] at this
  constructor
  · refine ⟨by omega, by omega, by have := F.len; omega, by omega, ?_, ?_, ordered_of (by rw [R.tags]; exact hpw), fun r hr => ?_, fun r hr => ?_, fun r hr => ?_, ?_⟩
    · exact (rd4 (d := D) (at' := 0) (x := []) (n := 65536) (z := oct (k : Int) 2 ++ (oct ((numsF k s j).getD 0 0) 2 ++ (oct ((numsF k s j).getD 1 0) 2 ++ (oct ((numsF k s j).getD 2 0) 2 ++ (y ++ rest))))) (by rw [eD]; simp only [List.nil_append, List.append_assoc]) rfl (by omega)).trans (by decide)
    · rw [rd2 (d := D) (at' := 4) (x := oct 65536 4) (n := (k : Int)) (z := oct ((numsF k s j).getD 0 0) 2 ++ (oct ((numsF k s j).getD 1 0) 2 ++ (oct ((numsF k s j).getD 2 0) 2 ++ (y ++ rest)))) (by rw [eD]; simp only [List.append_assoc]) (by rw [l4]; rfl) (by omega)]
      omega
    · rw [hrf r hr]; exact (F.fin _ (htag r hr)).2
    · rw [(R.each r hr).1]; have := (F.fin _ (htag r hr)).1; omega
    · rw [(R.each r hr).2.1]; omega
    · unfold spans
      rw [List.pairwise_append]
      refine ⟨?_, List.pairwise_singleton _ _, fun a ha b hb => ?_⟩
      · rw [List.pairwise_map]
        refine List.Pairwise.filter _ ?_
        refine List.Pairwise.imp_of_mem (fun {a b} ha hb hne => ?_) hnd
        show a.fin ≤ b.begin' ∨ b.fin ≤ a.begin'
        rw [hrf a ha, hrf b hb, (R.each a ha).1, (R.each b hb).1]
        exact C.dis _ (htag a ha) _ (htag b hb) hne
      · rw [List.mem_singleton] at hb; subst hb
        obtain ⟨r, hr, rfl⟩ := List.mem_map.mp ha
        have hr' := (List.mem_filter.mp hr).1
        refine .inr ?_
        show 0 + (12 + 16 * (k : Int)) ≤ r.begin'
        rw [(R.each r hr').1]; have := (F.fin _ (htag r hr')).1; omega
  · unfold heads
    rw [rd2 (d := D) (at' := 6) (x := oct 65536 4 ++ oct (k : Int) 2) (n := (numsF k s j).getD 0 0) (z := oct ((numsF k s j).getD 1 0) 2 ++ (oct ((numsF k s j).getD 2 0) 2 ++ (y ++ rest))) (by rw [eD]; simp only [List.append_assoc]) (by rw [List.length_append, l4, l2]; rfl) n0,
      rd2 (d := D) (at' := 6 + 2) (x := oct 65536 4 ++ oct (k : Int) 2 ++ oct ((numsF k s j).getD 0 0) 2) (n := (numsF k s j).getD 1 0) (z := oct ((numsF k s j).getD 2 0) 2 ++ (y ++ rest)) (by rw [eD]; simp only [List.append_assoc]) (by simp only [List.length_append, l4, l2]; rfl) n1,
      rd2 (d := D) (at' := 6 + 2 + 2) (x := oct 65536 4 ++ oct (k : Int) 2 ++ oct ((numsF k s j).getD 0 0) 2 ++ oct ((numsF k s j).getD 1 0) 2) (n := (numsF k s j).getD 2 0) (z := y ++ rest) (by rw [eD]; simp only [List.append_assoc]) (by simp only [List.length_append, l4, l2]; rfl) n2, n3]
    cases s <;> rfl

end Mine

end
section
open PySem PySem.W PySem.Calls PyProof.Rows
set_option maxRecDepth 100000
set_option maxHeartbeats 4000000
namespace Mine
theorem lmin_swap (x y : Int) (L : List Int) : lmin ([x, y] ++ L) = lmin ([y, x] ++ L) := by
  obtain ⟨a1, a2⟩ := lmin_ok ([x, y] ++ L) (by simp)
  obtain ⟨b1, b2⟩ := lmin_ok ([y, x] ++ L) (by simp)
  have m1 : lmin ([x, y] ++ L) ∈ [y, x] ++ L := by
    simp only [List.cons_append, List.nil_append, List.mem_cons] at a1 ⊢
    rcases a1 with h | h | h
    · exact .inr (.inl h)
    · exact .inl h
    · exact .inr (.inr h)
  have m2 : lmin ([y, x] ++ L) ∈ [x, y] ++ L := by
    simp only [List.cons_append, List.nil_append, List.mem_cons] at b1 ⊢
    rcases b1 with h | h | h
    · exact .inr (.inl h)
    · exact .inl h
    · exact .inr (.inr h)
  have := b2 _ m1
  have := a2 _ m2
  omega
theorem any_rep : ∀ (l : List UInt8), (l != List.replicate l.length 0) = l.any fun c => (c.toNat : Int) != 0
  | [] => by decide
  | c :: l => by
    have ih := any_rep l
    rw [List.length_cons, List.replicate_succ, List.any_cons, ← ih]
    by_cases h : c = 0
    · subst h
      rw [Bool.eq_iff_iff]
      simp
    · have h1 : ((c.toNat : Int) != 0) = true := by
        rw [bne_iff_ne]
        intro q
        apply h
        apply UInt8.toNat_inj.mp
        show c.toNat = 0
        omega
      rw [h1, Bool.true_or]
      rw [bne_iff_ne]
      intro q
      exact h (List.cons.inj q).1
theorem empty_any {α : Type} (p : α → Bool) : ∀ l : List α, (!(l.filter p).isEmpty) = l.any p
  | [] => rfl
  | a :: l => by
    rw [List.filter_cons, List.any_cons]
    by_cases h : p a = true
    · rw [if_pos h, h]; rfl
    · rw [if_neg h, empty_any p l]
      rw [Bool.not_eq_true] at h
      rw [h]; rfl
theorem nz {D : List UInt8} {e m : Int} (h0 : 0 ≤ e) (h1 : e ≤ m) (h2 : m ≤ D.length) : (cut D (some e) (some m) != zer (cut D (some e) (some m))) = !((rng e m 1).filter fun a => ((D.getD a.toNat 0).toNat : Int) != 0).isEmpty := by
  have hz : zer (cut D (some e) (some m)) = List.replicate (cut D (some e) (some m)).length 0 := rfl
  have hl := cut_len D h0 h1 h2
  rw [hz, any_rep, empty_any, Bool.eq_iff_iff, List.any_eq_true, List.any_eq_true]
  have hc := cut_eq D h0 h1 h2
  constructor
  · rintro ⟨c, hm, hp⟩
    obtain ⟨i, hi, rfl⟩ := List.mem_iff_getElem.mp hm
    rw [hl] at hi
    refine ⟨e + i, ?_, ?_⟩
    · unfold rng
      refine List.mem_map.mpr ⟨i, ?_, by omega⟩
      rw [List.mem_range]
      unfold Builtin.Range.rangeSize
      simp only [show (1 : Int) > 0 from by omega, if_true, Int.ediv_one]
      split <;> omega
    · have : D.getD (e + (i : Int)).toNat 0 = (cut D (some e) (some m))[i] := by
        have h3 : (cut D (some e) (some m))[i]? = D[e.toNat + i]? := by
          rw [hc, List.getElem?_take, if_pos (by omega), List.getElem?_drop]
        rw [List.getElem?_eq_getElem (by omega)] at h3
        rw [List.getD_eq_getElem?_getD, show (e + (i : Int)).toNat = e.toNat + i by omega, ← h3]; rfl
      rw [this]; exact hp
  · rintro ⟨a, ha, hp⟩
    have hb := rng1_mem ha
    have hi : (a - e).toNat < (cut D (some e) (some m)).length := by omega
    refine ⟨(cut D (some e) (some m))[(a - e).toNat], List.getElem_mem _, ?_⟩
    have : D.getD a.toNat 0 = (cut D (some e) (some m))[(a - e).toNat] := by
      have h3 : (cut D (some e) (some m))[(a - e).toNat]? = D[e.toNat + (a - e).toNat]? := by
        rw [hc, List.getElem?_take, if_pos (by omega), List.getElem?_drop]
      rw [List.getElem?_eq_getElem hi] at h3
      rw [List.getD_eq_getElem?_getD, show a.toNat = e.toNat + (a - e).toNat by omega, ← h3]; rfl
    rw [← this]; exact hp
theorem filt_tags {P : Str → Bool} {Q : Rc → Bool} {f : Str → Int} {g : Rc → Int} : ∀ (rs : List Rc), (∀ r ∈ rs, Q r = P r.tag ∧ g r = f r.tag) → (rs.filter Q).map g = ((rs.map (·.tag)).filter P).map f
  | [], _ => rfl
  | r :: rs, h => by
    obtain ⟨h1, h2⟩ := h r (.head _)
    have ih := filt_tags (P := P) (Q := Q) (f := f) (g := g) rs fun x hx => h x (.tail _ hx)
    rw [List.filter_cons, List.map_cons, List.filter_cons, h1]
    split
    · rw [List.map_cons, List.map_cons, ih, h2]
    · exact ih
section
variable {k : Nat} {kv : KV} {pl : PL} {wrong : List Str} {nums : List Int} {D : List UInt8} {kw : KV} {wh : Bool}
theorem words_eq (F : Fx k kv pl wrong nums D kw wh) {rs : List Rc} (R : Rx kv pl wrong rs) {r : Rc} (hr : r ∈ rs) : words D rs r = lWords D kw pl wrong r.tag := by
  have htag : ∀ r ∈ rs, r.tag ∈ kv.ks := fun r hr => by rw [← R.tags]; exact List.mem_map_of_mem hr
  have ht := htag r hr
  obtain ⟨e1, e2, e3⟩ := R.each r hr
  obtain ⟨b1, b2, b3⟩ := F.bod _ ht
  have hf := F.fin _ ht
  have hfin : r.fin = pl.at r.tag + ((bod kv r.tag).length : Int) := by unfold Rc.fin; rw [e1, e2]
  have hE : lEnd kw pl r.tag = r.fin := by unfold lEnd; rw [b2, hfin]
  have hL : (rs.filter fun o => decide (o.len > 0) && decide (o.begin' ≥ r.fin)).map (·.begin') = lLater kw pl r.tag := by
    unfold lLater
    rw [F.ks, ← R.tags]
    refine filt_tags rs fun o ho => ?_
    obtain ⟨o1, o2, _⟩ := R.each o ho
    obtain ⟨_, ob2, _⟩ := F.bod _ (htag o ho)
    refine ⟨?_, o1⟩
    rw [o1, o2, hE, ← ob2]
    congr 1
    cases hq : bod kw o.tag with
    | nil => rfl
    | cons _ _ => rw [Bool.eq_iff_iff]; first | (simp; done) | (simp; omega)
  have hM : fill rs r D.length = lMin D kw pl r.tag := by
    have hx : r.fin + (-r.fin).fmod 4 = (r.fin + 3).fdiv 4 * 4 := by
      rw [Int.fmod_eq_emod_of_nonneg _ (by omega), Int.fdiv_eq_ediv_of_nonneg _ (by omega)]
      omega
    unfold fill lMin
    rw [hL, hE, hx, lmin_swap]
  have hm : r.fin ≤ lMin D kw pl r.tag ∧ lMin D kw pl r.tag ≤ D.length := by
    obtain ⟨m1, m2⟩ := lmin_ok ([(D.length : Int), (lEnd kw pl r.tag + 3).fdiv 4 * 4] ++ lLater kw pl r.tag) (by simp)
    refine ⟨?_, m2 _ (by simp)⟩
    rcases List.mem_append.mp m1 with h | h
    · simp only [List.mem_cons, List.not_mem_nil, or_false] at h
      unfold lMin
      rcases h with h | h
      · rw [h]; omega
      · rw [h, hE, Int.fdiv_eq_ediv_of_nonneg _ (by omega)]; omega
    · unfold lLater at h
      obtain ⟨o, ho, e⟩ := List.mem_map.mp h
      have := (List.mem_filter.mp ho).2
      rw [Bool.and_eq_true, decide_eq_true_eq, hE] at this
      have e' : pl.at o = lMin D kw pl r.tag := e
      omega
  have hsum : (tsum r.tag (body D r) != r.total) = wrong.any fun y => y == r.tag := by
    have hb : body D r = bod kw r.tag := by unfold body; rw [hfin, e1, ← b1]
    unfold tsum
    rw [hb, b3, ck_eq, e3]
    unfold tot
    have h0 : 0 ≤ lsum (told1 r.tag (bod kv r.tag)) ∧ lsum (told1 r.tag (bod kv r.tag)) < 4294967296 := by rw [lsum_eq]; omega
    cases hq : wrong.any fun y => y == r.tag with
    | true => rw [if_pos rfl, bne_iff_ne]; omega
    | false => rw [if_neg (by simp)]; rw [Bool.eq_false_iff]; intro h; rw [bne_iff_ne] at h; omega
  unfold words lWords behind lBehind
  rw [hM, hsum, e1, nz (by omega) hm.1 hm.2, hE]
theorem look_tags (f : Str → List UInt8) (t : Str) : ∀ (rs : List Rc), (rs.map fun r => (r.tag, f r.tag)).lookup t = if t ∈ rs.map (·.tag) then some (f t) else none
  | [] => rfl
  | r :: rs => by
    rw [List.map_cons, List.lookup_cons, look_tags f t rs]
    by_cases h : t = r.tag
    · subst h; simp
    · rw [show (t == r.tag) = false from beq_eq_false_iff_ne.mpr h]
      simp only [List.map_cons, List.mem_cons, h, false_or]
theorem adj_eq (F : Fx k kv pl wrong nums D kw wh) (R : Rx kv pl wrong (recs D k)) (hw : ("head" : Str) ∉ kv.ks → wh = true) : isAdj D k = wh := by
  have htag : ∀ r ∈ recs D k, r.tag ∈ kv.ks := fun r hr => by rw [← R.tags]; exact List.mem_map_of_mem hr
  have e : (recs D k).map (fun r => (r.tag, body D r)) = (recs D k).map fun r => (r.tag, bod kw r.tag) := by
    refine List.map_congr_left fun r hr => ?_
    obtain ⟨e1, e2, _⟩ := R.each r hr
    have hb : body D r = bod kw r.tag := by unfold body Rc.fin; rw [e1, e2, ← (F.bod _ (htag r hr)).1]
    rw [hb]
  unfold isAdj headOf
  rw [e, look_tags, R.tags]
  by_cases hm : ("head" : Str) ∈ kv.ks
  · rw [if_pos hm]
    have h12 := F.head hm
    have hl := (F.bod _ hm).2.1
    have : hasAdj "head" ((some (bod kw "head")).getD []) = true := by
      unfold hasAdj
      rw [show (("head" : Str) == ("head" : Str)) = true from beq_iff_eq.mpr rfl, Bool.true_and, decide_eq_true_eq]
      show ((bod kw "head").length : Int) ≥ 8 + 4
      omega
    rw [this, ck_eq, F.whole hm]
    cases wh <;> decide
  · rw [if_neg hm, hw hm]
    have : hasAdj "head" ((none : Option (List UInt8)).getD []) = false := by decide +kernel
    rw [this]; rfl
end
theorem plain {k : Nat} {kv : KV} {pl : PL} {oc tail : List UInt8} {wrong : List Str} {d : List UInt8} {searching : Bool} {j : Int} (L : Laid k kv pl oc tail wrong d searching j) (wh : Bool) (hw : hasHead kv = false → wh = true) :
    Good (data2 kv pl d wh) k ∧ faults (data2 kv pl d wh) k = dueOf kv pl wrong (data2 kv pl d wh) (kv2 kv pl d wh) searching wh ∧ ∀ t ∈ kv.ks, (bod (kv2 kv pl d wh) t).length = (bod kv t).length := by
  have hin : ∀ x ∈ kv.ks, x ∈ tagL := fun x hx => by rw [L.ks] at hx; exact List.mem_of_mem_take hx
  have hkl : kv.ks.length = k := by have := L.k4; rw [L.ks, List.length_take]; show min k 4 = k; omega
  have hplm : ∀ t ∈ kv.ks, (t, PL.at pl t) ∈ pl := fun t ht => by
    obtain ⟨tE, li⟩ := L.li
    exact pl_at_mem (((li.all t).mp ht).resolve_left (by simp))
  have C := laid_cx L (by unfold dir; rw [dir_len _ _ _ _ _ hin, hkl, hdr_len]) hplm
  have F := fx C wh hasHead_mem
  obtain ⟨G, H⟩ := good F C L.j0 L.j3
  have R := rx F C.k1 C.k4 C.ks
  refine ⟨G, ?_, fun t ht => (F.bod t ht).2.1⟩
  unfold faults dueOf
  have hA := adj_eq F R fun h => hw (by rw [Bool.eq_false_iff]; exact fun q => h (hasHead_mem.mp q))
  rw [H, hA]
  congr 1
  · rw [← R.tags, List.foldl_map]
    have gen : ∀ (l : List Rc) (s : List (Str × Str)), (∀ r ∈ l, r ∈ recs (data2 kv pl d wh) k) → l.foldl (fun s r => s ++ told (data2 kv pl d wh) (recs (data2 kv pl d wh) k) r) s = l.foldl (fun s r => s ++ (lWords (data2 kv pl d wh) (kv2 kv pl d wh) pl wrong r.tag).map fun w => (r.tag, w)) s := by
      intro l
      induction l with
      | nil => intro s _; rfl
      | cons r l ih =>
        intro s h
        rw [List.foldl_cons, List.foldl_cons]
        have : told (data2 kv pl d wh) (recs (data2 kv pl d wh) k) r = (lWords (data2 kv pl d wh) (kv2 kv pl d wh) pl wrong r.tag).map fun w => (r.tag, w) := by
          unfold told; rw [words_eq F R (h r (.head _))]
        rw [this]
        exact ih _ fun x hx => h x (.tail _ hx)
    exact gen _ _ fun r hr => hr
  · cases wh <;> rfl

end Mine

end
section
open PySem PySem.W PySem.Calls PyProof.Rows
set_option maxRecDepth 100000
set_option maxHeartbeats 4000000
namespace Mine
noncomputable def pyP (p : Str × Str) : PyData := .tuple [.str p.1, .str p.2]
theorem toD_pairs (l : List (Str × Str)) : toD (.list (l.map pyP)) = .list (l.map pr) := by
  simp only [toD, toDs_map, List.map_map]
  congr 1
theorem lay_pairs : ∀ {l : List (Str × Str)}, (∀ p ∈ l, PyData.strOk p.1 = true ∧ PyData.strOk p.2 = true) → PyData.canLayAll0 (l.map pyP) = true
  | [], _ => by simp [PyData.canLayAll0]
  | a :: l, h => by
    have h1 := h a (.head _)
    simp only [List.map_cons, PyData.canLayAll0, Bool.and_eq_true, pyP, PyData.canLay0, h1.1, h1.2, true_and, and_true]
    exact lay_pairs fun t ht => h t (.tail _ ht)
theorem depth_pairs : ∀ (l : List (Str × Str)), PyData.depthAll (l.map pyP) ≤ 5
  | [] => by simp [PyData.depthAll]
  | a :: l => by have := depth_pairs l; simp only [List.map_cons, PyData.depthAll, pyP, PyData.depth]; omega
theorem lWords_ok {data : List UInt8} {kv : KV} {pl : PL} {wrong : List Str} {tag : Str} : (∀ w ∈ lWords data kv pl wrong tag, PyData.strOk w = true) ∧ (lWords data kv pl wrong tag).length ≤ 3 := by
  unfold lWords
  constructor
  · intro w hw
    simp only [List.mem_append] at hw
    rcases hw with (hw | hw) | hw <;> (split at hw <;> simp at hw <;> subst hw <;> decide +kernel)
  · simp only [List.length_append]
    split <;> split <;> split <;> simp
theorem due_fold {data : List UInt8} {kv : KV} {pl : PL} {wrong : List Str} : ∀ (l : List Str) (s : List (Str × Str)), (∀ t ∈ l, t ∈ tagL) → (∀ p ∈ s, PyData.strOk p.1 = true ∧ PyData.strOk p.2 = true) →
    (∀ p ∈ l.foldl (fun s tag => s ++ (lWords data kv pl wrong tag).map fun w => (tag, w)) s, PyData.strOk p.1 = true ∧ PyData.strOk p.2 = true) ∧ (l.foldl (fun s tag => s ++ (lWords data kv pl wrong tag).map fun w => (tag, w)) s).length ≤ s.length + 3 * l.length
  | [], s, _, h => ⟨h, by simp⟩
  | t :: l, s, ht, h => by
    have hw := lWords_ok (data := data) (kv := kv) (pl := pl) (wrong := wrong) (tag := t)
    obtain ⟨a, b⟩ := due_fold (data := data) (kv := kv) (pl := pl) (wrong := wrong) l (s ++ (lWords data kv pl wrong t).map fun w => (t, w)) (fun x hx => ht x (.tail _ hx)) (fun p hp => by
      rcases List.mem_append.mp hp with hp | hp
      · exact h p hp
      · obtain ⟨w, hw', rfl⟩ := List.mem_map.mp hp
        exact ⟨strOk_tag (ht t (.head _)), hw.1 w hw'⟩)
    refine ⟨a, ?_⟩
    rw [List.foldl_cons]
    rw [List.length_append, List.length_map] at b
    rw [List.length_cons]
    omega
theorem setB_vs : ∀ (kv : KV) (b : List UInt8), ("head" : Str) ∈ kv.ks → put kv.ks kv.vs ("head" : Str) (.bytes b) = KV.vs (setB kv b) ∧ putK kv.ks ("head" : Str) = kv.ks
  | [], _, h => by simp [KV.ks] at h
  | p :: r, b, h => by
    show put (p.1 :: KV.ks r) (.bytes p.2 :: KV.vs r) _ _ = _ ∧ putK (p.1 :: KV.ks r) _ = p.1 :: KV.ks r
    unfold put putK setB
    by_cases e : p.1 = ("head" : Str)
    · rw [if_pos e, if_pos e, if_pos e]; exact ⟨rfl, rfl⟩
    · rw [if_neg e, if_neg e, if_neg e]
      obtain ⟨h1, h2⟩ := setB_vs r b (by
        simp only [KV.ks, List.map_cons, List.mem_cons] at h
        exact h.resolve_left fun q => e q.symm)
      exact ⟨by rw [h1]; rfl, by rw [h2]⟩
section
variable {P : Pm} {n : Nat}
theorem o_eq_pairs {P : Pm} {l : List (Str × Str)} (h : ∀ p ∈ l, PyData.strOk p.1 = true ∧ PyData.strOk p.2 = true) : Op2 P (compareOp .Eq) (.list (l.map pr)) (.list (l.map pr)) (.bool true) := by
  have hl : (PyData.list (l.map pyP)).canLay0 = true := by simpa only [PyData.canLay0] using lay_pairs h
  have := o_deq (P := P) (a := .list (l.map pyP)) (b := .list (l.map pyP)) hl hl (by have := depth_pairs l; simp only [PyData.depth]; omega)
  rw [toD_pairs, SeqAt.eqv_refl _ hl] at this
  exact this
theorem stp_le (k : Nat) : 0 ≤ stp k ∧ stp k ≤ 2 := by
  unfold stp
  have := List.length_filter_le (fun p => decide (p ≤ (k : Int))) ([2, 4] : List Int)
  simp at this ⊢
  omega
theorem c_law {l : Addr} {vs : List Value} {ns : List Int} (hl : P.hT.IsList l vs.toArray) (hi : IntsAre vs ns) (hz : vs.length ≤ 1000000) : Ctr P (n + 10) (.ref 362) [.raw (.ref l)] [] (.d (.bool true)) [] := by
  obtain ⟨hc, hc2⟩ := cells_ok ns
  refine ctr_def (names := ["script"]) (ho := rfl) (hcd := rfl) (hbind := ?_) rfl ?_ rfl rfl ?_
  · intro vs hv
    rcases vs with _ | ⟨a, _ | ⟨_, _⟩⟩ <;> first | rfl | (simp at hv)
  · decide +kernel
  intro B hB hx
  subst hB
  generalize hcells : cellsOf ns = cells at hc hc2
  refine ex_new (m := .lst [.list (cells.map .int), .int 0]) (en_list (evs_cons (ev_or (mo2 := []) (ev_call (ev_builtin rfl rfl (by decide) rfl rfl) cw_t rfl (evs_cons (ev_script hl hi hz (ev_name rfl rfl rfl) ev_int) evs_nil) (pc_list (by rw [List.length_map]; exact Nat.le_trans (cut_le ns none (some 60)) (by have := hi.length; omega))).ctr (Nat.zero_le _) .nil) (tru_list (by rw [List.length_map]; exact Nat.le_trans (cut_le ns none (some 60)) (by have := hi.length; omega))) (fun h => ?_) fun h => ⟨?_, rfl⟩) (evs_cons ev_int evs_nil)) (by simp)) rfl fun T hT => ?_
  · have e : cells = [3] := by
      rw [← hcells]; unfold cellsOf
      rw [if_pos (by
        cases hq : cut ns none (some 60) with
        | nil => rfl
        | cons _ _ => rw [hq] at h; simp at h)]
    rw [e]; exact En.evl (en_list (evs_cons ev_int evs_nil) (by simp))
  · rw [← hcells]; unfold cellsOf
    rw [if_neg (by
      cases hq : cut ns none (some 60) with
      | nil => rw [hq] at h; simp at h
      | cons _ _ => simp)]
  obtain ⟨k, a0, kv, hk1, hk4, hks, hTab, ha0, ha1, ctab⟩ := c_tables (P := B.P) (n := n + 7) (T := T) hc hc2
  have hkl : kv.ks.length = k := by rw [hks, List.length_take]; show min k 4 = k; omega
  have hpw : kv.ks.Pairwise lt := by rw [hks]; exact (show tagL.Pairwise lt by decide +kernel).sublist (List.take_sublist _ _)
  have hin : ∀ x ∈ kv.ks, x ∈ tagL := fun x hx => by rw [hks] at hx; exact List.mem_of_mem_take hx
  refine ex_new (en_call (ev_gref rfl rfl rfl) (cw_K rfl) rfl (evs_cons (ev_name rfl rfl rfl) evs_nil) ctab (Nat.le_refl _) .here) rfl fun t ht => ?_
  obtain ⟨oc, pl, tE, iE, tail, htl, claid⟩ := c_laid (P := B.P) (n := n + 7) (T := T) (t := t) hc hc2 hk1 hk4 hks hTab ha0 ha1
  have hpln : pl.length = k := by have := iE.num; rw [← hkl]; simp [KV.ks] at *; omega
  have hplm : ∀ x ∈ kv.ks, x ∈ pl.map (·.1) := fun x hx => ((iE.all x).mp hx).resolve_left (by simp)
  have hocl : oc.length ≤ 76 := by have := iE.sz; simp at this; omega
  have t0 := iE.tp0
  have t1 := iE.tp1
  simp only at t0 t1
  refine ex_unpack2 (ev_call (ev_gref rfl rfl rfl) (cw_K rfl) rfl (evs_cons (ev_name rfl rfl rfl) (evs_cons (ev_name rfl rfl rfl) evs_nil)) claid (Nat.le_refl _) (.take (.take .nil))) unp_tup rfl rfl ?_ rfl (by intros; rfl)
  have srt : ∀ {md : Md} {mo : MoL} {p1 p2 pos : Pos}, md.lookup ("tables" : Str) = some (.raw (.ref t)) → True := fun _ => trivial
  obtain ⟨a1, ha1'⟩ : ∃ a1, tE + 1 + 1 = a1 := ⟨_, rfl⟩
  rw [ha1']
  obtain ⟨wrong, hwrong⟩ : ∃ w, wr cells a1 kv.ks = w := ⟨_, rfl⟩
  have hwl : wrong.length ≤ 4 := by rw [← hwrong]; have := wr_len (cells := cells) kv.ks a1; omega
  have hwm : ∀ x ∈ wrong, x ∈ kv.ks := fun x hx => wr_mem (by rw [hwrong]; exact hx)
  refine ex_comp (ds := kv.ks.map .str) (out := wrong.map .str) (mo2 := [(t, .dct kv.ks kv.vs), (T, tp cells (a1 + k))]) (En.evl (en_call (ev_builtin rfl rfl (by decide) rfl rfl) cw_b rfl (evs_cons (ev_name rfl rfl rfl) evs_nil) ((sorted_dict (ds := kv.vs) (by omega) (by omega) hpw).view (m := .dct kv.ks kv.vs) rfl (by simp [D.flat])) (Nat.zero_le _) .here)) src_list
    (fun B' => CompR.cast (CompR.runf D.str (fun s _ => dr cells s 4 == 1) (fun (_ : Int) x => D.str x) (fun s _ => s + 1) (fun s => [(t, .dct kv.ks kv.vs), (T, tp cells s)]) (fun s l => 0 ≤ s ∧ s + l.length ≤ 5000) (fun s x l h => ⟨by have := h.2; rw [List.length_cons] at this; exact ⟨by omega, by omega⟩,
      et_cmp (ev_call (ev_gref rfl rfl rfl) (cw_K rfl) rfl (evs_cons (ev_name rfl rfl rfl) (evs_cons ev_int evs_nil)) (c_draw hc hc2 h.1 (by have := h.2; omega) (by omega)) (Nat.le_add_left _ _) (.there .here)) ev_int o_eq, fun _ => (ev_name rfl rfl rfl)⟩) kv.ks a1 ⟨by omega, by omega⟩) (by rw [outs_wr, hwrong]) (by rw [fold_inc, hkl])) rfl rfl (by rw [List.length_map]; omega) rfl rfl fun wa hwa => ?_
  refine Ex.freeze hwa rfl ?_
  rw [show MO.d (.lst (wrong.map .str)) = .list (wrong.map .str) from rfl]
  have LT : ∀ {sc : Sc} {B' : Bd sc} {md : Md} {mo : MoL} {pos p1 p2 : Pos}, kin sc "len" = some .globalImplicit → kld sc "tables" = true → md.lookup ("tables" : Str) = some (.raw (.ref t)) → Upd1 mo [(t, .dct kv.ks kv.vs)] [(t, .dct kv.ks kv.vs)] mo → Ev B' md mo (.Call (.Name "len" p1) [.Name "tables" p2] [] pos) (.int k) mo := fun h1 h2 h3 u =>
    ev_to (ev_call (ev_builtin rfl rfl (by decide) h1 rfl) cw_b rfl (evs_cons (ev_name h3 h2 rfl) evs_nil) ((pc_len_dict (ks := kv.ks) (ds := kv.vs) kv.len (by rw [← kv.len, hkl]; omega)).view (m := .dct kv.ks kv.vs) rfl rfl) (Nat.zero_le _) u) (by rw [hkl])
  refine ex_assign (d := .int (stp k)) (ev_call (ev_builtin rfl rfl (by decide) rfl rfl) cw_b rfl (evs_cons (En.evl (en_comp (ds := ([2, 4] : List Int).map .int) (out := (([2, 4] : List Int).filter fun p => decide (p ≤ (k : Int))).map .int) (ev_tuple (evs_cons ev_int (evs_cons ev_int evs_nil)) (by simp)) src_tup (fun B' => CompR.filt D.int D.int (fun p => decide (p ≤ (k : Int))) [2, 4] (fun p _ => et_cmp (ev_name rfl rfl rfl) (LT rfl rfl rfl .here) o_le) fun p _ _ => (ev_name rfl rfl rfl)) rfl rfl (by simp))) evs_nil) (by have := (pc_len_list (P := B.P) (ds := (([2, 4] : List Int).filter fun p => decide (p ≤ (k : Int))).map D.int) (by rw [List.length_map]; exact Nat.le_trans (List.length_filter_le _ _) (by simp))).ctr; rw [List.length_map] at this; exact this) (Nat.zero_le _) .nil) rfl ?_
  have hst := stp_le k
  have hpow : (16 * 2 ^ (stp k).toNat : Int) ≤ 64 := by
    have : stp k = 0 ∨ stp k = 1 ∨ stp k = 2 := by omega
    rcases this with e | e | e <;> rw [e] <;> decide
  refine ex_new (m := .lst ((nums0 k).map .int)) (en_list (evs_cons (ev_bin ev_int (ev_bin ev_int (ev_name rfl rfl rfl) (o_pow hst.1 (by omega) (by decide))) (o_mul (mulL (by decide)))) (evs_cons (ev_name rfl rfl rfl) (evs_cons (ev_bin (ev_bin ev_int (LT rfl rfl rfl .here) (o_mul (mulL (by decide)))) (ev_bin ev_int (ev_bin ev_int (ev_name rfl rfl rfl) (o_pow hst.1 (by omega) (by decide))) (o_mul (mulL (by decide)))) o_sub) evs_nil))) (by simp [nums0])) rfl fun na hna => ?_
  obtain ⟨a2, ha2⟩ : ∃ a2, a1 + (k : Int) = a2 := ⟨_, rfl⟩
  rw [ha2]
  obtain ⟨sg, hsg⟩ : ∃ b : Bool, decide (dr cells a2 4 > 0) = b := ⟨_, rfl⟩
  refine ex_assign (d := .bool sg) (ev_to (ev_cmp (ev_call (ev_gref rfl rfl rfl) (cw_K rfl) rfl (evs_cons (ev_name rfl rfl rfl) (evs_cons ev_int evs_nil)) (c_draw hc hc2 (by omega) (by omega) (by omega)) (Nat.le_add_left _ _) (.there (.there .here))) ev_int o_gt) (by rw [hsg])) rfl ?_
  obtain ⟨a3, ha3⟩ : ∃ a3, (if sg then a2 + 1 else a2 + 1 + 1) = a3 := ⟨_, rfl⟩
  have ha3b : 0 ≤ a3 ∧ a3 ≤ 1000 := by rw [← ha3]; split <;> omega
  have hj := dr_pos cells (a2 + 1) (many := 3) (by omega)
  obtain ⟨j, hjj⟩ : ∃ j, dr cells (a2 + 1) 3 = j := ⟨_, rfl⟩
  rw [hjj] at hj
  obtain ⟨nums, hnums⟩ : ∃ x, numsF k sg j = x := ⟨_, rfl⟩
  have hnl : nums.length = 3 := by rw [← hnums]; unfold numsF nums0; split <;> simp
  refine ex_if (md' := [("numbers", .raw (.ref na)), ("is_searching", .bool sg), ("wrong", .list (wrong.map .str)), ("places", .dict (pl.map (·.1)) (pl.map fun q => .int q.2)), ("octets", .bytes (oc ++ tail)), ("tables", .raw (.ref t)), ("tape", .raw (.ref T))]) (mo2 := [(na, .lst (nums.map .int)), (t, .dct kv.ks kv.vs), (T, tp cells a3)]) (et_not (et_val (ev_name rfl rfl rfl) tru_bool)) (fun h => ?_) (fun h => ?_) rfl ?_
  · have hs0 : sg = false := by simpa using h
    rw [hs0, if_neg (by simp)] at ha3
    subst ha3
    have hne : (nums0 k)[j.toNat]? = some ((nums0 k).getD j.toNat 0) := by
      rw [List.getD_eq_getElem?_getD, List.getElem?_eq_getElem (show j.toNat < (nums0 k).length by show j.toNat < 3; omega)]; rfl
    have hset : ((nums0 k).map D.int).set j.toNat (.int ((nums0 k).getD j.toNat 0 + 1)) = nums.map .int := by
      rw [← hnums]; unfold numsF; rw [hs0, if_neg (by simp), List.map_set]
    refine ex_augidx (k := j) (x := (nums0 k).getD j.toNat 0) (y := 1) (ds := (nums0 k).map .int) (ev_name rfl rfl rfl) (ev_to (ev_call (ev_gref rfl rfl rfl) (cw_K rfl) rfl (evs_cons (ev_name rfl rfl rfl) (evs_cons ev_int evs_nil)) (c_draw hc hc2 (by omega) (by omega) (by omega)) (Nat.le_add_left _ _) (.there (.there .here))) (by rw [hjj])) ev_int (.head _) (by rw [List.getElem?_map, hne]; rfl) (by rw [hset]; exact .here) hj.1 (by simp [nums0]) ?_
    exact ex_ends (.cons rfl (.cons rfl (.cons rfl (.cons rfl (.cons rfl (.cons rfl (.cons rfl .nil)))))))
  · have hs1 : sg = true := by simpa using h
    rw [hs1, if_pos rfl] at ha3
    subst ha3
    rw [show (nums0 k).map D.int = nums.map .int from by rw [← hnums]; unfold numsF; rw [hs1, if_pos rfl]]
    exact ex_ends (.cons rfl (.cons rfl (.cons rfl (.cons rfl (.cons rfl (.cons rfl (.cons rfl .nil)))))))
  refine Ex.freeze hna rfl ?_
  rw [show MO.d (.lst (nums.map .int)) = .list (nums.map .int) from rfl]
  obtain ⟨x0, x1, x2, rfl⟩ : ∃ x0 x1 x2, nums = [x0, x1, x2] := by
    rcases nums with _ | ⟨a, _ | ⟨b, _ | ⟨c, _ | ⟨_, _⟩⟩⟩⟩ <;> simp at hnl
    exact ⟨a, b, c, rfl⟩
  refine ex_assign (d := .bytes (hdr k [x0, x1, x2])) (ev_bin (ev_call (ev_gref rfl rfl rfl) (cw_K rfl) rfl (evs_cons ev_int (evs_cons ev_int evs_nil)) (c_octets (by decide) (by decide)) (Nat.le_add_left _ _) .nil) (ev_meth ev_bytes hm_bjoin cw_b rfl (evs_cons (En.evl (en_comp (ds := ((k : Int) :: [x0, x1, x2]).map .int) (out := ((k : Int) :: [x0, x1, x2]).map fun x => .bytes (oct x 2)) (ev_bin (En.evl (en_list (evs_cons (LT rfl rfl rfl .here) evs_nil) (by simp))) (ev_name rfl rfl rfl) (o_ladd (by simp))) src_list (fun B' => CompR.map D.int (fun x => .bytes (oct x 2)) _ fun x _ => ev_call (ev_gref rfl rfl rfl) (cw_K rfl) rfl (evs_cons (ev_name rfl rfl rfl) (evs_cons ev_int evs_nil)) (c_octets (by decide) (by decide)) (Nat.le_add_left _ _) .nil) rfl rfl (by simp))) evs_nil) (c_bjoin4 (by simp only [oct_len' _ 2 (by omega)]; decide)).ctr (Nat.zero_le _) .nil rfl rfl) (o_badd (by simp only [List.length_append, oct_len' _ 2 (by omega), oct_len' _ 4 (by omega)]; decide))) rfl ?_
  have hhl : (hdr k [x0, x1, x2]).length = 12 := by unfold hdr; simp only [List.length_append, oct_len' _ 2 (by omega), oct_len' _ 4 (by omega)]; rfl
  generalize hH : hdr k [x0, x1, x2] = H at hhl
  refine Ex.sub (md' := [("data", .bytes H), ("tables", .raw (.ref t)), ("wrong", .list (wrong.map .str)), ("places", .dict (pl.map (·.1)) (pl.map fun q => .int q.2)), ("octets", .bytes (oc ++ tail)), ("is_searching", .bool sg), ("tape", .raw (.ref T))]) ?_ (Sub.get (.cons rfl (.cons rfl (.cons rfl (.cons rfl (.cons rfl (.cons rfl (.cons rfl .nil))))))))
  refine ex_for (ds := kv.ks.map .str) (En.evl (en_call (ev_builtin rfl rfl (by decide) rfl rfl) cw_b rfl (evs_cons (ev_name rfl rfl rfl) evs_nil) ((sorted_dict (ds := kv.vs) (by omega) (by omega) hpw).view (m := .dct kv.ks kv.vs) rfl (by simp [D.flat])) (Nat.zero_le _) .here)) src_list (ForR.run D.str (fun d tag => d ++ enc tag ++ recB kv pl wrong tag) (fun d => [("data", .bytes d), ("tables", .raw (.ref t)), ("wrong", .list (wrong.map .str)), ("places", .dict (pl.map (·.1)) (pl.map fun q => .int q.2)), ("octets", .bytes (oc ++ tail)), ("is_searching", .bool sg), ("tape", .raw (.ref T))])
    (fun _ => [(t, .dct kv.ks kv.vs), (T, tp cells a3)]) (fun d l => (∀ x ∈ l, x ∈ kv.ks) ∧ d.length + 16 * l.length ≤ 1000) ?_ kv.ks H ?_) rfl ?_
  · rintro d tag l ⟨i1, i2⟩
    have ht := i1 tag (.head _)
    have htl := hin tag ht
    have hb := bod_le hTab tag
    rw [List.length_cons] at i2
    have he : (enc tag).length = 4 := by
      simp only [tagL, List.mem_cons, List.not_mem_nil, or_false] at htl
      rcases htl with rfl | rfl | rfl | rfl <;> rfl
    refine ⟨⟨fun x hx => i1 x (.tail _ hx), by simp only [List.length_append, recB, oct_len' _ 4 (by omega), he]; omega⟩, fun I o => ?_, rfl⟩
    refine ex_assign (d := .int (tot kv wrong tag)) (ev_bin (ev_call (ev_gref rfl rfl rfl) (cw_K rfl) rfl (evs_cons (ev_name rfl rfl rfl) (evs_cons (ev_subv (ev_name rfl rfl rfl) (ev_name rfl rfl rfl) (.tail _ (.head _)) rfl rfl (gi_dict (kv_look ht)) (fun o i => ⟨_, rfl⟩)) evs_nil)) (c_told (by omega)) (Nat.le_add_left _ _) .nil) (ev_ife (mo2 := [(I, .obj o), (t, .dct kv.ks kv.vs), (T, tp cells a3)]) (d := .int (if wrong.any (fun y => y == tag) then 1 else 0)) (et_cmp (ev_name rfl rfl rfl) (ev_name rfl rfl rfl) (o_in_strs (fun x hx => hin x (hwm x hx)) htl)) (fun h => ?_) fun h => ?_) o_add) rfl ?_
    · rw [h]; exact ev_int
    · rw [h]; exact ev_int
    refine ex_assign (d := .bytes (d ++ enc tag ++ recB kv pl wrong tag)) (ev_bin (ev_bin (ev_name rfl rfl rfl) (ev_meth (ev_name rfl rfl rfl) hm_encode cw_b rfl (evs_cons ev_str evs_nil) (c_encode htl).ctr (Nat.zero_le _) .nil rfl rfl) (o_badd (by omega))) (ev_meth ev_bytes hm_bjoin cw_b rfl (evs_cons (En.evl (en_comp (ds := ([tot kv wrong tag, PL.at pl tag, ((bod kv tag).length : Int)] : List Int).map .int) (out := ([tot kv wrong tag, PL.at pl tag, ((bod kv tag).length : Int)] : List Int).map fun x => .bytes (oct x 4)) (ev_tuple (evs_cons (ev_name rfl rfl rfl) (evs_cons (ev_sub (ev_name rfl rfl rfl) (ev_name rfl rfl rfl) (gi_dict (pl_look (hplm _ ht))) (fun o i => ⟨_, rfl⟩)) (evs_cons (ev_call (ev_builtin rfl rfl (by decide) rfl rfl) cw_b rfl (evs_cons (ev_subv (ev_name rfl rfl rfl) (ev_name rfl rfl rfl) (.tail _ (.head _)) rfl rfl (gi_dict (kv_look ht)) (fun o i => ⟨_, rfl⟩)) evs_nil) (pc_len_bytes (by omega)).ctr (Nat.zero_le _) .nil) evs_nil))) (by simp)) src_tup
      (fun B' => CompR.map D.int (fun x => .bytes (oct x 4)) _ fun x _ => ev_call (ev_gref rfl rfl rfl) (cw_K rfl) rfl (evs_cons (ev_name rfl rfl rfl) (evs_cons ev_int evs_nil)) (c_octets (by decide) (by decide)) (Nat.le_add_left _ _) .nil) rfl rfl (by simp))) evs_nil) (c_bjoin3 (by simp only [oct_len' _ 4 (by omega)]; decide)).ctr (Nat.zero_le _) .nil rfl rfl) (o_badd (by simp only [List.length_append, oct_len' _ 4 (by omega), he]; omega))) rfl ?_
    exact ex_ends (.cons rfl (.cons rfl (.cons rfl (.cons rfl (.cons rfl (.cons rfl (.cons rfl .nil)))))))
  · exact ⟨fun x hx => hx, by omega⟩
  have hdl : (kv.ks.foldl (fun d tag => d ++ enc tag ++ recB kv pl wrong tag) H).length = 12 + 16 * k := by rw [dir_len _ _ _ _ _ hin, hkl, hhl]
  obtain ⟨d, hd⟩ : ∃ d, kv.ks.foldl (fun d tag => d ++ enc tag ++ recB kv pl wrong tag) H ++ (oc ++ tail) = d := ⟨_, rfl⟩
  have hdz : d.length ≤ 200 := by rw [← hd]; simp only [List.length_append]; omega
  refine ex_assign (d := .bytes d) (ev_to (ev_bin (ev_name rfl rfl rfl) (ev_name rfl rfl rfl) (o_badd (by simp only [List.length_append]; omega))) (congrArg D.bytes hd)) rfl ?_
  refine ex_assign ev_bool rfl ?_
  have LL : Laid k kv pl oc tail wrong d sg j := ⟨hk1, hk4, hks, hTab, ⟨tE, iE⟩, htl, hwm, hj.1, hj.2, by rw [hnums, hH]; exact hd.symm⟩
  obtain ⟨wh, hwh⟩ : ∃ b : Bool, (if hasHead kv then dr cells a3 2 == 0 else true) = b := ⟨_, rfl⟩
  obtain ⟨a4, ha4⟩ : ∃ a, (if hasHead kv then a3 + 1 else a3) = a := ⟨_, rfl⟩
  obtain ⟨hG, hF, hB⟩ := plain LL wh (fun h => by rw [← hwh, h]; rfl)
  obtain ⟨d2, hd2⟩ : ∃ x, data2 kv pl d wh = x := ⟨_, rfl⟩
  obtain ⟨kw, hkw⟩ : ∃ x, kv2 kv pl d wh = x := ⟨_, rfl⟩
  rw [hd2] at hG hF
  rw [hkw] at hF hB
  have hkwk : kw.ks = kv.ks := by
    rw [← hkw]; unfold kv2
    split
    · exact setB_ks _ _
    · rfl
  have hat : ∀ x ∈ kv.ks, 0 ≤ PL.at pl x ∧ PL.at pl x ≤ 200 := fun x hx => by
    obtain ⟨pre, post, e1, e2⟩ := iE.at' _ (pl_at_mem (hplm x hx))
    have := congrArg List.length e1
    simp only [List.length_append] at this
    simp only at e2
    omega
  refine ex_if (md' := [("tables", .raw (.ref t)), ("data", .bytes d2), ("is_whole", .bool wh), ("wrong", .list (wrong.map .str)), ("places", .dict (pl.map (·.1)) (pl.map fun q => .int q.2)), ("is_searching", .bool sg), ("tape", .raw (.ref T))]) (mo2 := [(t, .dct kw.ks kw.vs), (T, tp cells a4)])
    (et_cmpv2 (m := .dct kv.ks kv.vs) ev_str (ev_name rfl rfl rfl) (.head _) rfl o_ind) (fun h => ?_) (fun h => ?_) rfl ?_
  · have hh : hasHead kv = true := h
    rw [hh, if_pos rfl] at hwh ha4
    subst ha4
    have hmem := hasHead_mem.mp hh
    have hpos := hat _ hmem
    have hbl := bod_le hTab "head"
    have hbz : (bare d (PL.at pl "head" + 8)).length ≤ 500 := by
      unfold bare
      have h1 := cut_le d none (some (PL.at pl "head" + 8))
      have h2 := cut_le d (some (PL.at pl "head" + 8 + 4)) none
      simp only [List.length_append, List.length_replicate]; omega
    have hb1 := cut_le d none (some (PL.at pl "head" + 8))
    have hb2 := cut_le d (some (PL.at pl "head" + 8 + 4)) none
    have hc1 := cut_le (bare d (PL.at pl "head" + 8)) none (some (PL.at pl "head" + 8))
    have hc3 := cut_le (bare d (PL.at pl "head" + 8)) (some (PL.at pl "head" + 8 + 4)) none
    have hadj : (adj (lack (bare d (PL.at pl "head" + 8)) wh) (PL.at pl "head" + 8)).length = 4 := by unfold adj; rw [List.length_map, rng1_len (by omega)]; rfl
    refine ex_assign (d := .int (PL.at pl "head" + 8)) (ev_bin (ev_sub (ev_name rfl rfl rfl) ev_str (gi_dict (pl_look (hplm _ hmem))) (fun o i => ⟨_, rfl⟩)) ev_int o_add) rfl ?_
    refine ex_assign (d := .bytes (bare d (PL.at pl "head" + 8))) (ev_bin (ev_bin (ev_slice (ev_name rfl rfl rfl) evo_none (evo_some (ev_name rfl rfl rfl)) (gs_bytes (by omega))) (ev_call (ev_builtin rfl rfl (by decide) rfl rfl) cw_t rfl (evs_cons ev_int evs_nil) (lstr_bytes_int (by decide) (by decide)).ctr (Nat.zero_le _) .nil) (o_badd (by rw [List.length_replicate]; show _ + 4 ≤ _; omega))) (ev_slice (ev_name rfl rfl rfl) (evo_some (ev_bin (ev_name rfl rfl rfl) ev_int o_add)) evo_none (gs_bytes (by omega))) (o_badd (by rw [List.length_append, List.length_replicate]; show _ + 4 + _ ≤ _; omega))) rfl ?_
    refine ex_assign (d := .bool wh) (ev_to (ev_cmp (ev_call (ev_gref rfl rfl rfl) (cw_K rfl) rfl (evs_cons (ev_name rfl rfl rfl) (evs_cons ev_int evs_nil)) (c_draw hc hc2 ha3b.1 (by omega) (by omega)) (Nat.le_add_left _ _) (.there .here)) ev_int o_eq) (congrArg D.bool hwh)) rfl ?_
    refine ex_assign (d := .int (lack (bare d (PL.at pl "head" + 8)) wh)) (ev_bin (ev_bin (ev_bin ev_int (ev_call (ev_gref rfl rfl rfl) (cw_K rfl) rfl (evs_cons (ev_name rfl rfl rfl) evs_nil) (c_lsum (by omega)) (Nat.le_add_left _ _) .nil) o_sub) (ev_ife (mo2 := [(t, .dct kv.ks kv.vs), (T, tp cells (a3 + 1))]) (d := .int (if wh then 0 else 1)) (et_val (ev_name rfl rfl rfl) tru_bool) (fun h => by rw [h]; exact ev_int) fun h => by rw [h]; exact ev_int) o_add) (ev_bin ev_int ev_int (o_pow (by decide) (by decide) (by decide))) (o_mod (by decide))) rfl ?_
    refine ex_assign (d := .bytes (patch d (PL.at pl "head" + 8) wh)) (ev_bin (ev_bin (ev_slice (ev_name rfl rfl rfl) evo_none (evo_some (ev_name rfl rfl rfl)) (gs_bytes (by omega))) (ev_call (ev_builtin rfl rfl (by decide) rfl rfl) cw_t rfl (evs_cons (En.evl (en_comp (ds := (rng 0 4 1).map .int) (out := (adj (lack (bare d (PL.at pl "head" + 8)) wh) (PL.at pl "head" + 8)).map .int) (ev_call (ev_builtin rfl rfl (by decide) rfl rfl) cw_t rfl (evs_cons ev_int evs_nil) pc_range1.ctr (Nat.zero_le _) .nil) (src_rng (small_of (by decide) (by decide) (by decide)))
      (fun B' => CompR.cast (CompR.map D.int (fun s => D.int (((lack (bare d (PL.at pl "head" + 8)) wh).fdiv (256 ^ (3 - (PL.at pl "head" + 8 + s).fmod 4).toNat)).fmod 256)) (rng 0 4 1) fun s _ => by
        have hf := fm4 (PL.at pl "head" + 8 + s)
        have hp := pow256 (a := 3 - (PL.at pl "head" + 8 + s).fmod 4) (by omega) (by omega)
        exact ev_bin (ev_bin (ev_name rfl rfl rfl) (ev_bin ev_int (ev_bin ev_int (ev_bin (ev_bin (ev_name rfl rfl rfl) (ev_name rfl rfl rfl) o_add) ev_int (o_mod (by decide))) o_sub) (o_pow (by omega) (by omega) (by decide))) (o_div hp.1 hp.2)) ev_int (o_mod (by decide))) (by unfold adj; rw [List.map_map]; rfl) rfl) rfl rfl (by rw [List.length_map, rng1_len (by omega)]; decide))) evs_nil) (c_bytes_list (fun x hx => by
          unfold adj at hx
          obtain ⟨s, _, rfl⟩ := List.mem_map.mp hx
          exact ⟨Int.fmod_nonneg_of_pos _ (by omega), Int.fmod_lt_of_pos _ (by omega)⟩) (by rw [hadj]; decide)).ctr (Nat.zero_le _) .nil) (o_badd (by unfold byL; rw [List.length_map, hadj]; omega))) (ev_slice (ev_name rfl rfl rfl) (evo_some (ev_bin (ev_name rfl rfl rfl) ev_int o_add)) evo_none (gs_bytes (by omega))) (o_badd (by unfold byL; rw [List.length_append, List.length_map, hadj]; omega))) rfl ?_
    have e2 : patch d (PL.at pl "head" + 8) wh = d2 := by rw [← hd2]; unfold data2; rw [hh, if_pos rfl]
    have e3 : setB kv (cut d2 (some (PL.at pl "head")) (some (PL.at pl "head" + ((bod kv "head").length : Int)))) = kw := by rw [← hkw, ← e2]; unfold kv2; rw [hh, if_pos rfl]
    have hd2z := hG.size
    rw [e2]
    refine ex_setkey (v := ev_slice (ev_name rfl rfl rfl) (evo_some (ev_sub (ev_name rfl rfl rfl) ev_str (gi_dict (pl_look (hplm _ hmem))) (fun o i => ⟨_, rfl⟩))) (evo_some (ev_bin (ev_sub (ev_name rfl rfl rfl) ev_str (gi_dict (pl_look (hplm _ hmem))) (fun o i => ⟨_, rfl⟩)) (ev_call (ev_builtin rfl rfl (by decide) rfl rfl) cw_b rfl (evs_cons (ev_subv (ev_name rfl rfl rfl) ev_str (.head _) rfl rfl (gi_dict (kv_look hmem)) (fun o i => ⟨_, rfl⟩)) evs_nil) (pc_len_bytes (by omega)).ctr (Nat.zero_le _) .nil) o_add)) (gs_bytes (by omega))) (ho := (ev_name rfl rfl rfl)) (hi := ev_str) (u := .here) (by omega) ?_
    obtain ⟨s1, s2⟩ := setB_vs kv (cut d2 (some (PL.at pl "head")) (some (PL.at pl "head" + ((bod kv "head").length : Int)))) hmem
    rw [s1, s2, e3, ← hkwk]
    exact ex_ends (.cons rfl (.cons rfl (.cons rfl (.cons rfl (.cons rfl (.cons rfl (.cons rfl .nil)))))))
  · have hh : hasHead kv = false := h
    rw [hh, if_neg (by simp)] at hwh ha4
    subst ha4
    have e1 : kv = kw := by rw [← hkw]; unfold kv2; rw [if_neg (by rw [hh]; simp)]
    have e2 : d = d2 := by rw [← hd2]; unfold data2; rw [if_neg (by rw [hh]; simp)]
    subst hwh
    rw [e1, e2]
    exact ex_ends (.cons rfl (.cons rfl (.cons rfl (.cons rfl (.cons rfl (.cons rfl (.cons rfl .nil)))))))
  refine Ex.freeze ht rfl ?_
  rw [show MO.d (.dct kw.ks kw.vs) = .dict kw.ks kw.vs from rfl]
  refine ex_new (m := .lst ((if sg then [] else [(("" : Str), ("searching" : Str))]).map pr)) (en_ife (mo2 := [(T, tp cells a4)]) (et_val (ev_name rfl rfl rfl) tru_bool) (fun h => by rw [h]; exact ev_empty) fun h => by rw [h]; exact en_list (evs_cons (ev_tuple (evs_cons ev_str (evs_cons ev_str evs_nil)) (by simp)) evs_nil) (by simp)) rfl fun du hdu => ?_
  have hin' : ∀ x ∈ kw.ks, x ∈ tagL := by rw [hkwk]; exact hin
  obtain ⟨du1, hdu1⟩ : ∃ x, kw.ks.foldl (fun s tag => s ++ (lWords d2 kw pl wrong tag).map fun w => (tag, w)) (if sg then [] else [(("" : Str), ("searching" : Str))]) = x := ⟨_, rfl⟩
  have hs0 : ∀ p ∈ (if sg then [] else [(("" : Str), ("searching" : Str))]), PyData.strOk p.1 = true ∧ PyData.strOk p.2 = true := by
    intro p hp
    split at hp
    · simp at hp
    · rw [List.mem_singleton] at hp; subst hp; exact ⟨by decide +kernel, by decide +kernel⟩
  have hsl : (if sg then [] else [(("" : Str), ("searching" : Str))]).length ≤ 1 := by split <;> simp
  have hfold := due_fold (data := d2) (kv := kw) (pl := pl) (wrong := wrong) kw.ks (if sg then [] else [(("" : Str), ("searching" : Str))]) hin' hs0
  rw [hdu1] at hfold
  have hkwl : kw.ks.length = k := by rw [hkwk, hkl]
  have hd2z := hG.size
  refine Ex.sub (md' := [("due", .raw (.ref du)), ("tables", .dict kw.ks kw.vs), ("data", .bytes d2), ("is_whole", .bool wh), ("wrong", .list (wrong.map .str)), ("places", .dict (pl.map (·.1)) (pl.map fun q => .int q.2))]) ?_ (Sub.get (.cons rfl (.cons rfl (.cons rfl (.cons rfl (.cons rfl (.cons rfl .nil)))))))
  refine ex_for (ds := kw.ks.map .str) (En.evl (en_call (ev_builtin rfl rfl (by decide) rfl rfl) cw_b rfl (evs_cons (ev_name rfl rfl rfl) evs_nil) (sorted_dict (ks := kw.ks) (ds := kw.vs) (by omega) (by omega) (by rw [hkwk]; exact hpw)).ctr (Nat.zero_le _) .nil)) src_list (ForR.run D.str (fun s tag => s ++ (lWords d2 kw pl wrong tag).map fun w => (tag, w)) (fun _ => [("due", .raw (.ref du)), ("tables", .dict kw.ks kw.vs), ("data", .bytes d2), ("is_whole", .bool wh), ("wrong", .list (wrong.map .str)), ("places", .dict (pl.map (·.1)) (pl.map fun q => .int q.2))])
    (fun s => [(du, .lst (s.map pr)), (T, tp cells a4)]) (fun s l => (∀ x ∈ l, x ∈ kw.ks) ∧ s.length + 3 * l.length ≤ 100) ?_ kw.ks (if sg then [] else [(("" : Str), ("searching" : Str))]) ?_) rfl ?_
  · rintro s tag l ⟨i1, i2⟩
    have htg := i1 tag (.head _)
    have htg' : tag ∈ kv.ks := by rw [← hkwk]; exact htg
    have hw := lWords_ok (data := d2) (kv := kw) (pl := pl) (wrong := wrong) (tag := tag)
    have hat' := hat tag htg'
    rw [List.length_cons] at i2
    refine ⟨⟨fun x hx => i1 x (.tail _ hx), by rw [List.length_append, List.length_map]; omega⟩, fun I o => ?_, rfl⟩
    refine ex_expr (ev_meth (ev_name rfl rfl rfl) (hm_extend (.tail _ (.head _))) cw_b rfl (evs_cons (En.evl (en_comp (ev_call (ev_gref rfl rfl rfl) (cw_K rfl) rfl (evs_cons (ev_name rfl rfl rfl) (evs_cons (ev_name rfl rfl rfl) (evs_cons (ev_name rfl rfl rfl) (evs_cons (ev_name rfl rfl rfl) (evs_cons (ev_name rfl rfl rfl) evs_nil))))) (c_lwords (data := d2) (kv := kw) (pl := pl) (wrong := wrong) (tag := tag) (by omega) hin' (fun x hx => hplm x (by rw [← hkwk]; exact hx)) (fun x hx => hin x (hwm x hx)) htg (by omega) (by rw [hB _ htg']; exact bod_le hTab tag) hat'.1 (by omega)) (Nat.le_add_left _ _) .nil) src_list (fun B' => CompR.map .str (fun w => pr (tag, w)) (lWords d2 kw pl wrong tag) fun w _ => ev_tuple (evs_cons (ev_name rfl rfl rfl) (evs_cons (ev_name rfl rfl rfl) evs_nil)) (by simp)) rfl rfl (by rw [List.length_map]; omega))) evs_nil)
      (c_extend (ds := s.map pr) (by rw [List.length_map, List.length_map]; omega)) (Nat.zero_le _) (.there .here) rfl rfl) ?_
    rw [show s.map pr ++ (lWords d2 kw pl wrong tag).map (fun w => pr (tag, w)) = (s ++ (lWords d2 kw pl wrong tag).map fun w => (tag, w)).map pr from by rw [List.map_append, List.map_map]; rfl]
    exact ex_ends (.cons rfl (.cons rfl (.cons rfl (.cons rfl (.cons rfl (.cons rfl .nil))))))
  · exact ⟨fun x hx => hx, by omega⟩
  rw [hdu1]
  refine Ex.freeze hdu rfl ?_
  rw [show MO.d (.lst (du1.map pr)) = .list (du1.map pr) from rfl]
  have hdue : faults d2 k = du1 ++ (if wh then [] else [(("head" : Str), ("whole" : Str))]) := by rw [hF, ← hdu1, hkwk]; rfl
  have hall : ∀ p ∈ du1 ++ (if wh then [] else [(("head" : Str), ("whole" : Str))]), PyData.strOk p.1 = true ∧ PyData.strOk p.2 = true := by
    intro p hp
    rcases List.mem_append.mp hp with hp | hp
    · exact hfold.1 p hp
    · split at hp
      · simp at hp
      · rw [List.mem_singleton] at hp; subst hp; exact ⟨by decide +kernel, by decide +kernel⟩
  refine ex_retd (ev_cmp (ev_to (ev_call (ev_gref rfl rfl rfl) (cw_K rfl) rfl (evs_cons (ev_name rfl rfl rfl) evs_nil) (c_faults hG) (Nat.le_refl _) .nil) (by rw [hdue])) (ev_to (ev_bin (ev_name rfl rfl rfl) (ev_ife (mo2 := [(T, tp cells a4)]) (d := .list ((if wh then [] else [(("head" : Str), ("whole" : Str))]).map pr)) (et_val (ev_name rfl rfl rfl) tru_bool) (fun h => by rw [h]; exact En.evl ev_empty) fun h => by rw [h]; exact En.evl (en_list (evs_cons (ev_tuple (evs_cons ev_str (evs_cons ev_str evs_nil)) (by simp)) evs_nil) (by simp))) (o_ladd (by rw [List.length_map, List.length_map]; have := hfold.2; split <;> simp <;> omega))) (by rw [← List.map_append])) (o_eq_pairs hall)) (fun p hp => nomatch hp)
end

end Mine

end
section
open PySem PySem.W PySem.Calls PyProof.Rows
set_option maxRecDepth 100000
set_option maxHeartbeats 0
theorem Mine.fin (w : World) (s₀ s₁ : Shared) (mg mb : Str → Option Value) (KX : (Mine.K0 w.params).In s₁.heap) (g : s₁.heap.Ns mainGlobals mg) (b : s₁.heap.Ns builtinsNs mb) (nl : s₁.heap.NoLimit) (bi : ∀ x : Str, x ≠ "__name__" → mb x = bootBuiltins x) (hg : s₁.gens = #[])
    {l : Addr} {vs : List Value} {ns : List Int} (hl : s₁.heap.IsList l vs.toArray) (hi : IntsAre vs ns) (hz : vs.length ≤ 1000000) {prog : Program} {Q : Value → Shared → Prop} {E : Value → Shared → Prop}
    (k : ∀ h' tk, (∀ b o, s₁.heap.get? b = some o → h'.get? b = some o) → Q (.bool true) { s₁ with heap := h', toks := tk }) : wpAny (model prog w) callerA (call (.ref 362) [.ref l]) Q E s₁ := by
  let P : Mine.Pm := { prog := prog, w := w, σ := s₁, hT := s₁.heap, mg := mg, mb := mb, KX := KX, g := g, b := b, nolimit := nl, builtins := bi }
  have c := Mine.c_law (P := P) (n := 0) hl hi hz
  have run := c callerA (fun _ => False) s₁.heap [.ref l] ⟨rfl, by decide, by decide⟩ ⟨Mine.Ke.refl _, fun _ f => f.elim, fun _ f => f.elim⟩ (by simp only [Mine.Reps, Mine.Rep, and_true]) (fun p hp => nomatch hp) (by simp)
  refine run.to (tk := s₁.toks) fun a h' tk' ⟨kp, _, _, r⟩ => ?_
  have e : a = .bool true := by
    have r' : Mine.Rep P (fun _ => False) h' a (.bool true) := r
    rwa [Mine.rep_bool] at r'
  subst e
  exact k h' tk' fun b o e => (kp b o e).1 (by simp [Mine.Am])
set_option Elab.async true
def Mine.hd.tw1151431125173238406 : Nat := 0
def Mine.hd.tw17087091549796120035 : Nat := 0
def Mine.hd.tw13438974104106733290 : Nat := 0
def Mine.hd.tw13479121818116124064 : Nat := 0
def Mine.hd.tw14986011013534001752 : Nat := 0
def Mine.hd.tw12870153981298063223 : Nat := 0
def Mine.hd.tw7459034636244564869 : Nat := 0
def Mine.hd.tw13562801017367613147 : Nat := 0
def Mine.hd.tw7634825401528832651 : Nat := 0
def Mine.hd.tw7871633389572989936 : Nat := 0
def Mine.hd.tw8047900516022102942 : Nat := 0
def Mine.hd.tw8343274005884668182 : Nat := 0
def Mine.hd.tw6302395318545343019 : Nat := 0
def Mine.hd.tw2114630138375439770 : Nat := 0
def Mine.hd.tw16950052303361855040 : Nat := 0
def Mine.hd.tw10252440802067590656 : Nat := 0
def Mine.hd.tw13439251381413028484 : Nat := 0
def Mine.hd.tw6688023859364591009 : Nat := 0
def Mine.hd.tw1970335684244275463 : Nat := 0
def Mine.hd.tw15368132723985388332 : Nat := 0
def Mine.hd.tw18144091284554563994 : Nat := 0
def Mine.hd.tw3947230950247764520 : Nat := 0
def Mine.hd.tw11744031951725798604 : Nat := 0
def Mine.hd.tw6545403380812914513 : Nat := 0
def Mine.hd.tw14101212210074526559 : Nat := 0
def Mine.hd.tw15007189217129186178 : Nat := 0
def Mine.hd.tw17831701557444603169 : Nat := 0
def Mine.hd.tw5722637987809002293 : Nat := 0
def Mine.hd.tw12990674161636488019 : Nat := 0
def Mine.hd.tw11840453083743912611 : Nat := 0
def Mine.hd.tw2195365466389143174 : Nat := 0
def Mine.hd.tw10584745474308525940 : Nat := 0
def Mine.hd.tw9421340871869096474 : Nat := 0
def Mine.hd.tw7563247012083115608 : Nat := 0
def Mine.hd.tw17724238746111204827 : Nat := 0
def Mine.hd.tw7790257302778281365 : Nat := 0
def Mine.hd.tw94868424139816031 : Nat := 0
def Mine.hd.tw17594848190555446165 : Nat := 0
def Mine.hd.tw12050417470231563642 : Nat := 0
def Mine.hd.tw10736023773152714149 : Nat := 0
def Mine.hd.tw7404898945805461237 : Nat := 0
def Mine.hd.tw7335939848017559579 : Nat := 0
def Mine.hd.tw16402866234535109 : Nat := 0
def Mine.hd.tw14523373071547133963 : Nat := 0
def Mine.hd.tw8727321023445011275 : Nat := 0
def Mine.hd.tw14405691298885108552 : Nat := 0
def Mine.hd.tw4993660671451451078 : Nat := 0
def Mine.hd.tw3673089383077640791 : Nat := 0
def Mine.hd.tw9733275713543685348 : Nat := 0
def Mine.hd.tw10258999931320997221 : Nat := 0
def Mine.hd.tw7159127617245474268 : Nat := 0
def Mine.hd.tw14788181089696935199 : Nat := 0
def Mine.hd.tw17673860158736603733 : Nat := 0
def Mine.hd.tw8628559246799381055 : Nat := 0
def Mine.hd.tw15448882600500118630 : Nat := 0
def Mine.hd.tw15767059984334470574 : Nat := 0
def Mine.hd.tw2443686041413520621 : Nat := 0
def Mine.hd.tw17158217100471615755 : Nat := 0
def Mine.hd.tw9973785736712783053 : Nat := 0
def Mine.hd.tw15873243133191901032 : Nat := 0
def Mine.hd.tw13828106393651249627 : Nat := 0
def Mine.hd.tw9533504036621197334 : Nat := 0
def Mine.hd.tw4851647983119433812 : Nat := 0
def Mine.hd.tw13221396546327683414 : Nat := 0
def Mine.hd.tw4248940891403876299 : Nat := 0
def Mine.hd.tw12374553892970707226 : Nat := 0
def Mine.hd.tw7079413332180022301 : Nat := 0
def Mine.hd.tw16804990155347930512 : Nat := 0
def Mine.hd.tw18273998448740285081 : Nat := 0
def Mine.hd.tw3524917834074627172 : Nat := 0
def Mine.hd.tw3699304344633483930 : Nat := 0
def Mine.hd.tw17698665547080979700 : Nat := 0
def Mine.hd.tw15021477369018981879 : Nat := 0
def Mine.hd.tw5113092267928746449 : Nat := 0
def Mine.hd.tw11557206176695217875 : Nat := 0
def Mine.hd.tw10730103355336458214 : Nat := 0
def Mine.hd.tw6276725880618359904 : Nat := 0
def Mine.hd.tw4478166936697009375 : Nat := 0
def Mine.hd.tw15903637922713915054 : Nat := 0
def Mine.hd.tw12530978616647830077 : Nat := 0
def Mine.hd.tw3762316585708380085 : Nat := 0
def Mine.hd.tw10545148563179358536 : Nat := 0
def Mine.hd.tw13393168920370363704 : Nat := 0
def Mine.hd.tw1146661050546790199 : Nat := 0
def Mine.hd.tw189712035060473897 : Nat := 0
def Mine.hd.tw5014854345433575794 : Nat := 0
def Mine.hd.tw9719896912496429819 : Nat := 0
def Mine.hd.tw1417264206484863418 : Nat := 0
def Mine.hd.tw12418501198872586064 : Nat := 0
def Mine.hd.tw934797482430211982 : Nat := 0
def Mine.hd.tw14955159897011116063 : Nat := 0
def Mine.hd.tw4991233941168006118 : Nat := 0
def Mine.hd.tw16873611825046955081 : Nat := 0
def Mine.hd.tw14316857314961944484 : Nat := 0
def Mine.hd.tw11054480109507316185 : Nat := 0
def Mine.hd.tw6365728540175186803 : Nat := 0
def Mine.hd.tw17801465724815222159 : Nat := 0
def Mine.hd.tw6835049807684851434 : Nat := 0
def Mine.hd.tw4834486881010975576 : Nat := 0
def Mine.hd.tw634046746112491797 : Nat := 0
def Mine.hd.tw13548834284501389479 : Nat := 0
def Mine.hd.tw5518649813578686510 : Nat := 0
def Mine.hd.tw1609962597479199270 : Nat := 0
def Mine.hd.tw1802376907469915865 : Nat := 0
def Mine.hd.tw17279316672431202147 : Nat := 0
def Mine.hd.tw5554424272515680735 : Nat := 0
def Mine.hd.tw12399718760709695909 : Nat := 0
def Mine.hd.tw1050215454788665971 : Nat := 0
def Mine.hd.tw11032806212648032379 : Nat := 0
def Mine.hd.tw1064106604902352485 : Nat := 0
def Mine.hd.tw14365163053040766185 : Nat := 0
def Mine.hd.tw10982862429998695089 : Nat := 0
def Mine.hd.tw8525311486469308155 : Nat := 0
def Mine.hd.tw3135715607667815297 : Nat := 0
def Mine.hd.tw8138613913093828562 : Nat := 0
def Mine.hd.tw2724349444290961566 : Nat := 0
def Mine.hd.tw15786151642803260290 : Nat := 0
def Mine.hd.tw6411954120941647267 : Nat := 0
def Mine.hd.tw14321741261754214532 : Nat := 0
def Mine.hd.tw6812078589778635937 : Nat := 0
def Mine.hd.tw17880491280599437060 : Nat := 0
def Mine.hd.tw10792051664901133789 : Nat := 0
def Mine.hd.tw7196905495049281074 : Nat := 0
def Mine.hd.tw9345676750909349944 : Nat := 0
def Mine.hd.tw9889836942249193425 : Nat := 0
def Mine.hd.tw10925533708906225939 : Nat := 0
def Mine.hd.tw17714235663813219645 : Nat := 0
def Mine.hd.tw11368880539028453109 : Nat := 0
def Mine.hd.tw10614716105012338702 : Nat := 0
def Mine.hd.tw6019021122589006684 : Nat := 0
def Mine.hd.tw6897496351471272627 : Nat := 0
def Mine.hd.tw16007149819294483003 : Nat := 0
def Mine.hd.tw2973413373722649038 : Nat := 0
def Mine.hd.tw13402692960279336403 : Nat := 0
def Mine.hd.tw12334324136469568329 : Nat := 0
def Mine.hd.tw14546483683521519980 : Nat := 0
def Mine.hd.tw1997569388931296116 : Nat := 0
def Mine.hd.tw4481246472201632358 : Nat := 0
def Mine.hd.tw12796815769977120820 : Nat := 0
def Mine.hd.tw16092251289846633976 : Nat := 0
def Mine.hd.tw1102784415622132466 : Nat := 0
def Mine.hd.tw11319892378374348655 : Nat := 0
def Mine.hd.tw3452082135128663414 : Nat := 0
def Mine.hd.tw12121866750215393809 : Nat := 0
def Mine.hd.tw6009328277024004379 : Nat := 0
def Mine.hd.tw15846055309511109458 : Nat := 0
def Mine.hd.tw4086058157674990017 : Nat := 0
def Mine.hd.tw10209001540849217996 : Nat := 0
def Mine.hd.tw732814818866788690 : Nat := 0
def Mine.hd.tw14507039311653490641 : Nat := 0
def Mine.hd.tw9566141503761928105 : Nat := 0
def Mine.hd.tw10056622702259557463 : Nat := 0
def Mine.hd.tw3571134770919094901 : Nat := 0
def Mine.hd.tw10474916181686763327 : Nat := 0
def Mine.hd.tw16948642340420126643 : Nat := 0
def Mine.hd.tw14866905476427166414 : Nat := 0
def Mine.hd.tw1295340131588967884 : Nat := 0
def Mine.hd.tw4279577485771853979 : Nat := 0
def Mine.hd.tw6044407793676371706 : Nat := 0
def Mine.hd.tw7324712815017115486 : Nat := 0
def Mine.hd.tw15571853181326863494 : Nat := 0
def Mine.hd.tw15764078114090916407 : Nat := 0
def Mine.hd.tw4791233050080455655 : Nat := 0
def Mine.hd.tw3026830437788644666 : Nat := 0
def Mine.hd.tw8870699084537738914 : Nat := 0
def Mine.hd.tw1311267352011678965 : Nat := 0
def Mine.hd.tw2630073035006717432 : Nat := 0
def Mine.hd.tw6565313388684518780 : Nat := 0
def Mine.hd.tw6649317712208639151 : Nat := 0
def Mine.hd.tw10738598760838561130 : Nat := 0
def Mine.hd.tw15494543472105890087 : Nat := 0
def Mine.hd.tw9833680929496833193 : Nat := 0
def Mine.hd.tw3519046840211881166 : Nat := 0
def Mine.hd.tw13192474921225889277 : Nat := 0
def Mine.hd.tw18144800138896194923 : Nat := 0
def Mine.hd.tw7289634563603522867 : Nat := 0
def Mine.hd.tw7515135067208451136 : Nat := 0
def Mine.hd.tw16777196957282017032 : Nat := 0
def Mine.hd.tw5056691335951438648 : Nat := 0
def Mine.hd.tw14907484309736991765 : Nat := 0
def Mine.hd.tw5588392352776430542 : Nat := 0
def Mine.hd.tw13916100373298141393 : Nat := 0
def Mine.hd.tw17568486544692314898 : Nat := 0
def Mine.hd.tw6565654235681040016 : Nat := 0
def Mine.hd.tw4594224162026082142 : Nat := 0
def Mine.hd.tw7058284365228051235 : Nat := 0
def Mine.hd.tw14859483748293320462 : Nat := 0
def Mine.hd.tw14562085262976629575 : Nat := 0
def Mine.hd.tw12303274393671133821 : Nat := 0
def Mine.hd.tw5991430300370485588 : Nat := 0
def Mine.hd.tw10757452443647449178 : Nat := 0
def Mine.hd.tw3039998526598829958 : Nat := 0
def Mine.hd.tw16039824993472781790 : Nat := 0
def Mine.hd.tw3650960628870763488 : Nat := 0
def Mine.hd.tw4275282108206863653 : Nat := 0
def Mine.hd.tw3947710232987724695 : Nat := 0
def Mine.hd.tw9120999728284197611 : Nat := 0
def Mine.hd.tw1409312971732116557 : Nat := 0
def Mine.hd.tw8934143017859847078 : Nat := 0
def Mine.hd.tw14478148883734587675 : Nat := 0
def Mine.hd.tw1678445128465124528 : Nat := 0
def Mine.hd.tw11089078105164251343 : Nat := 0
def Mine.hd.tw8228950375871286339 : Nat := 0
def Mine.hd.tw3109861748172591687 : Nat := 0
def Mine.hd.tw11754176132448286083 : Nat := 0
def Mine.hd.tw16171809288044610508 : Nat := 0
def Mine.hd.tw10090067676359358454 : Nat := 0
def Mine.hd.tw3442329435671937591 : Nat := 0
def Mine.hd.tw7082855905992002993 : Nat := 0
def Mine.hd.tw4315991029959535628 : Nat := 0
def Mine.hd.tw11715181796007767841 : Nat := 0
def Mine.hd.tw5036846961687405229 : Nat := 0
def Mine.hd.tw14960593345356199642 : Nat := 0
def Mine.hd.tw17606422857730326317 : Nat := 0
def Mine.hd.tw17330945745186091897 : Nat := 0
def Mine.hd.tw17901334829092211166 : Nat := 0
def Mine.hd.tw17948085552500728524 : Nat := 0
def Mine.hd.tw3480954088277226078 : Nat := 0
def Mine.hd.tw11099374497321128792 : Nat := 0
def Mine.hd.tw2815220025927836654 : Nat := 0
def Mine.hd.tw11389486352061984695 : Nat := 0
def Mine.hd.tw17387473266821786944 : Nat := 0
def Mine.hd.tw10743916045514856203 : Nat := 0
def Mine.hd.tw6982297934935202809 : Nat := 0
def Mine.hd.tw11251137523995926341 : Nat := 0
def Mine.hd.tw16970440968685349367 : Nat := 0
def Mine.hd.tw15089522573102190283 : Nat := 0
def Mine.hd.tw18343703819029505601 : Nat := 0
def Mine.hd.tw11893437276241958245 : Nat := 0
def Mine.hd.tw13855881374063213867 : Nat := 0
def Mine.hd.tw1013155817946168525 : Nat := 0
def Mine.hd.tw13518370688599389936 : Nat := 0
def Mine.hd.tw6164396464334811476 : Nat := 0
def Mine.hd.tw1129884963351977449 : Nat := 0
def Mine.hd.tw17177331786930743035 : Nat := 0
def Mine.hd.tw17258206423299326598 : Nat := 0
def Mine.hd.tw758273949599710562 : Nat := 0
def Mine.hd.tw2391449824757734642 : Nat := 0
def Mine.hd.tw14560493823538711346 : Nat := 0
def Mine.hd.tw5781342201191254626 : Nat := 0
def Mine.hd.tw7510230149288206974 : Nat := 0
def Mine.hd.tw6528754448969337418 : Nat := 0
def Mine.hd.tw10216474801634566288 : Nat := 0
def Mine.hd.tw9741134391959003819 : Nat := 0
def Mine.hd.tw18293851220164018083 : Nat := 0
def Mine.hd.tw17047115858639842297 : Nat := 0
def Mine.hd.tw15527848837575444561 : Nat := 0
def Mine.hd.tw11117797201346649052 : Nat := 0
def Mine.hd.tw15508949281206285077 : Nat := 0
def Mine.hd.tw17062030032774818151 : Nat := 0
def Mine.hd.tw10111801491309104144 : Nat := 0
def Mine.hd.tw8428860471423672150 : Nat := 0
def Mine.hd.tw5732804406350252772 : Nat := 0
def Mine.hd.tw13372043803930879067 : Nat := 0
def Mine.hd.tw8716120427605611371 : Nat := 0
def Mine.hd.tw7540655947842036084 : Nat := 0
def Mine.hd.tw18093812233618175256 : Nat := 0
def Mine.hd.tw8226494294326810461 : Nat := 0
def Mine.hd.tw15673258824015622330 : Nat := 0
def Mine.hd.tw16432713993328977331 : Nat := 0
def Mine.hd.tw16649331688326792143 : Nat := 0
def Mine.hd.tw16091413853298234908 : Nat := 0
def Mine.hd.tw4856431653887292112 : Nat := 0
def Mine.hd.tw9499510787657705874 : Nat := 0
def Mine.hd.tw3008623586974134963 : Nat := 0
def Mine.hd.tw3381375190539634487 : Nat := 0
def Mine.hd.tw17681399029576232318 : Nat := 0
def Mine.hd.tw6555240042291301478 : Nat := 0
def Mine.hd.tw12070051907170230399 : Nat := 0
def Mine.hd.tw7494724483528729301 : Nat := 0
def Mine.hd.tw4297731678662094536 : Nat := 0
def Mine.hd.tw8671608845466749128 : Nat := 0
def Mine.hd.tw15416985209724490359 : Nat := 0
def Mine.hd.tw9960721518486171458 : Nat := 0
def Mine.hd.tw11232374478483605306 : Nat := 0
def Mine.hd.tw16904818350239718627 : Nat := 0
def Mine.hd.tw17574625026820762457 : Nat := 0
def Mine.hd.tw6082411064634330575 : Nat := 0
def Mine.hd.tw3919010098100093602 : Nat := 0
def Mine.hd.tw12936449754285732098 : Nat := 0
def Mine.hd.tw6060742912462422084 : Nat := 0
def Mine.hd.tw16412773359747925120 : Nat := 0
def Mine.hd.tw5343241284826551009 : Nat := 0
def Mine.hd.tw13181700845877081190 : Nat := 0
def Mine.hd.tw15595854959937240912 : Nat := 0
def Mine.hd.tw16868993833207775613 : Nat := 0
def Mine.hd.tw17447410573909459338 : Nat := 0
def Mine.hd.tw2887051446865420828 : Nat := 0
def Mine.hd.tw7023726343779634624 : Nat := 0
def Mine.hd.tw3759623122121258479 : Nat := 0
def Mine.hd.tw5511420028821071320 : Nat := 0
def Mine.hd.tw17542962492245011380 : Nat := 0
def Mine.hd.tw5961118342813265553 : Nat := 0
def Mine.hd.tw13919464512627920130 : Nat := 0
def Mine.hd.tw10784824025267889561 : Nat := 0
def Mine.hd.tw15166520500009309586 : Nat := 0
def Mine.hd.tw10170382586518783626 : Nat := 0
def Mine.hd.tw6990203504111849199 : Nat := 0
def Mine.hd.tw16259696140248634718 : Nat := 0
def Mine.hd.tw9673543361469618366 : Nat := 0
def Mine.hd.tw5657824000916062451 : Nat := 0
def Mine.hd.tw1222794163293265305 : Nat := 0
def Mine.hd.tw12271959270614036898 : Nat := 0
def Mine.hd.tw5902613922787404954 : Nat := 0
def Mine.hd.tw15103106377680225435 : Nat := 0
def Mine.hd.tw13790719812936386609 : Nat := 0
def Mine.hd.tw15042006015671813226 : Nat := 0
def Mine.hd.tw2216850387143573719 : Nat := 0
def Mine.hd.tw6407587892757256292 : Nat := 0
def Mine.hd.tw978945382295711627 : Nat := 0
def Mine.hd.tw4402725079659364252 : Nat := 0
def Mine.hd.tw11465210709893060100 : Nat := 0
def Mine.hd.tw11917015161858427179 : Nat := 0
def Mine.hd.tw11953376511379268794 : Nat := 0
def Mine.hd.tw17054507655720011243 : Nat := 0
def Mine.hd.tw8959176491354863721 : Nat := 0
def Mine.hd.tw15642763164714097627 : Nat := 0
def Mine.hd.tw5130813555471234732 : Nat := 0
def Mine.hd.tw14400467628812073631 : Nat := 0
def Mine.hd.tw4172343393113369950 : Nat := 0
def Mine.hd.tw17893044597097874663 : Nat := 0
def Mine.hd.tw2386827423013361158 : Nat := 0
def Mine.hd.tw10246146449241189800 : Nat := 0
def Mine.hd.tw2274498078352570744 : Nat := 0
def Mine.hd.tw7366208706002141716 : Nat := 0
def Mine.hd.tw5190246844813560578 : Nat := 0
def Mine.hd.tw3789350110615891812 : Nat := 0
def Mine.hd.tw15837987909243819085 : Nat := 0
def Mine.hd.tw1580110805410547442 : Nat := 0
def Mine.hd.tw402640490398009360 : Nat := 0
def Mine.hd.tw11631947586910100387 : Nat := 0
def Mine.hd.tw11210553801493137410 : Nat := 0
def Mine.hd.tw1836080755315867724 : Nat := 0
def Mine.hd.tw1865391376527767206 : Nat := 0
def Mine.hd.tw11128854368766332075 : Nat := 0
def Mine.hd.tw17711083657039698284 : Nat := 0
def Mine.hd.tw5608270528595127837 : Nat := 0
def Mine.hd.tw18241275227582772068 : Nat := 0
def Mine.hd.tw7519716089354478335 : Nat := 0
def Mine.hd.tw6830512106363814048 : Nat := 0
def Mine.hd.tw9345929723534960622 : Nat := 0
def Mine.hd.tw461538923250603899 : Nat := 0
def Mine.hd.tw18103342009636024947 : Nat := 0
def Mine.hd.tw11402939732021071671 : Nat := 0
def Mine.hd.tw13866372431405929976 : Nat := 0
def Mine.hd.tw2999033326186475339 : Nat := 0
def Mine.hd.tw13277076834127875243 : Nat := 0
def Mine.hd.tw13368278939475635651 : Nat := 0
def Mine.hd.tw17672654358674132775 : Nat := 0
def Mine.hd.tw12629568148972539762 : Nat := 0
def Mine.hd.tw15043168886218598503 : Nat := 0
def Mine.hd.tw14457593812595234344 : Nat := 0
def Mine.hd.tw16473244170626142550 : Nat := 0
def Mine.hd.tw9430268157657104642 : Nat := 0
def Mine.hd.tw12901994302517312135 : Nat := 0
def Mine.hd.tw6598312636042714100 : Nat := 0
def Mine.hd.tw14168552714766633299 : Nat := 0
def Mine.hd.tw16299908979028503884 : Nat := 0
def Mine.hd.tw13903934854276604550 : Nat := 0
def Mine.hd.tw13225837485096350037 : Nat := 0
def Mine.hd.tw7914949630228597729 : Nat := 0
def Mine.hd.tw5278057926702712004 : Nat := 0
def Mine.hd.tw3259873300814134281 : Nat := 0
def Mine.hd.tw11213053971927718326 : Nat := 0
def Mine.hd.tw5567388512258382067 : Nat := 0
def Mine.hd.tw6820862383352777685 : Nat := 0
def Mine.hd.tw1439246655266547700 : Nat := 0
def Mine.hd.tw15852365999677673905 : Nat := 0
def Mine.hd.tw12023040214023829324 : Nat := 0
def Mine.hd.tw4870687313549177768 : Nat := 0
def Mine.hd.tw4377701919642642989 : Nat := 0
def Mine.hd.tw991583007596301734 : Nat := 0
def Mine.hd.tw9748044761591592747 : Nat := 0
def Mine.hd.tw5148922909946612681 : Nat := 0
def Mine.hd.tw5363564295841288755 : Nat := 0
def Mine.hd.tw3915529967508079626 : Nat := 0
def Mine.hd.tw16634568088961857937 : Nat := 0
def Mine.hd.tw9788025985476950048 : Nat := 0
def Mine.hd.tw6767318904944593275 : Nat := 0
def Mine.hd.tw16056359734778111409 : Nat := 0
def Mine.hd.tw7296583596125217682 : Nat := 0
def Mine.hd.tw14727110085682223627 : Nat := 0
def Mine.hd.tw7736498282833369771 : Nat := 0
theorem Mine.hd : PySem.Challenge.rw_pb0188_01.Holds := by
  w_on
  o_law
  o_head (kHook Mine.K0 [2, 3, 15, 17, 18, 20, 21, 22, 25, 30, 31, 32, 34, 35, 37, 38, 39, 41, 42, 44, 45, 46, 47, 48, 49, 52, 59, 60, 61, 64, 71, 72, 73, 76, 78, 79, 81, 82, 83, 85, 86, 88, 89, 90, 92, 93, 95, 96, 104, 105, 107, 108, 110, 111, 112, 114, 115, 117, 118, 119, 121, 122, 124, 125, 126, 128, 129, 131, 132, 133, 135, 136, 138, 139, 140, 142, 143, 145, 146, 147, 149, 150, 152, 153, 154, 156, 157, 159, 160, 161, 164, 165, 166, 169, 170, 171, 173, 174, 176, 177, 178, 179, 180, 181, 182, 185, 187, 188, 190, 191, 192, 200, 202, 203, 205, 206, 207, 209, 210, 212, 213, 214, 215, 216, 217, 218, 221, 223, 224, 226, 227, 228, 230, 231, 233, 234, 235, 237, 238, 240, 241, 242, 245, 246, 247, 250, 251, 252, 255, 256, 257, 259, 260, 262, 263, 264, 266, 267, 269, 270, 271, 273, 274, 276, 277, 278, 280, 281, 283, 284, 285, 287, 288, 290, 291, 292, 294, 295, 297, 298, 299, 302, 303, 304, 306, 307, 309, 310, 311, 314, 315, 316, 317, 319, 320, 322, 323, 324, 327, 328, 329, 332, 333, 334, 337, 338, 339, 341, 342, 344, 345, 346, 348, 349, 351, 352, 353, 356, 357, 358, 361, 362] (fun _ => by kernel_rfl))
  (case hw => w_witness2)
  intro w s₀ s₁ mg mb G Y fa o pm cd doc dV kV ho hd hcd hD hmg hg args vals as hpre hlay hrd hwl hlo
  have KX := kIn_of Y
  refine Ground.open G ?_
  intro T B D TE TW
  have e362 : mg "law" = some (.ref 362) := mg_of KX T.g (by kernel_rfl)
  have efa : fa = 362 := by
    have := hmg.symm.trans e362
    cases this; rfl
  subst efa
  have tg := T.g
  have tb := T.b
  have tn := T.nolimit
  have ti := T.builtins
  clear hd hcd hD Y B D TE TW G ho T hmg e362
  wrow_args hpre hlay hrd hwl hlo
  rename_i hL _ _ _ hI _ _ _
  exact Mine.fin w s₀ s₁ mg mb KX tg tb tn ti hg hL hI (by have := hI.length; omega) (fun h' tk keep => GoodW.toG ⟨.inl ⟨_, .bool true, [], rfl, fun _ => rfl, .bool true, (by kernel_rfl), fun _ => ⟨.nil, by simp⟩⟩, keep, rfl, hg⟩)
end
theorem PySem.Challenge.cw_pb0188_01_holds : PySem.Challenge.rw_pb0188_01.Holds := by
  exact Mine.hd
