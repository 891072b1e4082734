import PyProof.Rows.All
import Wide.All
import OpenK.AllK
import Wide.FinOn
import PySem.Challenge.RW_pq0222_01
set_option Elab.async false
section
section
open PySem PySem.W PyProof.Rows
set_option maxRecDepth 100000
set_option maxHeartbeats 8000000
set_option linter.unusedVariables false
namespace Mine.hd
abbrev pw : Program := PySem.Challenge.rw_pq0222_01.row.prog
/-- a def of the top's, by its place -/
noncomputable def fnAt (i : Nat) : Option (Arguments × List Stmt × Scope) := match pw.main.body[i]? with
  | some (.FunctionDef (args := a) (body := b) (scope := s) ..) => some (a, b, s)
  | _ => none
/-- a def of a class's, by its place -/
noncomputable def methAt (i j : Nat) : Option (Arguments × List Stmt × Scope) := match pw.main.body[i]? with
  | some (.ClassDef (body := cb) ..) => (match cb[j]? with
    | some (.FunctionDef (args := a) (body := b) (scope := s) ..) => some (a, b, s)
    | _ => none)
  | _ => none
noncomputable def mkFn {x : Option (Arguments × List Stmt × Scope)} {a : Arguments} {b : List Stmt} {s : Scope} (_ : x = some (a, b, s)) (f : Arguments → List Stmt → Scope → Obj) : Obj := f a b s
/-- the text but for the rows that name its parts -/
noncomputable def view_39 : Program := { pw with main := { pw.main with body := ((pw.main.body.zipIdx).filter fun x => !([0, 5, 11, 24] : List Nat).contains x.2).map (·.1) } }
noncomputable def k2 (P : Params) : Obj := { cls := Value.none, data := Data.dict #[{ hash := PyData.keyHash P (Str.ofString "type.__subclasses__.Exception.0"), key := Value.str (Str.ofString "type.__subclasses__.Exception.0") 217, val := Value.int 32 0 }, { hash := PyData.keyHash P (Str.ofString "type.__subclasses__.Exception.n"), key := Value.str (Str.ofString "type.__subclasses__.Exception.n") 218, val := Value.int 1 0 }] 2 }
noncomputable def k3 (P : Params) : Obj := { cls := Value.type "dict", data := Data.dict #[{ hash := PyData.keyHash P (Str.ofString "__name__"), key := Value.str (Str.ofString "__name__") 165, val := Value.str (Str.ofString "law_pq0222_01") 382 }, { hash := PyData.keyHash P (Str.ofString "__doc__"), key := Value.str (Str.ofString "__doc__") 166, val := Value.none }, { hash := PyData.keyHash P (Str.ofString "__package__"), key := Value.str (Str.ofString "__package__") 167, val := Value.none }, { hash := PyData.keyHash P (Str.ofString "__loader__"), key := Value.str (Str.ofString "__loader__") 168, val := Value.builtin "__main__.__loader__#opaque" }, { hash := PyData.keyHash P (Str.ofString "__spec__"), key := Value.str (Str.ofString "__spec__") 169, val := Value.none }, { hash := PyData.keyHash P (Str.ofString "__annotations__"), key := Value.str (Str.ofString "__annotations__") 170, val := Value.ref 6 }, { hash := PyData.keyHash P (Str.ofString "__builtins__"), key := Value.str (Str.ofString "__builtins__") 171, val := Value.ref 4 }, { hash := PyData.keyHash P (Str.ofString "__file__"), key := Value.str (Str.ofString "__file__") 173, val := Value.str (Str.ofString "/claim/cut.py") 172 }, { hash := PyData.keyHash P (Str.ofString "__cached__"), key := Value.str (Str.ofString "__cached__") 174, val := Value.none }, { hash := PyData.keyHash P (Str.ofString "ChanError"), key := Value.str (Str.ofString "ChanError") 220, val := Value.ref 32 }, { hash := PyData.keyHash P (Str.ofString "GoPanic"), key := Value.str (Str.ofString "GoPanic") 245, val := Value.ref 52 }, { hash := PyData.keyHash P (Str.ofString "RUNTIME_ERROR"), key := Value.str (Str.ofString "RUNTIME_ERROR") 248, val := Value.ref 55 }, { hash := PyData.keyHash P (Str.ofString "runtime_panic"), key := Value.str (Str.ofString "runtime_panic") 255, val := Value.ref 62 }, { hash := PyData.keyHash P (Str.ofString "LOOSE_TAGS"), key := Value.str (Str.ofString "LOOSE_TAGS") 261, val := Value.ref 63 }, { hash := PyData.keyHash P (Str.ofString "value_tag"), key := Value.str (Str.ofString "value_tag") 268, val := Value.ref 70 }, { hash := PyData.keyHash P (Str.ofString "faces_equal"), key := Value.str (Str.ofString "faces_equal") 277, val := Value.ref 77 }, { hash := PyData.keyHash P (Str.ofString "values_equal"), key := Value.str (Str.ofString "values_equal") 289, val := Value.ref 84 }, { hash := PyData.keyHash P (Str.ofString "value_key"), key := Value.str (Str.ofString "value_key") 295, val := Value.ref 89 }, { hash := PyData.keyHash P (Str.ofString "WRONG_RUNE"), key := Value.str (Str.ofString "WRONG_RUNE") 299, val := Value.int 65533 298 }, { hash := PyData.keyHash P (Str.ofString "LAST_RUNE"), key := Value.str (Str.ofString "LAST_RUNE") 301, val := Value.int 1114111 300 }, { hash := PyData.keyHash P (Str.ofString "FIRST_HALF"), key := Value.str (Str.ofString "FIRST_HALF") 303, val := Value.int 55296 302 }, { hash := PyData.keyHash P (Str.ofString "LAST_HALF"), key := Value.str (Str.ofString "LAST_HALF") 305, val := Value.int 57343 304 }, { hash := PyData.keyHash P (Str.ofString "LONG_HEADS"), key := Value.str (Str.ofString "LONG_HEADS") 315, val := Value.ref 93 }, { hash := PyData.keyHash P (Str.ofString "is_right_rune"), key := Value.str (Str.ofString "is_right_rune") 322, val := Value.ref 100 }, { hash := PyData.keyHash P (Str.ofString "head_of"), key := Value.str (Str.ofString "head_of") 333, val := Value.ref 107 }, { hash := PyData.keyHash P (Str.ofString "rune_at"), key := Value.str (Str.ofString "rune_at") 347, val := Value.ref 114 }, { hash := PyData.keyHash P (Str.ofString "runes_of"), key := Value.str (Str.ofString "runes_of") 358, val := Value.ref 121 }, { hash := PyData.keyHash P (Str.ofString "rune_places"), key := Value.str (Str.ofString "rune_places") 369, val := Value.ref 128 }, { hash := PyData.keyHash P (Str.ofString "octets_of_rune"), key := Value.str (Str.ofString "octets_of_rune") 375, val := Value.ref 133 }, { hash := PyData.keyHash P (Str.ofString "octets_of"), key := Value.str (Str.ofString "octets_of") 381, val := Value.ref 138 }, { hash := PyData.keyHash P (Str.ofString "_law_pool"), key := Value.str (Str.ofString "_law_pool") 394, val := Value.ref 145 }, { hash := PyData.keyHash P (Str.ofString "_law_take"), key := Value.str (Str.ofString "_law_take") 403, val := Value.ref 152 }, { hash := PyData.keyHash P (Str.ofString "_law_one"), key := Value.str (Str.ofString "_law_one") 411, val := Value.ref 159 }, { hash := PyData.keyHash P (Str.ofString "_law_may"), key := Value.str (Str.ofString "_law_may") 418, val := Value.ref 166 }, { hash := PyData.keyHash P (Str.ofString "_law_leaf"), key := Value.str (Str.ofString "_law_leaf") 426, val := Value.ref 173 }, { hash := PyData.keyHash P (Str.ofString "_law_value"), key := Value.str (Str.ofString "_law_value") 432, val := Value.ref 178 }, { hash := PyData.keyHash P (Str.ofString "_law_loose"), key := Value.str (Str.ofString "_law_loose") 440, val := Value.ref 185 }, { hash := PyData.keyHash P (Str.ofString "_law_places"), key := Value.str (Str.ofString "_law_places") 446, val := Value.ref 190 }, { hash := PyData.keyHash P (Str.ofString "_law_put"), key := Value.str (Str.ofString "_law_put") 456, val := Value.ref 197 }, { hash := PyData.keyHash P (Str.ofString "_law_sort"), key := Value.str (Str.ofString "_law_sort") 463, val := Value.ref 204 }, { hash := PyData.keyHash P (Str.ofString "_law_alike"), key := Value.str (Str.ofString "_law_alike") 474, val := Value.ref 211 }, { hash := PyData.keyHash P (Str.ofString "_law_called"), key := Value.str (Str.ofString "_law_called") 483, val := Value.ref 218 }, { hash := PyData.keyHash P (Str.ofString "_law_pair_right"), key := Value.str (Str.ofString "_law_pair_right") 489, val := Value.ref 223 }, { hash := PyData.keyHash P (Str.ofString "_law_values_right"), key := Value.str (Str.ofString "_law_values_right") 504, val := Value.ref 230 }, { hash := PyData.keyHash P (Str.ofString "_law_width"), key := Value.str (Str.ofString "_law_width") 511, val := Value.ref 237 }, { hash := PyData.keyHash P (Str.ofString "_law_runes_right"), key := Value.str (Str.ofString "_law_runes_right") 517, val := Value.ref 242 }, { hash := PyData.keyHash P (Str.ofString "law"), key := Value.str (Str.ofString "law") 525, val := Value.ref 249 }] 47 }
noncomputable def k15 (P : Params) : Obj := { cls := Value.type "tuple", data := Data.seq #[Value.type "Exception"] }
noncomputable def k22 (P : Params) : Obj := { cls := Value.type "tuple", data := Data.seq #[Value.int 0 201] }
noncomputable def k23 (P : Params) : Obj := { cls := Value.type "tuple", data := Data.seq #[] }
noncomputable def k25 (P : Params) : Obj := { cls := Value.type "tuple", data := Data.seq #[Value.str (Str.ofString "self") 205, Value.str (Str.ofString "message") 206, Value.str (Str.ofString "spot") 207] }
noncomputable def k26 (P : Params) : Obj := { cls := Value.type "tuple", data := Data.seq #[] }
noncomputable def k28 (P : Params) : Obj := { cls := Value.type "code", data := Data.fields #[Value.str (Str.ofString "__init__") 202, Value.str (Str.ofString "ChanError.__init__") 203, Value.str (Str.ofString "/claim/cut.py") 204, Value.int 4 0, Value.int 3 0, Value.int 0 0, Value.int 0 0, Value.int 3 0, Value.ref 23, Value.bool true, Value.int 181 0, Value.ref 24, Value.none, Value.ref 25, Value.ref 26, Value.ref 27, Value.int 208 0, Value.int 4 0, Value.str (Str.ofString "/claim/cut.py") 209] }
noncomputable def k29 : Obj := mkFn (x := (methAt 1 0)) rfl fun a b s => { cls := Value.type "function", data := Data.func { name := Str.ofString "__init__", qualname := Str.ofString "ChanError.__init__", params := a, body := FuncBody.stmts b, scope := s, globals := 3, closure := [], defaults := Value.ref 22, kwdefaults := Value.none, pyModule := Value.str (Str.ofString "chancore.errors") 187, code := Value.ref 28 } }
noncomputable def k30 (P : Params) : Obj := { cls := Value.type "tuple", data := Data.seq #[Value.str (Str.ofString "message") 211, Value.str (Str.ofString "spot") 212] }
noncomputable def k31 (P : Params) : Obj := { cls := Value.type "dict", data := Data.dict #[{ hash := PyData.keyHash P (Str.ofString "__module__"), key := Value.str (Str.ofString "__module__") 196, val := Value.str (Str.ofString "chancore.errors") 187 }, { hash := PyData.keyHash P (Str.ofString "__firstlineno__"), key := Value.str (Str.ofString "__firstlineno__") 200, val := Value.int 2 199 }, { hash := PyData.keyHash P (Str.ofString "__init__"), key := Value.str (Str.ofString "__init__") 210, val := Value.ref 29 }, { hash := PyData.keyHash P (Str.ofString "__static_attributes__"), key := Value.str (Str.ofString "__static_attributes__") 213, val := Value.ref 30 }, { hash := PyData.keyHash P (Str.ofString "__weakref__"), key := Value.str (Str.ofString "__weakref__") 215, val := Value.ref 33 }, { hash := PyData.keyHash P (Str.ofString "__doc__"), key := Value.str (Str.ofString "__doc__") 216, val := Value.none }] 3 }
noncomputable def k32 (P : Params) : Obj := { cls := Value.type "type", data := Data.cls { name := Str.ofString "ChanError", bases := [Value.type "Exception"], mro := [Value.ref 32, Value.type "Exception", Value.type "BaseException", Value.type "object"], ns := 31, qualname := Str.ofString "ChanError", subclasses := [Value.ref 52] }, slots := #[some (Value.ref 15), none, some (Value.str (Str.ofString "ChanError") 189), some (Value.str (Str.ofString "ChanError") 197), some (Value.builtin "Exception.__new__"), some (Value.bool true)] }
noncomputable def k33 (P : Params) : Obj := { cls := Value.type "getset_descriptor", data := Data.fields #[Value.str (Str.ofString "__weakref__") 214, Value.ref 32, Value.builtin "ExceptionGroup.__weakref__", Value.none] }
noncomputable def k36 (P : Params) : Obj := { cls := Value.type "tuple", data := Data.seq #[Value.ref 32] }
noncomputable def k43 (P : Params) : Obj := { cls := Value.type "tuple", data := Data.seq #[] }
noncomputable def k45 (P : Params) : Obj := { cls := Value.type "tuple", data := Data.seq #[Value.str (Str.ofString "self") 236, Value.str (Str.ofString "value") 237] }
noncomputable def k46 (P : Params) : Obj := { cls := Value.type "tuple", data := Data.seq #[] }
noncomputable def k48 (P : Params) : Obj := { cls := Value.type "code", data := Data.fields #[Value.str (Str.ofString "__init__") 233, Value.str (Str.ofString "GoPanic.__init__") 234, Value.str (Str.ofString "/claim/cut.py") 235, Value.int 10 0, Value.int 2 0, Value.int 0 0, Value.int 0 0, Value.int 3 0, Value.ref 43, Value.bool true, Value.int 181 0, Value.ref 44, Value.none, Value.ref 45, Value.ref 46, Value.ref 47, Value.int 238 0, Value.int 10 0, Value.str (Str.ofString "/claim/cut.py") 239] }
noncomputable def k49 : Obj := mkFn (x := (methAt 2 0)) rfl fun a b s => { cls := Value.type "function", data := Data.func { name := Str.ofString "__init__", qualname := Str.ofString "GoPanic.__init__", params := a, body := FuncBody.stmts b, scope := s, globals := 3, closure := [], defaults := Value.none, kwdefaults := Value.none, pyModule := Value.str (Str.ofString "chancore.errors") 187, code := Value.ref 48 } }
noncomputable def k50 (P : Params) : Obj := { cls := Value.type "tuple", data := Data.seq #[Value.str (Str.ofString "value") 241] }
noncomputable def k51 (P : Params) : Obj := { cls := Value.type "dict", data := Data.dict #[{ hash := PyData.keyHash P (Str.ofString "__module__"), key := Value.str (Str.ofString "__module__") 228, val := Value.str (Str.ofString "chancore.errors") 187 }, { hash := PyData.keyHash P (Str.ofString "__firstlineno__"), key := Value.str (Str.ofString "__firstlineno__") 232, val := Value.int 8 231 }, { hash := PyData.keyHash P (Str.ofString "__init__"), key := Value.str (Str.ofString "__init__") 240, val := Value.ref 49 }, { hash := PyData.keyHash P (Str.ofString "__static_attributes__"), key := Value.str (Str.ofString "__static_attributes__") 242, val := Value.ref 50 }, { hash := PyData.keyHash P (Str.ofString "__doc__"), key := Value.str (Str.ofString "__doc__") 243, val := Value.none }] 2 }
noncomputable def k52 (P : Params) : Obj := { cls := Value.type "type", data := Data.cls { name := Str.ofString "GoPanic", bases := [Value.ref 32], mro := [Value.ref 52, Value.ref 32, Value.type "Exception", Value.type "BaseException", Value.type "object"], ns := 51, qualname := Str.ofString "GoPanic" }, slots := #[some (Value.ref 36), none, some (Value.str (Str.ofString "GoPanic") 221), some (Value.str (Str.ofString "GoPanic") 229), some (Value.builtin "Exception.__new__"), some (Value.bool true)] }
noncomputable def k55 (P : Params) : Obj := { cls := Value.type "tuple", data := Data.seq #[Value.str (Str.ofString "named") 246, Value.str (Str.ofString "runtime.Error") 247] }
noncomputable def k56 (P : Params) : Obj := { cls := Value.type "tuple", data := Data.seq #[] }
noncomputable def k58 (P : Params) : Obj := { cls := Value.type "tuple", data := Data.seq #[Value.str (Str.ofString "text") 252] }
noncomputable def k59 (P : Params) : Obj := { cls := Value.type "tuple", data := Data.seq #[] }
noncomputable def k61 (P : Params) : Obj := { cls := Value.type "code", data := Data.fields #[Value.str (Str.ofString "runtime_panic") 249, Value.str (Str.ofString "runtime_panic") 250, Value.str (Str.ofString "/claim/cut.py") 251, Value.int 14 0, Value.int 1 0, Value.int 0 0, Value.int 0 0, Value.int 3 0, Value.ref 56, Value.bool true, Value.int 181 0, Value.ref 57, Value.none, Value.ref 58, Value.ref 59, Value.ref 60, Value.int 253 0, Value.int 14 0, Value.str (Str.ofString "/claim/cut.py") 254] }
noncomputable def k62 : Obj := mkFn (x := (fnAt 4)) rfl fun a b s => { cls := Value.type "function", data := Data.func { name := Str.ofString "runtime_panic", qualname := Str.ofString "runtime_panic", params := a, body := FuncBody.stmts b, scope := s, globals := 3, closure := [], defaults := Value.none, kwdefaults := Value.none, pyModule := Value.str (Str.ofString "chancore.errors") 187, code := Value.ref 61 } }
noncomputable def k63 (P : Params) : Obj := { cls := Value.type "tuple", data := Data.seq #[Value.str (Str.ofString "slice") 258, Value.str (Str.ofString "map") 259, Value.str (Str.ofString "func") 260] }
noncomputable def k64 (P : Params) : Obj := { cls := Value.type "tuple", data := Data.seq #[] }
noncomputable def k66 (P : Params) : Obj := { cls := Value.type "tuple", data := Data.seq #[Value.str (Str.ofString "value") 265] }
noncomputable def k67 (P : Params) : Obj := { cls := Value.type "tuple", data := Data.seq #[] }
noncomputable def k69 (P : Params) : Obj := { cls := Value.type "code", data := Data.fields #[Value.str (Str.ofString "value_tag") 262, Value.str (Str.ofString "value_tag") 263, Value.str (Str.ofString "/claim/cut.py") 264, Value.int 18 0, Value.int 1 0, Value.int 0 0, Value.int 0 0, Value.int 3 0, Value.ref 64, Value.bool true, Value.int 181 0, Value.ref 65, Value.none, Value.ref 66, Value.ref 67, Value.ref 68, Value.int 266 0, Value.int 18 0, Value.str (Str.ofString "/claim/cut.py") 267] }
noncomputable def k70 : Obj := mkFn (x := (fnAt 7)) rfl fun a b s => { cls := Value.type "function", data := Data.func { name := Str.ofString "value_tag", qualname := Str.ofString "value_tag", params := a, body := FuncBody.stmts b, scope := s, globals := 3, closure := [], defaults := Value.none, kwdefaults := Value.none, pyModule := Value.str (Str.ofString "chancore.values") 256, code := Value.ref 69 } }
noncomputable def k71 (P : Params) : Obj := { cls := Value.type "tuple", data := Data.seq #[] }
noncomputable def k73 (P : Params) : Obj := { cls := Value.type "tuple", data := Data.seq #[Value.str (Str.ofString "one") 272, Value.str (Str.ofString "other") 273, Value.str (Str.ofString "may_compare") 274] }
noncomputable def k74 (P : Params) : Obj := { cls := Value.type "tuple", data := Data.seq #[] }
noncomputable def k76 (P : Params) : Obj := { cls := Value.type "code", data := Data.fields #[Value.str (Str.ofString "faces_equal") 269, Value.str (Str.ofString "faces_equal") 270, Value.str (Str.ofString "/claim/cut.py") 271, Value.int 26 0, Value.int 3 0, Value.int 0 0, Value.int 0 0, Value.int 3 0, Value.ref 71, Value.bool true, Value.int 181 0, Value.ref 72, Value.none, Value.ref 73, Value.ref 74, Value.ref 75, Value.int 275 0, Value.int 26 0, Value.str (Str.ofString "/claim/cut.py") 276] }
noncomputable def k77 : Obj := mkFn (x := (fnAt 8)) rfl fun a b s => { cls := Value.type "function", data := Data.func { name := Str.ofString "faces_equal", qualname := Str.ofString "faces_equal", params := a, body := FuncBody.stmts b, scope := s, globals := 3, closure := [], defaults := Value.none, kwdefaults := Value.none, pyModule := Value.str (Str.ofString "chancore.values") 256, code := Value.ref 76 } }
noncomputable def k78 (P : Params) : Obj := { cls := Value.type "tuple", data := Data.seq #[] }
noncomputable def k80 (P : Params) : Obj := { cls := Value.type "tuple", data := Data.seq #[Value.str (Str.ofString "one") 281, Value.str (Str.ofString "other") 282, Value.str (Str.ofString "may_compare") 283, Value.str (Str.ofString "tag") 284, Value.str (Str.ofString "a") 285, Value.str (Str.ofString "b") 286] }
noncomputable def k81 (P : Params) : Obj := { cls := Value.type "tuple", data := Data.seq #[] }
noncomputable def k83 (P : Params) : Obj := { cls := Value.type "code", data := Data.fields #[Value.str (Str.ofString "values_equal") 278, Value.str (Str.ofString "values_equal") 279, Value.str (Str.ofString "/claim/cut.py") 280, Value.int 32 0, Value.int 3 0, Value.int 0 0, Value.int 0 0, Value.int 3 0, Value.ref 78, Value.bool true, Value.int 181 0, Value.ref 79, Value.none, Value.ref 80, Value.ref 81, Value.ref 82, Value.int 287 0, Value.int 32 0, Value.str (Str.ofString "/claim/cut.py") 288] }
noncomputable def k84 : Obj := mkFn (x := (fnAt 9)) rfl fun a b s => { cls := Value.type "function", data := Data.func { name := Str.ofString "values_equal", qualname := Str.ofString "values_equal", params := a, body := FuncBody.stmts b, scope := s, globals := 3, closure := [], defaults := Value.none, kwdefaults := Value.none, pyModule := Value.str (Str.ofString "chancore.values") 256, code := Value.ref 83 } }
noncomputable def k85 (P : Params) : Obj := { cls := Value.type "tuple", data := Data.seq #[] }
noncomputable def k88 (P : Params) : Obj := { cls := Value.type "code", data := Data.fields #[Value.str (Str.ofString "value_key") 290, Value.str (Str.ofString "value_key") 291, Value.str (Str.ofString "/claim/cut.py") 292, Value.int 46 0, Value.int 2 0, Value.int 0 0, Value.int 0 0, Value.int 3 0, Value.ref 85, Value.bool true, Value.int 181 0, Value.ref 86, Value.none, Value.none, Value.none, Value.ref 87, Value.int 293 0, Value.int 46 0, Value.str (Str.ofString "/claim/cut.py") 294] }
noncomputable def k89 : Obj := mkFn (x := (fnAt 10)) rfl fun a b s => { cls := Value.type "function", data := Data.func { name := Str.ofString "value_key", qualname := Str.ofString "value_key", params := a, body := FuncBody.stmts b, scope := s, globals := 3, closure := [], defaults := Value.none, kwdefaults := Value.none, pyModule := Value.str (Str.ofString "chancore.values") 256, code := Value.ref 88 } }
noncomputable def k90 (P : Params) : Obj := { cls := Value.type "tuple", data := Data.seq #[Value.int 192 306, Value.int 223 307, Value.int 128 308] }
noncomputable def k91 (P : Params) : Obj := { cls := Value.type "tuple", data := Data.seq #[Value.int 224 309, Value.int 239 310, Value.int 2048 311] }
noncomputable def k92 (P : Params) : Obj := { cls := Value.type "tuple", data := Data.seq #[Value.int 240 312, Value.int 247 313, Value.int 65536 314] }
noncomputable def k93 (P : Params) : Obj := { cls := Value.type "tuple", data := Data.seq #[Value.ref 90, Value.ref 91, Value.ref 92] }
noncomputable def k94 (P : Params) : Obj := { cls := Value.type "tuple", data := Data.seq #[] }
noncomputable def k96 (P : Params) : Obj := { cls := Value.type "tuple", data := Data.seq #[Value.str (Str.ofString "rune") 319] }
noncomputable def k97 (P : Params) : Obj := { cls := Value.type "tuple", data := Data.seq #[] }
noncomputable def k99 (P : Params) : Obj := { cls := Value.type "code", data := Data.fields #[Value.str (Str.ofString "is_right_rune") 316, Value.str (Str.ofString "is_right_rune") 317, Value.str (Str.ofString "/claim/cut.py") 318, Value.int 63 0, Value.int 1 0, Value.int 0 0, Value.int 0 0, Value.int 3 0, Value.ref 94, Value.bool true, Value.int 181 0, Value.ref 95, Value.none, Value.ref 96, Value.ref 97, Value.ref 98, Value.int 320 0, Value.int 63 0, Value.str (Str.ofString "/claim/cut.py") 321] }
noncomputable def k100 : Obj := mkFn (x := (fnAt 17)) rfl fun a b s => { cls := Value.type "function", data := Data.func { name := Str.ofString "is_right_rune", qualname := Str.ofString "is_right_rune", params := a, body := FuncBody.stmts b, scope := s, globals := 3, closure := [], defaults := Value.none, kwdefaults := Value.none, pyModule := Value.str (Str.ofString "chancore.texts") 296, code := Value.ref 99 } }
noncomputable def k101 (P : Params) : Obj := { cls := Value.type "tuple", data := Data.seq #[] }
noncomputable def k103 (P : Params) : Obj := { cls := Value.type "tuple", data := Data.seq #[Value.str (Str.ofString "octet") 326, Value.str (Str.ofString "many") 327, Value.str (Str.ofString "low") 328, Value.str (Str.ofString "high") 329, Value.str (Str.ofString "least") 330] }
noncomputable def k104 (P : Params) : Obj := { cls := Value.type "tuple", data := Data.seq #[] }
noncomputable def k106 (P : Params) : Obj := { cls := Value.type "code", data := Data.fields #[Value.str (Str.ofString "head_of") 323, Value.str (Str.ofString "head_of") 324, Value.str (Str.ofString "/claim/cut.py") 325, Value.int 65 0, Value.int 1 0, Value.int 0 0, Value.int 0 0, Value.int 3 0, Value.ref 101, Value.bool true, Value.int 181 0, Value.ref 102, Value.none, Value.ref 103, Value.ref 104, Value.ref 105, Value.int 331 0, Value.int 65 0, Value.str (Str.ofString "/claim/cut.py") 332] }
noncomputable def k107 : Obj := mkFn (x := (fnAt 18)) rfl fun a b s => { cls := Value.type "function", data := Data.func { name := Str.ofString "head_of", qualname := Str.ofString "head_of", params := a, body := FuncBody.stmts b, scope := s, globals := 3, closure := [], defaults := Value.none, kwdefaults := Value.none, pyModule := Value.str (Str.ofString "chancore.texts") 296, code := Value.ref 106 } }
noncomputable def k108 (P : Params) : Obj := { cls := Value.type "tuple", data := Data.seq #[] }
noncomputable def k110 (P : Params) : Obj := { cls := Value.type "tuple", data := Data.seq #[Value.str (Str.ofString "octets") 337, Value.str (Str.ofString "at") 338, Value.str (Str.ofString "first") 339, Value.str (Str.ofString "many") 340, Value.str (Str.ofString "rune") 341, Value.str (Str.ofString "least") 342, Value.str (Str.ofString "step") 343, Value.str (Str.ofString "octet") 344] }
noncomputable def k111 (P : Params) : Obj := { cls := Value.type "tuple", data := Data.seq #[] }
noncomputable def k113 (P : Params) : Obj := { cls := Value.type "code", data := Data.fields #[Value.str (Str.ofString "rune_at") 334, Value.str (Str.ofString "rune_at") 335, Value.str (Str.ofString "/claim/cut.py") 336, Value.int 71 0, Value.int 2 0, Value.int 0 0, Value.int 0 0, Value.int 3 0, Value.ref 108, Value.bool true, Value.int 181 0, Value.ref 109, Value.none, Value.ref 110, Value.ref 111, Value.ref 112, Value.int 345 0, Value.int 71 0, Value.str (Str.ofString "/claim/cut.py") 346] }
noncomputable def k114 : Obj := mkFn (x := (fnAt 19)) rfl fun a b s => { cls := Value.type "function", data := Data.func { name := Str.ofString "rune_at", qualname := Str.ofString "rune_at", params := a, body := FuncBody.stmts b, scope := s, globals := 3, closure := [], defaults := Value.none, kwdefaults := Value.none, pyModule := Value.str (Str.ofString "chancore.texts") 296, code := Value.ref 113 } }
noncomputable def k115 (P : Params) : Obj := { cls := Value.type "tuple", data := Data.seq #[] }
noncomputable def k117 (P : Params) : Obj := { cls := Value.type "tuple", data := Data.seq #[Value.str (Str.ofString "octets") 351, Value.str (Str.ofString "found") 352, Value.str (Str.ofString "at") 353, Value.str (Str.ofString "rune") 354, Value.str (Str.ofString "size") 355] }
noncomputable def k118 (P : Params) : Obj := { cls := Value.type "tuple", data := Data.seq #[] }
noncomputable def k120 (P : Params) : Obj := { cls := Value.type "code", data := Data.fields #[Value.str (Str.ofString "runes_of") 348, Value.str (Str.ofString "runes_of") 349, Value.str (Str.ofString "/claim/cut.py") 350, Value.int 84 0, Value.int 1 0, Value.int 0 0, Value.int 0 0, Value.int 3 0, Value.ref 115, Value.bool true, Value.int 181 0, Value.ref 116, Value.none, Value.ref 117, Value.ref 118, Value.ref 119, Value.int 356 0, Value.int 84 0, Value.str (Str.ofString "/claim/cut.py") 357] }
noncomputable def k121 : Obj := mkFn (x := (fnAt 20)) rfl fun a b s => { cls := Value.type "function", data := Data.func { name := Str.ofString "runes_of", qualname := Str.ofString "runes_of", params := a, body := FuncBody.stmts b, scope := s, globals := 3, closure := [], defaults := Value.none, kwdefaults := Value.none, pyModule := Value.str (Str.ofString "chancore.texts") 296, code := Value.ref 120 } }
noncomputable def k122 (P : Params) : Obj := { cls := Value.type "tuple", data := Data.seq #[] }
noncomputable def k124 (P : Params) : Obj := { cls := Value.type "tuple", data := Data.seq #[Value.str (Str.ofString "octets") 362, Value.str (Str.ofString "found") 363, Value.str (Str.ofString "at") 364, Value.str (Str.ofString "rune") 365, Value.str (Str.ofString "size") 366] }
noncomputable def k125 (P : Params) : Obj := { cls := Value.type "tuple", data := Data.seq #[] }
noncomputable def k127 (P : Params) : Obj := { cls := Value.type "code", data := Data.fields #[Value.str (Str.ofString "rune_places") 359, Value.str (Str.ofString "rune_places") 360, Value.str (Str.ofString "/claim/cut.py") 361, Value.int 91 0, Value.int 1 0, Value.int 0 0, Value.int 0 0, Value.int 3 0, Value.ref 122, Value.bool true, Value.int 181 0, Value.ref 123, Value.none, Value.ref 124, Value.ref 125, Value.ref 126, Value.int 367 0, Value.int 91 0, Value.str (Str.ofString "/claim/cut.py") 368] }
noncomputable def k128 : Obj := mkFn (x := (fnAt 21)) rfl fun a b s => { cls := Value.type "function", data := Data.func { name := Str.ofString "rune_places", qualname := Str.ofString "rune_places", params := a, body := FuncBody.stmts b, scope := s, globals := 3, closure := [], defaults := Value.none, kwdefaults := Value.none, pyModule := Value.str (Str.ofString "chancore.texts") 296, code := Value.ref 127 } }
noncomputable def k129 (P : Params) : Obj := { cls := Value.type "tuple", data := Data.seq #[] }
noncomputable def k132 (P : Params) : Obj := { cls := Value.type "code", data := Data.fields #[Value.str (Str.ofString "octets_of_rune") 370, Value.str (Str.ofString "octets_of_rune") 371, Value.str (Str.ofString "/claim/cut.py") 372, Value.int 98 0, Value.int 1 0, Value.int 0 0, Value.int 0 0, Value.int 3 0, Value.ref 129, Value.bool true, Value.int 181 0, Value.ref 130, Value.none, Value.none, Value.none, Value.ref 131, Value.int 373 0, Value.int 98 0, Value.str (Str.ofString "/claim/cut.py") 374] }
noncomputable def k133 : Obj := mkFn (x := (fnAt 22)) rfl fun a b s => { cls := Value.type "function", data := Data.func { name := Str.ofString "octets_of_rune", qualname := Str.ofString "octets_of_rune", params := a, body := FuncBody.stmts b, scope := s, globals := 3, closure := [], defaults := Value.none, kwdefaults := Value.none, pyModule := Value.str (Str.ofString "chancore.texts") 296, code := Value.ref 132 } }
noncomputable def k134 (P : Params) : Obj := { cls := Value.type "tuple", data := Data.seq #[] }
noncomputable def k137 (P : Params) : Obj := { cls := Value.type "code", data := Data.fields #[Value.str (Str.ofString "octets_of") 376, Value.str (Str.ofString "octets_of") 377, Value.str (Str.ofString "/claim/cut.py") 378, Value.int 106 0, Value.int 1 0, Value.int 0 0, Value.int 0 0, Value.int 3 0, Value.ref 134, Value.bool true, Value.int 181 0, Value.ref 135, Value.none, Value.none, Value.none, Value.ref 136, Value.int 379 0, Value.int 106 0, Value.str (Str.ofString "/claim/cut.py") 380] }
noncomputable def k138 : Obj := mkFn (x := (fnAt 23)) rfl fun a b s => { cls := Value.type "function", data := Data.func { name := Str.ofString "octets_of", qualname := Str.ofString "octets_of", params := a, body := FuncBody.stmts b, scope := s, globals := 3, closure := [], defaults := Value.none, kwdefaults := Value.none, pyModule := Value.str (Str.ofString "chancore.texts") 296, code := Value.ref 137 } }
noncomputable def k139 (P : Params) : Obj := { cls := Value.type "tuple", data := Data.seq #[] }
noncomputable def k141 (P : Params) : Obj := { cls := Value.type "tuple", data := Data.seq #[Value.str (Str.ofString "script") 387, Value.str (Str.ofString "row") 388, Value.str (Str.ofString "cell") 389, Value.str (Str.ofString "big") 390, Value.str (Str.ofString "mixed") 391] }
noncomputable def k142 (P : Params) : Obj := { cls := Value.type "tuple", data := Data.seq #[] }
noncomputable def k144 (P : Params) : Obj := { cls := Value.type "code", data := Data.fields #[Value.str (Str.ofString "_law_pool") 384, Value.str (Str.ofString "_law_pool") 385, Value.str (Str.ofString "/claim/cut.py") 386, Value.int 109 0, Value.int 2 0, Value.int 0 0, Value.int 0 0, Value.int 3 0, Value.ref 139, Value.bool true, Value.int 181 0, Value.ref 140, Value.none, Value.ref 141, Value.ref 142, Value.ref 143, Value.int 392 0, Value.int 109 0, Value.str (Str.ofString "/claim/cut.py") 393] }
noncomputable def k145 : Obj := mkFn (x := (fnAt 25)) rfl fun a b s => { cls := Value.type "function", data := Data.func { name := Str.ofString "_law_pool", qualname := Str.ofString "_law_pool", params := a, body := FuncBody.stmts b, scope := s, globals := 3, closure := [], defaults := Value.none, kwdefaults := Value.none, pyModule := Value.str (Str.ofString "law_pq0222_01") 382, code := Value.ref 144 } }
noncomputable def k146 (P : Params) : Obj := { cls := Value.type "tuple", data := Data.seq #[] }
noncomputable def k148 (P : Params) : Obj := { cls := Value.type "tuple", data := Data.seq #[Value.str (Str.ofString "source") 398, Value.str (Str.ofString "top") 399, Value.str (Str.ofString "drawn") 400] }
noncomputable def k149 (P : Params) : Obj := { cls := Value.type "tuple", data := Data.seq #[] }
noncomputable def k151 (P : Params) : Obj := { cls := Value.type "code", data := Data.fields #[Value.str (Str.ofString "_law_take") 395, Value.str (Str.ofString "_law_take") 396, Value.str (Str.ofString "/claim/cut.py") 397, Value.int 114 0, Value.int 2 0, Value.int 0 0, Value.int 0 0, Value.int 3 0, Value.ref 146, Value.bool true, Value.int 181 0, Value.ref 147, Value.none, Value.ref 148, Value.ref 149, Value.ref 150, Value.int 401 0, Value.int 114 0, Value.str (Str.ofString "/claim/cut.py") 402] }
noncomputable def k152 : Obj := mkFn (x := (fnAt 26)) rfl fun a b s => { cls := Value.type "function", data := Data.func { name := Str.ofString "_law_take", qualname := Str.ofString "_law_take", params := a, body := FuncBody.stmts b, scope := s, globals := 3, closure := [], defaults := Value.none, kwdefaults := Value.none, pyModule := Value.str (Str.ofString "law_pq0222_01") 382, code := Value.ref 151 } }
noncomputable def k153 (P : Params) : Obj := { cls := Value.type "tuple", data := Data.seq #[] }
noncomputable def k155 (P : Params) : Obj := { cls := Value.type "tuple", data := Data.seq #[Value.str (Str.ofString "source") 407, Value.str (Str.ofString "things") 408] }
noncomputable def k156 (P : Params) : Obj := { cls := Value.type "tuple", data := Data.seq #[] }
noncomputable def k158 (P : Params) : Obj := { cls := Value.type "code", data := Data.fields #[Value.str (Str.ofString "_law_one") 404, Value.str (Str.ofString "_law_one") 405, Value.str (Str.ofString "/claim/cut.py") 406, Value.int 123 0, Value.int 2 0, Value.int 0 0, Value.int 0 0, Value.int 3 0, Value.ref 153, Value.bool true, Value.int 181 0, Value.ref 154, Value.none, Value.ref 155, Value.ref 156, Value.ref 157, Value.int 409 0, Value.int 123 0, Value.str (Str.ofString "/claim/cut.py") 410] }
noncomputable def k159 : Obj := mkFn (x := (fnAt 27)) rfl fun a b s => { cls := Value.type "function", data := Data.func { name := Str.ofString "_law_one", qualname := Str.ofString "_law_one", params := a, body := FuncBody.stmts b, scope := s, globals := 3, closure := [], defaults := Value.none, kwdefaults := Value.none, pyModule := Value.str (Str.ofString "law_pq0222_01") 382, code := Value.ref 158 } }
noncomputable def k160 (P : Params) : Obj := { cls := Value.type "tuple", data := Data.seq #[] }
noncomputable def k162 (P : Params) : Obj := { cls := Value.type "tuple", data := Data.seq #[Value.str (Str.ofString "t") 415] }
noncomputable def k163 (P : Params) : Obj := { cls := Value.type "tuple", data := Data.seq #[] }
noncomputable def k165 (P : Params) : Obj := { cls := Value.type "code", data := Data.fields #[Value.str (Str.ofString "_law_may") 412, Value.str (Str.ofString "_law_may") 413, Value.str (Str.ofString "/claim/cut.py") 414, Value.int 125 0, Value.int 1 0, Value.int 0 0, Value.int 0 0, Value.int 3 0, Value.ref 160, Value.bool true, Value.int 181 0, Value.ref 161, Value.none, Value.ref 162, Value.ref 163, Value.ref 164, Value.int 416 0, Value.int 125 0, Value.str (Str.ofString "/claim/cut.py") 417] }
noncomputable def k166 : Obj := mkFn (x := (fnAt 28)) rfl fun a b s => { cls := Value.type "function", data := Data.func { name := Str.ofString "_law_may", qualname := Str.ofString "_law_may", params := a, body := FuncBody.stmts b, scope := s, globals := 3, closure := [], defaults := Value.none, kwdefaults := Value.none, pyModule := Value.str (Str.ofString "law_pq0222_01") 382, code := Value.ref 165 } }
noncomputable def k167 (P : Params) : Obj := { cls := Value.type "tuple", data := Data.seq #[] }
noncomputable def k169 (P : Params) : Obj := { cls := Value.type "tuple", data := Data.seq #[Value.str (Str.ofString "source") 422, Value.str (Str.ofString "some") 423] }
noncomputable def k170 (P : Params) : Obj := { cls := Value.type "tuple", data := Data.seq #[] }
noncomputable def k172 (P : Params) : Obj := { cls := Value.type "code", data := Data.fields #[Value.str (Str.ofString "_law_leaf") 419, Value.str (Str.ofString "_law_leaf") 420, Value.str (Str.ofString "/claim/cut.py") 421, Value.int 127 0, Value.int 1 0, Value.int 0 0, Value.int 0 0, Value.int 3 0, Value.ref 167, Value.bool true, Value.int 181 0, Value.ref 168, Value.none, Value.ref 169, Value.ref 170, Value.ref 171, Value.int 424 0, Value.int 127 0, Value.str (Str.ofString "/claim/cut.py") 425] }
noncomputable def k173 : Obj := mkFn (x := (fnAt 29)) rfl fun a b s => { cls := Value.type "function", data := Data.func { name := Str.ofString "_law_leaf", qualname := Str.ofString "_law_leaf", params := a, body := FuncBody.stmts b, scope := s, globals := 3, closure := [], defaults := Value.none, kwdefaults := Value.none, pyModule := Value.str (Str.ofString "law_pq0222_01") 382, code := Value.ref 172 } }
noncomputable def k174 (P : Params) : Obj := { cls := Value.type "tuple", data := Data.seq #[] }
noncomputable def k177 (P : Params) : Obj := { cls := Value.type "code", data := Data.fields #[Value.str (Str.ofString "_law_value") 427, Value.str (Str.ofString "_law_value") 428, Value.str (Str.ofString "/claim/cut.py") 429, Value.int 130 0, Value.int 2 0, Value.int 0 0, Value.int 0 0, Value.int 3 0, Value.ref 174, Value.bool true, Value.int 181 0, Value.ref 175, Value.none, Value.none, Value.none, Value.ref 176, Value.int 430 0, Value.int 130 0, Value.str (Str.ofString "/claim/cut.py") 431] }
noncomputable def k178 : Obj := mkFn (x := (fnAt 30)) rfl fun a b s => { cls := Value.type "function", data := Data.func { name := Str.ofString "_law_value", qualname := Str.ofString "_law_value", params := a, body := FuncBody.stmts b, scope := s, globals := 3, closure := [], defaults := Value.none, kwdefaults := Value.none, pyModule := Value.str (Str.ofString "law_pq0222_01") 382, code := Value.ref 177 } }
noncomputable def k179 (P : Params) : Obj := { cls := Value.type "tuple", data := Data.seq #[] }
noncomputable def k181 (P : Params) : Obj := { cls := Value.type "tuple", data := Data.seq #[Value.str (Str.ofString "source") 436, Value.str (Str.ofString "some") 437] }
noncomputable def k182 (P : Params) : Obj := { cls := Value.type "tuple", data := Data.seq #[] }
noncomputable def k184 (P : Params) : Obj := { cls := Value.type "code", data := Data.fields #[Value.str (Str.ofString "_law_loose") 433, Value.str (Str.ofString "_law_loose") 434, Value.str (Str.ofString "/claim/cut.py") 435, Value.int 138 0, Value.int 1 0, Value.int 0 0, Value.int 0 0, Value.int 3 0, Value.ref 179, Value.bool true, Value.int 181 0, Value.ref 180, Value.none, Value.ref 181, Value.ref 182, Value.ref 183, Value.int 438 0, Value.int 138 0, Value.str (Str.ofString "/claim/cut.py") 439] }
noncomputable def k185 : Obj := mkFn (x := (fnAt 31)) rfl fun a b s => { cls := Value.type "function", data := Data.func { name := Str.ofString "_law_loose", qualname := Str.ofString "_law_loose", params := a, body := FuncBody.stmts b, scope := s, globals := 3, closure := [], defaults := Value.none, kwdefaults := Value.none, pyModule := Value.str (Str.ofString "law_pq0222_01") 382, code := Value.ref 184 } }
noncomputable def k186 (P : Params) : Obj := { cls := Value.type "tuple", data := Data.seq #[] }
noncomputable def k189 (P : Params) : Obj := { cls := Value.type "code", data := Data.fields #[Value.str (Str.ofString "_law_places") 441, Value.str (Str.ofString "_law_places") 442, Value.str (Str.ofString "/claim/cut.py") 443, Value.int 141 0, Value.int 1 0, Value.int 0 0, Value.int 0 0, Value.int 3 0, Value.ref 186, Value.bool true, Value.int 181 0, Value.ref 187, Value.none, Value.none, Value.none, Value.ref 188, Value.int 444 0, Value.int 141 0, Value.str (Str.ofString "/claim/cut.py") 445] }
noncomputable def k190 : Obj := mkFn (x := (fnAt 32)) rfl fun a b s => { cls := Value.type "function", data := Data.func { name := Str.ofString "_law_places", qualname := Str.ofString "_law_places", params := a, body := FuncBody.stmts b, scope := s, globals := 3, closure := [], defaults := Value.none, kwdefaults := Value.none, pyModule := Value.str (Str.ofString "law_pq0222_01") 382, code := Value.ref 189 } }
noncomputable def k191 (P : Params) : Obj := { cls := Value.type "tuple", data := Data.seq #[] }
noncomputable def k193 (P : Params) : Obj := { cls := Value.type "tuple", data := Data.seq #[Value.str (Str.ofString "value") 450, Value.str (Str.ofString "way") 451, Value.str (Str.ofString "part") 452, Value.str (Str.ofString "inner") 453] }
noncomputable def k194 (P : Params) : Obj := { cls := Value.type "tuple", data := Data.seq #[] }
noncomputable def k196 (P : Params) : Obj := { cls := Value.type "code", data := Data.fields #[Value.str (Str.ofString "_law_put") 447, Value.str (Str.ofString "_law_put") 448, Value.str (Str.ofString "/claim/cut.py") 449, Value.int 146 0, Value.int 3 0, Value.int 0 0, Value.int 0 0, Value.int 3 0, Value.ref 191, Value.bool true, Value.int 181 0, Value.ref 192, Value.none, Value.ref 193, Value.ref 194, Value.ref 195, Value.int 454 0, Value.int 146 0, Value.str (Str.ofString "/claim/cut.py") 455] }
noncomputable def k197 : Obj := mkFn (x := (fnAt 33)) rfl fun a b s => { cls := Value.type "function", data := Data.func { name := Str.ofString "_law_put", qualname := Str.ofString "_law_put", params := a, body := FuncBody.stmts b, scope := s, globals := 3, closure := [], defaults := Value.none, kwdefaults := Value.none, pyModule := Value.str (Str.ofString "law_pq0222_01") 382, code := Value.ref 196 } }
noncomputable def k198 (P : Params) : Obj := { cls := Value.type "tuple", data := Data.seq #[] }
noncomputable def k200 (P : Params) : Obj := { cls := Value.type "tuple", data := Data.seq #[Value.str (Str.ofString "value") 460] }
noncomputable def k201 (P : Params) : Obj := { cls := Value.type "tuple", data := Data.seq #[] }
noncomputable def k203 (P : Params) : Obj := { cls := Value.type "code", data := Data.fields #[Value.str (Str.ofString "_law_sort") 457, Value.str (Str.ofString "_law_sort") 458, Value.str (Str.ofString "/claim/cut.py") 459, Value.int 154 0, Value.int 1 0, Value.int 0 0, Value.int 0 0, Value.int 3 0, Value.ref 198, Value.bool true, Value.int 181 0, Value.ref 199, Value.none, Value.ref 200, Value.ref 201, Value.ref 202, Value.int 461 0, Value.int 154 0, Value.str (Str.ofString "/claim/cut.py") 462] }
noncomputable def k204 : Obj := mkFn (x := (fnAt 34)) rfl fun a b s => { cls := Value.type "function", data := Data.func { name := Str.ofString "_law_sort", qualname := Str.ofString "_law_sort", params := a, body := FuncBody.stmts b, scope := s, globals := 3, closure := [], defaults := Value.none, kwdefaults := Value.none, pyModule := Value.str (Str.ofString "law_pq0222_01") 382, code := Value.ref 203 } }
noncomputable def k205 (P : Params) : Obj := { cls := Value.type "tuple", data := Data.seq #[] }
noncomputable def k207 (P : Params) : Obj := { cls := Value.type "tuple", data := Data.seq #[Value.str (Str.ofString "one") 467, Value.str (Str.ofString "other") 468, Value.str (Str.ofString "word") 469, Value.str (Str.ofString "a") 470, Value.str (Str.ofString "b") 471] }
noncomputable def k208 (P : Params) : Obj := { cls := Value.type "tuple", data := Data.seq #[] }
noncomputable def k210 (P : Params) : Obj := { cls := Value.type "code", data := Data.fields #[Value.str (Str.ofString "_law_alike") 464, Value.str (Str.ofString "_law_alike") 465, Value.str (Str.ofString "/claim/cut.py") 466, Value.int 160 0, Value.int 2 0, Value.int 0 0, Value.int 0 0, Value.int 3 0, Value.ref 205, Value.bool true, Value.int 181 0, Value.ref 206, Value.none, Value.ref 207, Value.ref 208, Value.ref 209, Value.int 472 0, Value.int 160 0, Value.str (Str.ofString "/claim/cut.py") 473] }
noncomputable def k211 : Obj := mkFn (x := (fnAt 35)) rfl fun a b s => { cls := Value.type "function", data := Data.func { name := Str.ofString "_law_alike", qualname := Str.ofString "_law_alike", params := a, body := FuncBody.stmts b, scope := s, globals := 3, closure := [], defaults := Value.none, kwdefaults := Value.none, pyModule := Value.str (Str.ofString "law_pq0222_01") 382, code := Value.ref 210 } }
noncomputable def k212 (P : Params) : Obj := { cls := Value.type "tuple", data := Data.seq #[] }
noncomputable def k214 (P : Params) : Obj := { cls := Value.type "tuple", data := Data.seq #[Value.str (Str.ofString "call") 478, Value.str (Str.ofString "text") 479, Value.str (Str.ofString "told") 480] }
noncomputable def k215 (P : Params) : Obj := { cls := Value.type "tuple", data := Data.seq #[] }
noncomputable def k217 (P : Params) : Obj := { cls := Value.type "code", data := Data.fields #[Value.str (Str.ofString "_law_called") 475, Value.str (Str.ofString "_law_called") 476, Value.str (Str.ofString "/claim/cut.py") 477, Value.int 176 0, Value.int 2 0, Value.int 0 0, Value.int 0 0, Value.int 3 0, Value.ref 212, Value.bool true, Value.int 181 0, Value.ref 213, Value.none, Value.ref 214, Value.ref 215, Value.ref 216, Value.int 481 0, Value.int 176 0, Value.str (Str.ofString "/claim/cut.py") 482] }
noncomputable def k218 : Obj := mkFn (x := (fnAt 36)) rfl fun a b s => { cls := Value.type "function", data := Data.func { name := Str.ofString "_law_called", qualname := Str.ofString "_law_called", params := a, body := FuncBody.stmts b, scope := s, globals := 3, closure := [], defaults := Value.none, kwdefaults := Value.none, pyModule := Value.str (Str.ofString "law_pq0222_01") 382, code := Value.ref 217 } }
noncomputable def k219 (P : Params) : Obj := { cls := Value.type "tuple", data := Data.seq #[] }
noncomputable def k222 (P : Params) : Obj := { cls := Value.type "code", data := Data.fields #[Value.str (Str.ofString "_law_pair_right") 484, Value.str (Str.ofString "_law_pair_right") 485, Value.str (Str.ofString "/claim/cut.py") 486, Value.int 181 0, Value.int 2 0, Value.int 0 0, Value.int 0 0, Value.int 3 0, Value.ref 219, Value.bool true, Value.int 181 0, Value.ref 220, Value.none, Value.none, Value.none, Value.ref 221, Value.int 487 0, Value.int 181 0, Value.str (Str.ofString "/claim/cut.py") 488] }
noncomputable def k223 : Obj := mkFn (x := (fnAt 37)) rfl fun a b s => { cls := Value.type "function", data := Data.func { name := Str.ofString "_law_pair_right", qualname := Str.ofString "_law_pair_right", params := a, body := FuncBody.stmts b, scope := s, globals := 3, closure := [], defaults := Value.none, kwdefaults := Value.none, pyModule := Value.str (Str.ofString "law_pq0222_01") 382, code := Value.ref 222 } }
noncomputable def k224 (P : Params) : Obj := { cls := Value.type "tuple", data := Data.seq #[] }
noncomputable def k226 (P : Params) : Obj := { cls := Value.type "tuple", data := Data.seq #[Value.str (Str.ofString "source") 493, Value.str (Str.ofString "one") 494, Value.str (Str.ofString "places") 495, Value.str (Str.ofString "other") 496, Value.str (Str.ofString "loose") 497, Value.str (Str.ofString "pairs") 498, Value.str (Str.ofString "a") 499, Value.str (Str.ofString "b") 500, Value.str (Str.ofString "held") 501] }
noncomputable def k227 (P : Params) : Obj := { cls := Value.type "tuple", data := Data.seq #[] }
noncomputable def k229 (P : Params) : Obj := { cls := Value.type "code", data := Data.fields #[Value.str (Str.ofString "_law_values_right") 490, Value.str (Str.ofString "_law_values_right") 491, Value.str (Str.ofString "/claim/cut.py") 492, Value.int 189 0, Value.int 1 0, Value.int 0 0, Value.int 0 0, Value.int 3 0, Value.ref 224, Value.bool true, Value.int 181 0, Value.ref 225, Value.none, Value.ref 226, Value.ref 227, Value.ref 228, Value.int 502 0, Value.int 189 0, Value.str (Str.ofString "/claim/cut.py") 503] }
noncomputable def k230 : Obj := mkFn (x := (fnAt 38)) rfl fun a b s => { cls := Value.type "function", data := Data.func { name := Str.ofString "_law_values_right", qualname := Str.ofString "_law_values_right", params := a, body := FuncBody.stmts b, scope := s, globals := 3, closure := [], defaults := Value.none, kwdefaults := Value.none, pyModule := Value.str (Str.ofString "law_pq0222_01") 382, code := Value.ref 229 } }
noncomputable def k231 (P : Params) : Obj := { cls := Value.type "tuple", data := Data.seq #[] }
noncomputable def k233 (P : Params) : Obj := { cls := Value.type "tuple", data := Data.seq #[Value.str (Str.ofString "rune") 508] }
noncomputable def k234 (P : Params) : Obj := { cls := Value.type "tuple", data := Data.seq #[] }
noncomputable def k236 (P : Params) : Obj := { cls := Value.type "code", data := Data.fields #[Value.str (Str.ofString "_law_width") 505, Value.str (Str.ofString "_law_width") 506, Value.str (Str.ofString "/claim/cut.py") 507, Value.int 202 0, Value.int 1 0, Value.int 0 0, Value.int 0 0, Value.int 3 0, Value.ref 231, Value.bool true, Value.int 181 0, Value.ref 232, Value.none, Value.ref 233, Value.ref 234, Value.ref 235, Value.int 509 0, Value.int 202 0, Value.str (Str.ofString "/claim/cut.py") 510] }
noncomputable def k237 : Obj := mkFn (x := (fnAt 39)) rfl fun a b s => { cls := Value.type "function", data := Data.func { name := Str.ofString "_law_width", qualname := Str.ofString "_law_width", params := a, body := FuncBody.stmts b, scope := s, globals := 3, closure := [], defaults := Value.none, kwdefaults := Value.none, pyModule := Value.str (Str.ofString "law_pq0222_01") 382, code := Value.ref 236 } }
noncomputable def k238 (P : Params) : Obj := { cls := Value.type "tuple", data := Data.seq #[] }
noncomputable def k241 (P : Params) : Obj := { cls := Value.type "code", data := Data.fields #[Value.str (Str.ofString "_law_runes_right") 512, Value.str (Str.ofString "_law_runes_right") 513, Value.str (Str.ofString "/claim/cut.py") 514, Value.int 204 0, Value.int 1 0, Value.int 0 0, Value.int 0 0, Value.int 3 0, Value.ref 238, Value.bool true, Value.int 181 0, Value.ref 239, Value.none, Value.none, Value.none, Value.ref 240, Value.int 515 0, Value.int 204 0, Value.str (Str.ofString "/claim/cut.py") 516] }
noncomputable def k242 : Obj := mkFn (x := (fnAt 40)) rfl fun a b s => { cls := Value.type "function", data := Data.func { name := Str.ofString "_law_runes_right", qualname := Str.ofString "_law_runes_right", params := a, body := FuncBody.stmts b, scope := s, globals := 3, closure := [], defaults := Value.none, kwdefaults := Value.none, pyModule := Value.str (Str.ofString "law_pq0222_01") 382, code := Value.ref 241 } }
noncomputable def k243 (P : Params) : Obj := { cls := Value.type "tuple", data := Data.seq #[] }
noncomputable def k245 (P : Params) : Obj := { cls := Value.type "tuple", data := Data.seq #[Value.str (Str.ofString "script") 521, Value.str (Str.ofString "source") 522] }
noncomputable def k246 (P : Params) : Obj := { cls := Value.type "tuple", data := Data.seq #[] }
noncomputable def k248 (P : Params) : Obj := { cls := Value.type "code", data := Data.fields #[Value.str (Str.ofString "law") 518, Value.str (Str.ofString "law") 519, Value.str (Str.ofString "/claim/cut.py") 520, Value.int 222 0, Value.int 1 0, Value.int 0 0, Value.int 0 0, Value.int 3 0, Value.ref 243, Value.bool true, Value.int 181 0, Value.ref 244, Value.none, Value.ref 245, Value.ref 246, Value.ref 247, Value.int 523 0, Value.int 222 0, Value.str (Str.ofString "/claim/cut.py") 524] }
noncomputable def k249 : Obj := mkFn (x := (fnAt 41)) rfl fun a b s => { cls := Value.type "function", data := Data.func { name := Str.ofString "law", qualname := Str.ofString "law", params := a, body := FuncBody.stmts b, scope := s, globals := 3, closure := [], defaults := Value.none, kwdefaults := Value.none, pyModule := Value.str (Str.ofString "law_pq0222_01") 382, code := Value.ref 248 } }
noncomputable def heap_39 (P : Params) : Frag := [(2, k2 P), (3, k3 P), (15, k15 P), (22, k22 P), (23, k23 P), (25, k25 P), (26, k26 P), (28, k28 P), (29, k29), (30, k30 P), (31, k31 P), (32, k32 P), (33, k33 P), (36, k36 P), (43, k43 P), (45, k45 P), (46, k46 P), (48, k48 P), (49, k49), (50, k50 P), (51, k51 P), (52, k52 P), (55, k55 P), (56, k56 P), (58, k58 P), (59, k59 P), (61, k61 P), (62, k62), (63, k63 P), (64, k64 P), (66, k66 P), (67, k67 P), (69, k69 P), (70, k70), (71, k71 P), (73, k73 P), (74, k74 P), (76, k76 P), (77, k77), (78, k78 P), (80, k80 P), (81, k81 P), (83, k83 P), (84, k84), (85, k85 P), (88, k88 P), (89, k89), (90, k90 P), (91, k91 P), (92, k92 P), (93, k93 P), (94, k94 P), (96, k96 P), (97, k97 P), (99, k99 P), (100, k100), (101, k101 P), (103, k103 P), (104, k104 P), (106, k106 P), (107, k107), (108, k108 P), (110, k110 P), (111, k111 P), (113, k113 P), (114, k114), (115, k115 P), (117, k117 P), (118, k118 P), (120, k120 P), (121, k121), (122, k122 P), (124, k124 P), (125, k125 P), (127, k127 P), (128, k128), (129, k129 P), (132, k132 P), (133, k133), (134, k134 P), (137, k137 P), (138, k138), (139, k139 P), (141, k141 P), (142, k142 P), (144, k144 P), (145, k145), (146, k146 P), (148, k148 P), (149, k149 P), (151, k151 P), (152, k152), (153, k153 P), (155, k155 P), (156, k156 P), (158, k158 P), (159, k159), (160, k160 P), (162, k162 P), (163, k163 P), (165, k165 P), (166, k166), (167, k167 P), (169, k169 P), (170, k170 P), (172, k172 P), (173, k173), (174, k174 P), (177, k177 P), (178, k178), (179, k179 P), (181, k181 P), (182, k182 P), (184, k184 P), (185, k185), (186, k186 P), (189, k189 P), (190, k190), (191, k191 P), (193, k193 P), (194, k194 P), (196, k196 P), (197, k197), (198, k198 P), (200, k200 P), (201, k201 P), (203, k203 P), (204, k204), (205, k205 P), (207, k207 P), (208, k208 P), (210, k210 P), (211, k211), (212, k212 P), (214, k214 P), (215, k215 P), (217, k217 P), (218, k218), (219, k219 P), (222, k222 P), (223, k223), (224, k224 P), (226, k226 P), (227, k227 P), (229, k229 P), (230, k230), (231, k231 P), (233, k233 P), (234, k234 P), (236, k236 P), (237, k237), (238, k238 P), (241, k241 P), (242, k242), (243, k243 P), (245, k245 P), (246, k246 P), (248, k248 P), (249, k249)]

noncomputable def keys : List Addr := [2, 3, 15, 22, 23, 25, 26, 28, 29, 30, 31, 32, 33, 36, 43, 45, 46, 48, 49, 50, 51, 52, 55, 56, 58, 59, 61, 62, 63, 64, 66, 67, 69, 70, 71, 73, 74, 76, 77, 78, 80, 81, 83, 84, 85, 88, 89, 90, 91, 92, 93, 94, 96, 97, 99, 100, 101, 103, 104, 106, 107, 108, 110, 111, 113, 114, 115, 117, 118, 120, 121, 122, 124, 125, 127, 128, 129, 132, 133, 134, 137, 138, 139, 141, 142, 144, 145, 146, 148, 149, 151, 152, 153, 155, 156, 158, 159, 160, 162, 163, 165, 166, 167, 169, 170, 172, 173, 174, 177, 178, 179, 181, 182, 184, 185, 186, 189, 190, 191, 193, 194, 196, 197, 198, 200, 201, 203, 204, 205, 207, 208, 210, 211, 212, 214, 215, 217, 218, 219, 222, 223, 224, 226, 227, 229, 230, 231, 233, 234, 236, 237, 238, 241, 242, 243, 245, 246, 248, 249]
theorem keys_eq (P : Params) : keys = (heap_39 P).map (·.1) := rfl
noncomputable abbrev hook : Hook := kmHook heap_39 keys keys_eq [220]
abbrev rowW : RowW := PySem.Challenge.rw_pq0222_01.row.toRowW
theorem left : LeftO pw view_39 [Str.ofString "ChanError"] (fun s => xlAt view_39 [] s && recOk (RowW.records rowW) s) (Hook.obs hook) (Hook.val hook) 3070 := by
  intro w
  kernel_rfl
/-- the law is well said: each look by itself -/
theorem said : PySem.Challenge.rw_pq0222_01.wellSaid = true := by
  unfold OpenLaw.wellSaid OpenRow.wellSaid OpenRow.partSaid looksOpen
  repeat' (with_reducible refine look_both ?_ ?_)
  all_goals decide +kernel
theorem head {d : DefRec} {kwd : List (Str × Expr)} (hdef : defOf view_39 PySem.Challenge.rw_pq0222_01.row.name = some (d, kwd)) (hp : PySem.Challenge.rw_pq0222_01.row.prog.theDef PySem.Challenge.rw_pq0222_01.row.name = some (d.params, d.body, d.scope)) (hk : kwWritten? d.params.kwonlyargs d.params.kw_defaults = some kwd)
    (hc : WalkO view_39 [Str.ofString "ChanError"] (XL view_39 []) (Hook.says hook) rowW d kwd fun f vs => PySem.call f vs) : PySem.Challenge.rw_pq0222_01.Holds := by
  refine holds_law said fun said => ?_
  refine holds_open (q := view_39) (loose := [Str.ofString "ChanError"]) (Xt := fun s => xlAt view_39 [] s && recOk (RowW.records rowW) s) (XP := XL view_39 []) (Yf := Hook.obs hook) (Ya := Hook.val hook) (YP := Hook.says hook) (N := 3070) left (Hook.of hook) (Hook.keeps hook) (fun s e => xl_of s (Bool.and_eq_true_iff.mp e).1) XL.keeps hdef hp hk (fun s e => recFacts_of (Bool.and_eq_true_iff.mp e).2) (by rfl) (by first | assumption | decide +kernel) (by decide +kernel) ⟨rfl, rfl, rfl, rfl, rfl, by decide +kernel⟩ ?hw hc
  case hw => w_witness2
end Mine.hd
end

end
section
open PySem PySem.W PyProof.Rows
set_option maxRecDepth 100000
namespace Mine

theorem nne {α : Type} {x : Option α} {o : α} (h : x = none) (e : x = some o) : False := by rw [h] at e; cases e
theorem hide {G : Prop} (h : ∀ P : Prop, (G → P) → P) : G := h G id
theorem wp_tt {Md : Model} {A : Around} {α : Type} {a b : Sem α} {Q : α → Shared → Prop} {E : Value → Shared → Prop} {s : Shared} {c : Prop} [Decidable c] (h : c) (k : wpAny Md A a Q E s) : wpAny Md A (if c then a else b) Q E s := by rw [if_pos h]; exact k
theorem wp_ff {Md : Model} {A : Around} {α : Type} {a b : Sem α} {Q : α → Shared → Prop} {E : Value → Shared → Prop} {s : Shared} {c : Prop} [Decidable c] (h : ¬ c) (k : wpAny Md A b Q E s) : wpAny Md A (if c then a else b) Q E s := by rw [if_neg h]; exact k
theorem none_of {α : Type} {x : Option α} (h : ∀ o, x = some o → False) : x = none := by
  cases e : x with
  | none => rfl
  | some o => exact (h o e).elim
theorem some_inj {α : Type} {x : Option α} {a b : α} (h : x = some a) (e : x = some b) : a = b := Option.some.inj (h.symm.trans e)
theorem nb {α β : Type} {f : β → Option α} {a b : β} {o : α} (q : a = b) (h : f b = none) (e : f a = some o) : False := nne h (q ▸ e)
theorem sb {α β : Type} {f : β → Option α} {a b : β} {x y : α} (q : a = b) (h : f b = some x) (e : f a = some y) : x = y := some_inj h (q ▸ e)
theorem look1 {α : Type} {x1 : Str} {d1 : α} {P : Str → α → Prop} (h1 : P x1 d1) : ∀ y d, List.lookup y [(x1, d1)] = some d → P y d := fun y d h => by
  rw [List.lookup_cons] at h
  by_cases q : y = x1
  · subst q
    simp only [beq_self_eq_true] at h
    obtain rfl := Option.some.inj h; exact h1
  · rw [show (y == x1) = false by simpa using q] at h; cases h
theorem look2 {α : Type} {x1 x2 : Str} {d1 d2 : α} {P : Str → α → Prop} (h1 : P x1 d1) (h2 : P x2 d2) : ∀ y d, List.lookup y [(x1, d1), (x2, d2)] = some d → P y d := fun y d h => by
  rw [List.lookup_cons] at h
  by_cases q : y = x1
  · subst q
    simp only [beq_self_eq_true] at h
    cases h; exact h1
  · rw [show (y == x1) = false by simpa using q] at h
    exact look1 h2 y d h
theorem turn_lt {i k m : Nat} (h : i + k = m) (hn : i < m) : m - (i + 1) < k := by omega
theorem turn_eq {i m : Nat} (hn : i < m) : i + 1 + (m - (i + 1)) = m := by omega
theorem drop_end {α : Type} {l : List α} {i k : Nat} (h : i + k = l.length) (e : l.drop i = []) : i = l.length := by
  have h1 := congrArg List.length e
  rw [List.length_drop, List.length_nil] at h1
  omega
theorem drop_at {α : Type} {l : List α} {i : Nat} {d : α} {rest : List α} (e : l.drop i = d :: rest) : l[i]? = some d ∧ l.drop (i + 1) = rest ∧ i < l.length := by
  have h1 : l[i]? = some d := by
    have := congrArg (·[0]?) e
    simpa using this
  refine ⟨h1, by rw [← List.drop_drop, e]; rfl, ?_⟩
  rcases Nat.lt_or_ge i l.length with h | h
  · exact h
  · exact (nne (List.getElem?_eq_none h) h1).elim
theorem min_end {i a b : Nat} (h : i = min a b) : i = a ∨ (i < a ∧ i = b) := by
  rcases Nat.lt_or_ge b a with q | q
  · rw [Nat.min_eq_right (Nat.le_of_lt q)] at h; exact .inr ⟨h ▸ q, h⟩
  · rw [Nat.min_eq_left q] at h; exact .inl h
theorem min_in {i k a b : Nat} (h : i + k = min a b) (hn : ¬ i = min a b) : i < a ∧ i < b :=
  have q : i < min a b := Nat.lt_of_le_of_ne (h ▸ Nat.le_add_right i k) hn
  ⟨Nat.lt_of_lt_of_le q (Nat.min_le_left _ _), Nat.lt_of_lt_of_le q (Nat.min_le_right _ _)⟩
noncomputable def dtag : Data → Nat
  | .plain => 0
  | .prim _ => 1
  | .seq _ _ => 2
  | .dict _ _ => 3
  | .set _ _ _ => 4
  | .bytearray _ _ => 5
  | .cell _ => 6
  | .func _ => 7
  | .cls _ => 8
  | .fields _ => 9
  | .freed => 10
theorem dd {d x y : Data} (h : d = x) (e : d = y) (t : (dtag x == dtag y) = false) : False := by
  subst h; subst e
  simp at t

noncomputable def tupO (vs : Array Value) (n : Nat) : Obj := { cls := .type "tuple", data := .seq vs n }
noncomputable def lstO (vs : Array Value) (n : Nat) : Obj := { cls := .type "list", data := .seq vs n }
noncomputable def IsTp (h : Heap) (a : Addr) (vs : Array Value) : Prop := ∃ n, h.get? a = some (tupO vs n)
noncomputable def IsLs (h : Heap) (a : Addr) (vs : Array Value) : Prop := ∃ n, h.get? a = some (lstO vs n)
theorem IsTp.tup {h : Heap} {a : Addr} {vs : Array Value} : IsTp h a vs → IsTup h a vs := fun ⟨n, e⟩ => ⟨_, e, rfl, n, rfl⟩
theorem IsLs.list {h : Heap} {a : Addr} {vs : Array Value} : IsLs h a vs → h.IsList a vs := fun ⟨n, e⟩ => ⟨_, e, rfl, n, rfl⟩

/-- the one table of codes that grows: that of the def that makes defs -/
noncomputable def tabA : Addr := 220
noncomputable def tabQ : Str := Str.ofString "_law_pair_right.<locals>.<lambda>"
/-- a record that is no code's -/
noncomputable def NoCode (vs : Array Value) : Prop := ∀ q t, vs[1]? ≠ some (.str q t)
noncomputable def TabOk (h : Heap) : Prop := ∃ ps, h.get? tabA = some (tabObj ps) ∧ TriplesOk ps.toList ∧ ∀ pos cv, codeAmong pos ps.toList = some cv → h.CodeRec cv tabQ
noncomputable def HasTab (h : Heap) : Prop := ∃ o, h.get? tabA = some o
theorem HasTab.ne {h : Heap} {a : Addr} (x : HasTab h) (hn : h.get? a = .none) : a ≠ tabA := fun q => by
  obtain ⟨o, e⟩ := x
  rw [← q, hn] at e; cases e
theorem HasTab.mono {h h' : Heap} (x : HasTab h) (k : ∀ b o, h.get? b = some o → ∃ o', h'.get? b = some o') : HasTab h' := let ⟨o, e⟩ := x; k _ o e
theorem HasTab.same {h h' : Heap} {a : Addr} (x : HasTab h) (hs : Heap.SameBut a h h') (ha : ∃ o, h'.get? a = some o) : HasTab h' := by
  by_cases q : tabA = a
  · obtain ⟨o, e⟩ := ha; exact ⟨o, q ▸ e⟩
  · obtain ⟨o, e⟩ := x; exact ⟨o, (hs.2 _ q).trans e⟩
theorem TabOk.turn {h h' : Heap} (kf : ∀ b o vs, h.get? b = some o → o.data = .fields vs → (b = tabA ∨ ¬ NoCode vs) → h'.get? b = some o) (x : TabOk h) : TabOk h' := by
  refine hide fun uu kg => ?_
  obtain ⟨ps, e, ht, hc⟩ := x
  refine kg ?_
  refine ⟨ps, kf _ _ _ e rfl (.inl rfl), ht, fun pos cv q => ?_⟩
  refine hide fun uu kg => ?_
  obtain ⟨c, o, vs, t, e1, e2, e3, e4⟩ := hc pos cv q
  refine kg ?_
  exact ⟨c, o, vs, t, e1, kf _ _ _ e2 e3 (.inr fun z => z _ _ e4), e3, e4⟩

inductive D where
  | raw (v : Value)
  | none
  | bool (b : Bool)
  | int (i : Int)
  | str (x : Str)
  | bytes (b : Array UInt8)
  | tup (ds : List D)
  | lst (a : Addr)

mutual
inductive Rep (h : Heap) : Value → D → Prop
  | raw (v : Value) : Rep h v (.raw v)
  | none : Rep h .none .none
  | bool (b : Bool) : Rep h (.bool b) (.bool b)
  | int (i : Int) (t : Tok) : Rep h (.int i t) (.int i)
  | str (x : Str) (t : Tok) : Rep h (.str x t) (.str x)
  | bytes (b : Array UInt8) (t : Tok) : Rep h (.bytes b t) (.bytes b)
  | tup {a : Addr} {vs : List Value} {ds : List D} : IsTp h a vs.toArray → Reps h vs ds → Rep h (.ref a) (.tup ds)
  | lst (a : Addr) (ne : a ≠ tabA) : Rep h (.ref a) (.lst a)
inductive Reps (h : Heap) : List Value → List D → Prop
  | nil : Reps h [] []
  | cons {v : Value} {vs : List Value} {d : D} {ds : List D} : Rep h v d → Reps h vs ds → Reps h (v :: vs) (d :: ds)
end

/-- what stands for a datum, by the datum -/
noncomputable def RepV (h : Heap) (v : Value) : D → Prop
  | .raw x => v = x
  | .none => v = .none
  | .bool b => v = .bool b
  | .int i => ∃ t, v = .int i t
  | .str x => ∃ t, v = .str x t
  | .bytes b => ∃ t, v = .bytes b t
  | .tup ds => ∃ a vs, v = .ref a ∧ IsTp h a vs.toArray ∧ Reps h vs ds
  | .lst a => v = .ref a ∧ a ≠ tabA
noncomputable def RepsV (h : Heap) (vs : List Value) : List D → Prop
  | [] => vs = []
  | d :: ds => ∃ v ws, vs = v :: ws ∧ Rep h v d ∧ Reps h ws ds
theorem Rep.out {h : Heap} {v : Value} {d : D} (r : Rep h v d) : RepV h v d := by
  cases r with
  | raw => exact rfl
  | none => exact rfl
  | bool => exact rfl
  | int _ t => exact ⟨t, rfl⟩
  | str _ t => exact ⟨t, rfl⟩
  | bytes _ t => exact ⟨t, rfl⟩
  | tup a b => exact ⟨_, _, rfl, a, b⟩
  | lst _ ne => exact ⟨rfl, ne⟩
theorem Reps.out {h : Heap} {vs : List Value} {ds : List D} (r : Reps h vs ds) : RepsV h vs ds := by
  cases r with
  | nil => exact rfl
  | cons a b => exact ⟨_, _, rfl, a, b⟩
theorem Rep.raw_ {h : Heap} {v : Value} {x : Value} (r : Rep h v (.raw x)) : v = x := r.out
theorem Rep.none_ {h : Heap} {v : Value} (r : Rep h v .none) : v = .none := r.out
theorem Rep.bool_ {h : Heap} {v : Value} {b : Bool} (r : Rep h v (.bool b)) : v = .bool b := r.out
theorem Rep.int_ {h : Heap} {v : Value} {i : Int} (r : Rep h v (.int i)) : ∃ t, v = .int i t := r.out
theorem Rep.str_ {h : Heap} {v : Value} {x : Str} (r : Rep h v (.str x)) : ∃ t, v = .str x t := r.out
theorem Rep.bytes_ {h : Heap} {v : Value} {b : Array UInt8} (r : Rep h v (.bytes b)) : ∃ t, v = .bytes b t := r.out
theorem Rep.tup_ {h : Heap} {v : Value} {ds : List D} (r : Rep h v (.tup ds)) : ∃ a vs, v = .ref a ∧ IsTp h a vs.toArray ∧ Reps h vs ds := r.out
theorem Rep.lst_ {h : Heap} {v : Value} {a : Addr} (r : Rep h v (.lst a)) : v = .ref a ∧ a ≠ tabA := r.out
theorem Reps.nil_ {h : Heap} {vs : List Value} (r : Reps h vs []) : vs = [] := r.out
theorem Reps.cons_ {h : Heap} {vs : List Value} {d : D} {ds : List D} (r : Reps h vs (d :: ds)) : ∃ v ws, vs = v :: ws ∧ Rep h v d ∧ Reps h ws ds := r.out
theorem Reps.one {h : Heap} {vs : List Value} {d : D} (r : Reps h vs [d]) : ∃ v, vs = [v] ∧ Rep h v d :=
  let ⟨v, _, e, r, rs⟩ := r.cons_; ⟨v, e.trans (congrArg _ rs.nil_), r⟩
theorem Reps.two {h : Heap} {vs : List Value} {d e : D} (r : Reps h vs [d, e]) : ∃ v w, vs = [v, w] ∧ Rep h v d ∧ Rep h w e :=
  let ⟨v, _, e, r, rs⟩ := r.cons_; let ⟨w, e', r'⟩ := rs.one; ⟨v, w, e.trans (congrArg _ e'), r, r'⟩
theorem Reps.three {h : Heap} {vs : List Value} {d e f : D} (r : Reps h vs [d, e, f]) : ∃ v w x, vs = [v, w, x] ∧ Rep h v d ∧ Rep h w e ∧ Rep h x f :=
  let ⟨v, _, e, r, rs⟩ := r.cons_; let ⟨w, x, e', r'⟩ := rs.two; ⟨v, w, x, e.trans (congrArg _ e'), r, r'⟩

/-- tuples stay -/
noncomputable def TupsStay (h h' : Heap) : Prop := ∀ a vs, IsTp h a vs → IsTp h' a vs

theorem Rep.mono {h h' : Heap} (k : TupsStay h h') {v : Value} {d : D} (r : Rep h v d) : Rep h' v d :=
  Rep.rec (motive_1 := fun v d uu => Rep h' v d) (motive_2 := fun vs ds uu => Reps h' vs ds) .raw .none .bool .int .str .bytes (fun ht uu q => .tup (k _ _ ht) q) .lst .nil (fun uu uu a b => .cons a b) r
theorem Reps.mono {h h' : Heap} (k : TupsStay h h') {vs : List Value} {ds : List D} (r : Reps h vs ds) : Reps h' vs ds :=
  Reps.rec (motive_1 := fun v d uu => Rep h' v d) (motive_2 := fun vs ds uu => Reps h' vs ds) .raw .none .bool .int .str .bytes (fun ht uu q => .tup (k _ _ ht) q) .lst .nil (fun uu uu a b => .cons a b) r

theorem Reps.length {h : Heap} {vs : List Value} {ds : List D} (r : Reps h vs ds) : vs.length = ds.length := by
  induction vs generalizing ds with
  | nil => cases r; rfl
  | cons v vs ih => cases r with
    | cons _ r => simp [ih r]
theorem Reps.get {h : Heap} {vs : List Value} {ds : List D} (r : Reps h vs ds) {i : Nat} {d : D} (hi : ds[i]? = some d) : ∃ v, vs[i]? = some v ∧ Rep h v d := by
  induction vs generalizing ds i with
  | nil => cases r; simp at hi
  | cons v vs ih => cases r with
    | cons r1 r =>
      cases i with
      | zero => simp at hi; subst hi; exact ⟨v, rfl, r1⟩
      | succ i => simpa using ih r (by simpa using hi)
theorem Reps.append {h : Heap} {vs ws : List Value} {ds es : List D} (r : Reps h vs ds) (q : Reps h ws es) : Reps h (vs ++ ws) (ds ++ es) := by
  induction vs generalizing ds with
  | nil => cases r; exact q
  | cons v vs ih => cases r with
    | cons r1 r => exact .cons r1 (ih r)
theorem Reps.set {h : Heap} {vs : List Value} {ds : List D} {v : Value} {d : D} (r : Reps h vs ds) (q : Rep h v d) (i : Nat) : Reps h (vs.set i v) (ds.set i d) := by
  induction vs generalizing ds i with
  | nil => cases r; exact .nil
  | cons x vs ih => cases r with
    | cons r1 r =>
      cases i with
      | zero => exact .cons q r
      | succ i => exact .cons r1 (ih r i)

noncomputable abbrev LMap := Addr → Option (List D)
noncomputable def upd (M : LMap) (a : Addr) (ds : List D) : LMap := fun b => if b = a then some ds else M b
theorem upd_same (M : LMap) (a : Addr) (ds : List D) : upd M a ds a = some ds := if_pos rfl
theorem upd_ne {M : LMap} {a b : Addr} {ds : List D} (h : b ≠ a) : upd M a ds b = M b := if_neg h

/-- the lists that are watched: none stands in the base -/
noncomputable def Ent (h : Heap) (a : Addr) (ds : List D) : Prop := (a ≠ tabA ∧ ∃ vs : List Value, IsLs h a vs.toArray ∧ Reps h vs ds) ∨ (a = tabA ∧ TabOk h)
noncomputable def Lists (base h : Heap) (M : LMap) : Prop := ∀ a ds, M a = some ds → base.get? a = .none ∧ Ent h a ds
theorem Ent.turn {h h' : Heap} {a : Addr} {ds : List D} (x : Ent h a ds) (kl : ∀ vs n, h.get? a = some (lstO vs n) → h'.get? a = some (lstO vs n)) (kt : TupsStay h h') (kf : ∀ b o vs, h.get? b = some o → o.data = .fields vs → (b = tabA ∨ ¬ NoCode vs) → h'.get? b = some o) : Ent h' a ds := by
  rcases x with ⟨h1, vs, ⟨n, e⟩, rs⟩ | ⟨h1, x⟩
  · exact .inl ⟨h1, vs, ⟨n, kl _ _ e⟩, rs.mono kt⟩
  · exact .inr ⟨h1, x.turn kf⟩
theorem Ent.at {h : Heap} {a : Addr} {ds : List D} (x : Ent h a ds) : ∃ o, h.get? a = some o := by
  rcases x with ⟨h1, vs, ⟨n, e⟩, rs⟩ | ⟨h1, ps, e, _⟩
  · exact ⟨_, e⟩
  · exact ⟨_, h1 ▸ e⟩
theorem Ent.lst {h : Heap} {a : Addr} {ds : List D} (x : Ent h a ds) (ne : a ≠ tabA) : ∃ vs : List Value, IsLs h a vs.toArray ∧ Reps h vs ds := by
  rcases x with ⟨_, x⟩ | ⟨q, _⟩
  · exact x
  · exact absurd q ne
theorem Lists.lst {base h : Heap} {M : LMap} (L : Lists base h M) {a : Addr} {ds : List D} {v : Value} (e : M a = some ds) (r : Rep h v (.lst a)) : base.get? a = .none ∧ ∃ vs : List Value, IsLs h a vs.toArray ∧ Reps h vs ds := by
  cases r with
  | lst _ ne => exact ⟨(L a ds e).1, (L a ds e).2.lst ne⟩
theorem Lists.fresh {base h : Heap} {M : LMap} (L : Lists base h M) {a : Addr} (hn : h.get? a = .none) : M a = .none := by
  exact none_of fun ds e => by
    obtain ⟨o, ho⟩ := (L _ _ e).2.at
    (first | exact (nne hn ho).elim | exact (dd hn ho rfl).elim | obtain rfl := some_inj hn ho | (rw [hn] at ho; cases ho))

noncomputable def frs (stk : List Env) : List Addr := stk.filterMap (·.frame)

/-- what a tree keeps: all but the watched lists and the own names; frames of the stack up to their slots -/
structure Step (own : List Addr) (stk : List Env) (s : Shared) (M : LMap) (s' : Shared) (M' : LMap) : Prop where
  keep : ∀ b o, s.heap.get? b = some o → M b = .none → b ∉ own → ∃ sl, s'.heap.get? b = some { o with slots := sl } ∧ (b ∉ frs stk → sl = o.slots)
  there : ∀ b o, s.heap.get? b = some o → ∃ o', s'.heap.get? b = some o'
  fresh : ∀ a, M' a ≠ .none → M a ≠ .none ∨ s.heap.get? a = .none
  rest : s' = { s with heap := s'.heap, toks := s'.toks }

noncomputable def OwnOk (own : List Addr) (h : Heap) : Prop := ∀ a ∈ own, ∃ o, h.get? a = some o ∧ (∀ xs n, o.data ≠ .seq xs n) ∧ (∀ vs, o.data ≠ .fields vs)

/-- the frames of the stack: dicts, not of the base -/
noncomputable def FrOk (base : Heap) (stk : List Env) (h : Heap) : Prop := ∀ env ∈ stk, env.scope.kind ≠ .module ∧ ∃ L o es n, env.frame = some L ∧ base.get? L = .none ∧ h.get? L = some o ∧ o.data = .dict es n

theorem FrOk.fun {base h : Heap} : ∀ {stk : List Env}, FrOk base stk h → h.FunFrames base stk
  | [], _ => trivial
  | env :: rest, F => by
    refine hide fun uu kg => ?_
    obtain ⟨hk, L, o, es, n, hf, hb, ho, hd⟩ := F env (.head _)
    refine kg ?_
    exact ⟨hk, ⟨L, o, hf, hb, ho, fun vs q => by (first | exact (nne hd q).elim | exact (dd hd q rfl).elim | obtain rfl := some_inj hd q | (rw [hd] at q; cases q))⟩, FrOk.fun fun e he => F e (.tail _ he)⟩
theorem FrOk.mem {base h : Heap} {stk : List Env} (F : FrOk base stk h) {b : Addr} (hb : b ∈ frs stk) : base.get? b = .none ∧ ∃ o es n, h.get? b = some o ∧ o.data = .dict es n := by
  obtain ⟨env, he, hf⟩ := List.mem_filterMap.mp hb
  refine hide fun uu kg => ?_
  obtain ⟨uu, L, o, es, n, hf', hbn, ho, hd⟩ := F env he
  refine kg ?_
  rw [hf'] at hf
  cases hf
  exact ⟨hbn, o, es, n, ho, hd⟩

section
variable {own : List Addr} {stk : List Env} {s s' s₁ s₂ : Shared} {M M' M₁ M₂ : LMap} {base : Heap}

theorem Lists.notRec (L : Lists base s.heap M) {b : Addr} {o : Obj} (e : s.heap.get? b = some o) (hd : ∀ xs n, o.data ≠ .seq xs n) (ht : b ≠ tabA) : M b = .none := by
  exact none_of fun ds q => by
    obtain ⟨uu, x⟩ := L b ds q
    refine hide fun uu kg => ?_
    obtain ⟨ws, ⟨n, ho'⟩, uu⟩ := x.lst ht
    refine kg ?_
    rw [e] at ho'
    cases ho'
    exact absurd rfl (hd _ _)
theorem Lists.notDict (L : Lists base s.heap M) {b : Addr} {o : Obj} (e : s.heap.get? b = some o) (hd : ∀ xs n, o.data ≠ .seq xs n) (hf : ∀ vs, o.data ≠ .fields vs) : M b = .none := by
  by_cases z : b = tabA
  · exact none_of fun ds q => by
      obtain ⟨uu, x⟩ := L b ds q
      rcases x with ⟨h1, _⟩ | ⟨_, ps, e', _⟩
      · exact absurd z h1
      · rw [← z, e] at e'
        cases e'
        exact absurd rfl (hf _)
  · exact L.notRec e hd z
theorem Lists.notTup (L : Lists base s.heap M) {b : Addr} {vs : Array Value} (ht : IsTp s.heap b vs) : M b = .none := by
  obtain ⟨n, ho⟩ := ht
  exact none_of fun ds q => by
    obtain ⟨uu, x⟩ := L b ds q
    rcases x with ⟨_, ws, ⟨n', ho'⟩, _⟩ | ⟨z, ps, e', _⟩
    · rw [ho] at ho'
      have := congrArg Obj.cls (Option.some.inj ho')
      exact absurd this (show ¬ (Value.type "tuple" = Value.type "list") by decide)
    · rw [← z, ho] at e'
      have := congrArg Obj.data (Option.some.inj e')
      cases this
theorem FrOk.notSeq (F : FrOk base stk s.heap) {b : Addr} {o : Obj} (e : s.heap.get? b = some o) (hd : ∀ es n, o.data ≠ .dict es n) : b ∉ frs stk := fun q => by
  refine hide fun uu kg => ?_
  obtain ⟨uu, o', es, n, ho', hd'⟩ := F.mem q
  refine kg ?_
  rw [e] at ho'
  cases ho'
  exact hd _ _ hd'
theorem Lists.notBase (L : Lists base s.heap M) {b : Addr} {o : Obj} (e : base.get? b = some o) : M b = .none := by
  exact none_of fun ds q => by (first | exact (nne (L b ds q).1 e).elim | exact (dd (L b ds q).1 e rfl).elim | obtain rfl := some_inj (L b ds q).1 e | (rw [(L b ds q).1] at e; cases e))

theorem Step.tups (S : Step own stk s M s' M') (O : OwnOk own s.heap) (L : Lists base s.heap M) (F : FrOk base stk s.heap) : TupsStay s.heap s'.heap := by
  intro a vs ht
  obtain ⟨n, ho⟩ := id ht
  have h1 : M a = .none := L.notTup ht
  have h2 : a ∉ own := fun q => by
    refine hide fun uu kg => ?_
    obtain ⟨o', ho', hs, uu⟩ := O a q
    refine kg ?_
    rw [ho] at ho'
    cases ho'
    exact hs _ _ rfl
  obtain ⟨sl, e, q⟩ := S.keep a _ ho h1 h2
  rw [q (F.notSeq ho fun es n z => by cases z)] at e
  exact ⟨n, e⟩
theorem ownOk_nil (h : Heap) : OwnOk [] h := fun uu q => nomatch q

theorem Step.refl (own : List Addr) (stk : List Env) (s : Shared) (M : LMap) : Step own stk s M s M :=
  ⟨fun uu o e uu uu => ⟨o.slots, e, fun uu => rfl⟩, fun uu o e => ⟨o, e⟩, fun uu h => .inl h, rfl⟩

theorem Step.trans (S : Step own stk s M s₁ M₁) (T : Step own stk s₁ M₁ s₂ M₂) : Step own stk s M s₂ M₂ := by
  refine ⟨fun b o e hM ho => ?_, fun b o e => ?_, fun a h => ?_, ?_⟩
  · obtain ⟨sl, e₁, q₁⟩ := S.keep b o e hM ho
    have hM₁ : M₁ b = .none := by
      exact none_of fun ds q => by
        rcases S.fresh b (by rw [q]; exact fun z => nomatch z) with z | z
        · exact absurd hM z
        · (first | exact (nne e z).elim | exact (dd e z rfl).elim | obtain rfl := some_inj e z | (rw [e] at z; cases z))
    obtain ⟨sl₂, e₂, q₂⟩ := T.keep b _ e₁ hM₁ ho
    exact ⟨sl₂, e₂, fun hb => (q₂ hb).trans (q₁ hb)⟩
  · obtain ⟨o₁, e₁⟩ := S.there b o e
    exact T.there b o₁ e₁
  · rcases T.fresh a h with z | z
    · exact S.fresh a z
    · right
      exact none_of fun o e => by
        obtain ⟨o₁, e₁⟩ := S.there a o e
        (first | exact (nne e₁ z).elim | exact (dd e₁ z rfl).elim | obtain rfl := some_inj e₁ z | (rw [e₁] at z; cases z))
  · rw [T.rest, S.rest]
theorem Step.weaken (S : Step [] stk s M s' M') : Step own stk s M s' M' := ⟨fun b o e hM uu => S.keep b o e hM (fun q => nomatch q), S.there, S.fresh, S.rest⟩

/-- a tree that leaves every object as it stood -/
theorem Step.ofKeeps {h' : Heap} {tk : Nat} (k : ∀ b o, s.heap.get? b = some o → h'.get? b = some o) : Step own stk s M { s with heap := h', toks := tk } M :=
  ⟨fun b o e uu uu => ⟨o.slots, k b o e, fun uu => rfl⟩, fun b o e => ⟨o, k b o e⟩, fun uu h => .inl h, rfl⟩
/-- .. and makes a list that is watched from then on -/
theorem Step.ofNew {h' : Heap} {tk : Nat} {a : Addr} {ds : List D} (k : ∀ b o, s.heap.get? b = some o → h'.get? b = some o) (hn : s.heap.get? a = .none) : Step own stk s M { s with heap := h', toks := tk } (upd M a ds) := by
  refine ⟨fun b o e uu uu => ⟨o.slots, k b o e, fun uu => rfl⟩, fun b o e => ⟨o, k b o e⟩, fun b h => ?_, rfl⟩
  by_cases q : b = a
  · subst q; exact .inr hn
  · rw [upd_ne q] at h; exact .inl h
/-- .. or turns a watched list -/
theorem Step.ofList {h' : Heap} {tk : Nat} {a : Addr} {ds es : List D} (k : Heap.ExtBut a s.heap h') (hM : M a = some es) (ht : ∃ o, h'.get? a = some o) : Step own stk s M { s with heap := h', toks := tk } (upd M a ds) := by
  refine ⟨fun b o e hb uu => ⟨o.slots, k b o (fun q => by subst q; (first | exact (nne hM hb).elim | exact (dd hM hb rfl).elim | obtain rfl := some_inj hM hb | (rw [hM] at hb; cases hb))) e, fun uu => rfl⟩, fun b o e => ?_, fun b h => ?_, rfl⟩
  · by_cases q : b = a
    · subst q; exact ht
    · exact ⟨o, k b o q e⟩
  · by_cases q : b = a
    · subst q; exact .inl (by rw [hM]; exact fun z => nomatch z)
    · rw [upd_ne q] at h; exact .inl h

theorem Step.stays (S : Step own stk s M s' M') (L : Lists base s.heap M) (F : FrOk base stk s.heap) (ob : ∀ a ∈ own, base.get? a = .none) (B : base.StaysIn s.heap) : base.StaysIn s'.heap := by
  intro b o e
  have h1 := B b o e
  obtain ⟨sl, e', q⟩ := S.keep b o h1 (L.notBase e) (fun z => by (first | exact (nne (ob b z) e).elim | exact (dd (ob b z) e rfl).elim | obtain rfl := some_inj (ob b z) e | (rw [ob b z] at e; cases e)))
  rw [q fun z => by rw [(F.mem z).1] at e; cases e] at e'
  exact e'
theorem Step.frOk (S : Step [] stk s M s' M') (L : Lists base s.heap M) (F : FrOk base stk s.heap) : FrOk base stk s'.heap := by
  intro env he
  refine hide fun uu kg => ?_
  obtain ⟨hk, A, o, es, n, hf, hb, ho, hd⟩ := F env he
  refine kg ?_
  obtain ⟨sl, e', uu⟩ := S.keep A o ho (L.notDict ho (fun xs m q => by (first | exact (nne hd q).elim | exact (dd hd q rfl).elim | obtain rfl := some_inj hd q | (rw [hd] at q; cases q))) fun vs q => by (first | exact (nne hd q).elim | exact (dd hd q rfl).elim | obtain rfl := some_inj hd q | (rw [hd] at q; cases q))) (fun z => nomatch z)
  exact ⟨hk, A, _, es, n, hf, hb, e', hd⟩
end

noncomputable def Bound (env : Env) (h : Heap) (x : Str) (v : Value) : Prop :=
  (env.kindOf x = some .local ∧ ∃ m, h.Ns env.locals m ∧ m x = some v) ∨ ((env.kindOf x = some .cell ∨ env.kindOf x = some .free) ∧ ∃ c, env.cells.lookup x = some c ∧ h.IsCell c (some v))

/-- what stands at the top -/
structure GlobB (K : Frag) (p : Program) (loose : List Str) (mg mb : Str → Option Value) (base : Heap) : Prop where
  kin : K.In base
  top : TopRead p loose mg mb base

structure Was where
  of : Addr → Option Obj
  sh : Shared
/-- but for heap and marks the same -/
noncomputable def Like (a b : Shared) : Prop := b = { a with heap := b.heap, toks := b.toks }
theorem Like.up {a b : Shared} (h : Like a b) {h' : Heap} {tk : Nat} : Like a { b with heap := h', toks := tk } := by
  unfold Like at h ⊢
  rw [h]
theorem Like.rest {a b c : Shared} (h : Like a b) (r : c = { b with heap := c.heap, toks := c.toks }) : Like a c := by
  unfold Like at h ⊢
  rw [r, h]
theorem Like.refl (a : Shared) : Like a a := rfl
/-- dicts of an earlier time stand, up to their slots -/
noncomputable def Past (past : Was) (h : Heap) : Prop := ∀ b o, past.of b = some o → (∃ es n, o.data = .dict es n) ∧ ∃ sl, h.get? b = some { o with slots := sl }

structure Cx where
  A : Around
  env : Env
  base : Heap
  past : Was
  stk : List Env
  own : List Addr
  E : Value → Shared → Prop

noncomputable abbrev Locs := List (Str × D)

structure Sit (C : Cx) (s : Shared) (ρ : Locs) (M : LMap) : Prop where
  stays : C.base.StaysIn s.heap
  frames : FrOk C.base C.stk s.heap
  lists : Lists C.base s.heap M
  own : OwnOk C.own s.heap
  ns : ∃ m, s.heap.Ns C.env.locals m
  cells : ∀ x c, C.env.cells.lookup x = some c → ∃ v, s.heap.IsCell c v
  inj : ∀ x y c, C.env.cells.lookup x = some c → C.env.cells.lookup y = some c → x = y
  names : ∀ x d, ρ.lookup x = some d → ∃ v, Bound C.env s.heap x v ∧ Rep s.heap v d
  past : Past C.past s.heap
  like : Like C.past.sh s
  tab : HasTab s.heap

section
variable {C : Cx} {s s' : Shared} {ρ : Locs} {M M' : LMap}
theorem Sit.ev (S : Sit C s ρ M) (T : Step [] C.stk s M s' M') (L : Lists C.base s'.heap M') : Sit C s' ρ M' := by
  have tups := T.tups (ownOk_nil _) S.lists S.frames
  have up : ∀ b o, s.heap.get? b = some o → (∀ xs n, o.data ≠ .seq xs n) → (∀ vs, o.data ≠ .fields vs) → ∃ sl, s'.heap.get? b = some { o with slots := sl } := fun b o e hd hf =>
    let ⟨sl, e', _⟩ := T.keep b o e (S.lists.notDict e hd hf) (fun z => nomatch z); ⟨sl, e'⟩
  have nsUp : ∀ a m, s.heap.Ns a m → s'.heap.Ns a m := fun a m ⟨o, es, ep, ho, hd, hk, hf⟩ => by
    obtain ⟨sl, e⟩ := up a o ho (fun xs n q => by (first | exact (nne hd q).elim | exact (dd hd q rfl).elim | obtain rfl := some_inj hd q | (rw [hd] at q; cases q))) fun vs q => by (first | exact (nne hd q).elim | exact (dd hd q rfl).elim | obtain rfl := some_inj hd q | (rw [hd] at q; cases q))
    exact ⟨_, es, ep, e, hd, hk, hf⟩
  have cellUp : ∀ c v, s.heap.IsCell c v → s'.heap.IsCell c v := fun c v ⟨o, ho, hd⟩ => by
    obtain ⟨sl, e⟩ := up c o ho (fun xs n q => by (first | exact (nne hd q).elim | exact (dd hd q rfl).elim | obtain rfl := some_inj hd q | (rw [hd] at q; cases q))) fun vs q => by (first | exact (nne hd q).elim | exact (dd hd q rfl).elim | obtain rfl := some_inj hd q | (rw [hd] at q; cases q))
    exact ⟨_, e, hd⟩
  refine ⟨T.stays S.lists S.frames (fun uu z => nomatch z) S.stays, T.frOk S.lists S.frames, L, fun a ha => ?_, ?_, fun x c e => ?_, S.inj, fun x d e => ?_, fun b o e => ?_, S.like.rest T.rest, S.tab.mono T.there⟩
  · refine hide fun uu kg => ?_
    obtain ⟨o, ho, h1, h2⟩ := S.own a ha
    refine kg ?_
    obtain ⟨sl, e⟩ := up a o ho h1 h2
    exact ⟨_, e, h1, h2⟩
  · obtain ⟨m, hm⟩ := S.ns
    exact ⟨m, nsUp _ _ hm⟩
  · obtain ⟨v, hv⟩ := S.cells x c e
    exact ⟨v, cellUp _ _ hv⟩
  · obtain ⟨v, hb, hr⟩ := S.names x d e
    refine ⟨v, ?_, hr.mono tups⟩
    rcases hb with ⟨hk, m, hm, hv⟩ | ⟨hk, c, hc, hv⟩
    · exact .inl ⟨hk, m, nsUp _ _ hm, hv⟩
    · exact .inr ⟨hk, c, hc, cellUp _ _ hv⟩
  · refine hide fun uu kg => ?_
    obtain ⟨⟨es, n, hd⟩, sl, ho⟩ := S.past b o e
    refine kg ?_
    obtain ⟨sl', ho'⟩ := up b _ ho (fun xs m q => by rw [show o.data = _ from hd] at q; cases q) fun vs q => by rw [show o.data = _ from hd] at q; cases q
    exact ⟨⟨es, n, hd⟩, sl', ho'⟩
end
theorem Ent.mono {h h' : Heap} {a : Addr} {ds : List D} (x : Ent h a ds) (k : ∀ b o, h.get? b = some o → h'.get? b = some o) : Ent h' a ds :=
  x.turn (fun uu uu e => k _ _ e) (fun uu uu ⟨n, ho⟩ => ⟨n, k _ _ ho⟩) fun b o uu e uu uu => k b o e
theorem Lists.mono {base h h' : Heap} {M : LMap} (L : Lists base h M) (k : ∀ b o, h.get? b = some o → h'.get? b = some o) : Lists base h' M := fun a ds e =>
  ⟨(L a ds e).1, (L a ds e).2.mono k⟩

end Mine

end
section
open PySem PySem.W PyProof.Rows
set_option maxRecDepth 100000
set_option linter.unusedVariables false
namespace Mine

noncomputable def Post (C : Cx) (s : Shared) (M : LMap) (Q : D → LMap → Prop) : Value → Shared → Prop := fun v s' => ∃ d M', Step [] C.stk s M s' M' ∧ Lists C.base s'.heap M' ∧ Rep s'.heap v d ∧ Q d M'
noncomputable def PostB (C : Cx) (s : Shared) (M : LMap) (Q : Bool → LMap → Prop) : Bool → Shared → Prop := fun b s' => ∃ M', Step [] C.stk s M s' M' ∧ Lists C.base s'.heap M' ∧ Q b M'
noncomputable def Posts (C : Cx) (s : Shared) (M : LMap) (Q : List D → LMap → Prop) : List Value → Shared → Prop := fun vs s' => ∃ ds M', Step [] C.stk s M s' M' ∧ Lists C.base s'.heap M' ∧ Reps s'.heap vs ds ∧ Q ds M'

section
variable {prog : Program} {w : World} {C : Cx} {s s₁ s' : Shared} {ρ : Locs} {M M₁ : LMap} {Q : D → LMap → Prop} {QB : Bool → LMap → Prop} {QS : List D → LMap → Prop}

theorem Post.same {v : Value} {d : D} {tk : Nat} (L : Lists C.base s.heap M) (r : Rep s.heap v d) (q : Q d M) : Post C s M Q v { s with toks := tk } :=
  ⟨d, M, Step.ofKeeps fun uu uu e => e, L, r, q⟩
theorem PostB.same {b : Bool} {tk : Nat} (L : Lists C.base s.heap M) (q : QB b M) : PostB C s M QB b { s with toks := tk } :=
  ⟨M, Step.ofKeeps fun uu uu e => e, L, q⟩
theorem Post.trans {v : Value} (S : Step [] C.stk s M s₁ M₁) (P : Post C s₁ M₁ Q v s') : Post C s M Q v s' :=
  let ⟨d, M', T, r⟩ := P; ⟨d, M', S.trans T, r⟩
theorem PostB.trans {v : Bool} (S : Step [] C.stk s M s₁ M₁) (P : PostB C s₁ M₁ QB v s') : PostB C s M QB v s' :=
  let ⟨M', T, r⟩ := P; ⟨M', S.trans T, r⟩
theorem Post.keeps {v : Value} {d : D} {tk : Nat} {h' : Heap} (L : Lists C.base s.heap M) (k : ∀ b o, s.heap.get? b = some o → h'.get? b = some o) (r : Rep h' v d) (q : Q d M) : Post C s M Q v { s with heap := h', toks := tk } :=
  ⟨d, M, Step.ofKeeps k, L.mono k, r, q⟩

/-- an expression -/
noncomputable def Ev (prog : Program) (w : World) (C : Cx) (ρ : Locs) (M : LMap) (e : Expr) (Q : D → LMap → Prop) : Prop := ∀ s, Sit C s ρ M → wpAny (model prog w) C.A (eval e C.env) (Post C s M Q) C.E s
/-- several -/
noncomputable def Evs (prog : Program) (w : World) (C : Cx) (ρ : Locs) (M : LMap) (pos : Pos) (es : List Expr) (Q : List D → LMap → Prop) : Prop := ∀ s, Sit C s ρ M → wpAny (model prog w) C.A (spliced (backTo pos (starEach es C.env))) (Posts C s M Q) C.E s
/-- a test -/
noncomputable def Te (prog : Program) (w : World) (C : Cx) (ρ : Locs) (M : LMap) (e : Expr) (Q : Bool → LMap → Prop) : Prop := ∀ s, Sit C s ρ M → wpAny (model prog w) C.A (isTrue e C.env (eval e C.env)) (PostB C s M Q) C.E s
/-- a tree over values -/
noncomputable def Op1 (prog : Program) (w : World) (C : Cx) (ρ : Locs) (M : LMap) (t : Value → Sem Value) (d : D) (Q : D → LMap → Prop) : Prop := ∀ s v, Sit C s ρ M → Rep s.heap v d → wpAny (model prog w) C.A (t v) (Post C s M Q) C.E s
noncomputable def Op2 (prog : Program) (w : World) (C : Cx) (ρ : Locs) (M : LMap) (t : Value → Value → Sem Value) (d₁ d₂ : D) (Q : D → LMap → Prop) : Prop := ∀ s v₁ v₂, Sit C s ρ M → Rep s.heap v₁ d₁ → Rep s.heap v₂ d₂ → wpAny (model prog w) C.A (t v₁ v₂) (Post C s M Q) C.E s
noncomputable def OpB (prog : Program) (w : World) (C : Cx) (ρ : Locs) (M : LMap) (t : Value → Sem Bool) (d : D) (Q : Bool → LMap → Prop) : Prop := ∀ s v, Sit C s ρ M → Rep s.heap v d → wpAny (model prog w) C.A (t v) (PostB C s M Q) C.E s

/-- what comes after, by name: a name keeps the terms small -/
noncomputable abbrev KO2 (prog : Program) (w : World) (C : Cx) (ρ : Locs) (t : Value → Value → Sem Value) (Q : D → LMap → Prop) (d₁ : D) : D → LMap → Prop := fun d₂ M₂ => Op2 prog w C ρ M₂ t d₁ d₂ Q
noncomputable abbrev KE2 (prog : Program) (w : World) (C : Cx) (ρ : Locs) (t : Value → Value → Sem Value) (Q : D → LMap → Prop) (r : Expr) : D → LMap → Prop := fun d₁ M₁ => Ev prog w C ρ M₁ r (KO2 prog w C ρ t Q d₁)
noncomputable abbrev KO1 (prog : Program) (w : World) (C : Cx) (ρ : Locs) (t : Value → Sem Value) (Q : D → LMap → Prop) : D → LMap → Prop := fun d₁ M₁ => Op1 prog w C ρ M₁ t d₁ Q
noncomputable abbrev KIE (prog : Program) (w : World) (C : Cx) (ρ : Locs) (b o : Expr) (Q : D → LMap → Prop) : Bool → LMap → Prop := fun c M₁ => if c then Ev prog w C ρ M₁ b Q else Ev prog w C ρ M₁ o Q
noncomputable abbrev KBQ (Q : Bool → LMap → Prop) : D → LMap → Prop := fun d M => ∃ b, d = .bool b ∧ Q b M
noncomputable abbrev KNot (Q : Bool → LMap → Prop) : Bool → LMap → Prop := fun b M => Q (!b) M
noncomputable abbrev KDs (Q : List D → LMap → Prop) (d : D) : List D → LMap → Prop := fun ds M => Q (d :: ds) M
noncomputable abbrev KEs (prog : Program) (w : World) (C : Cx) (ρ : Locs) (pos : Pos) (es : List Expr) (Q : List D → LMap → Prop) : D → LMap → Prop := fun d M => Evs prog w C ρ M pos es (KDs Q d)
noncomputable abbrev KTup (Q : D → LMap → Prop) : List D → LMap → Prop := fun ds M => ds.length ≤ sizeLine ∧ Q (.tup ds) M
noncomputable abbrev KLst (Q : D → LMap → Prop) : List D → LMap → Prop := fun ds M => ds.length ≤ sizeLine ∧ ∀ a, M a = .none → Q (.lst a) (upd M a ds)
/-- the first of the arguments bears no star -/
noncomputable abbrev Heads (args : List Expr) (env : Env) : Prop := match args with
  | [] => True
  | e :: es => starEach (e :: es) env = (false, eval e env) :: starEach es env

theorem Ev.use {e : Expr} {Q₁ : D → LMap → Prop} {R : Value → Shared → Prop} (h : Ev prog w C ρ M e Q₁) (S : Sit C s ρ M)
    (k : ∀ s₁ v d M₁, Step [] C.stk s M s₁ M₁ → Sit C s₁ ρ M₁ → Rep s₁.heap v d → Q₁ d M₁ → R v s₁) :
    wpAny (model prog w) C.A (eval e C.env) R C.E s :=
  wpAny_mono (h s S) (fun v s₁ ⟨d, M₁, T, L, r, q⟩ => k s₁ v d M₁ T (S.ev T L) r q) fun uu uu x => x
theorem Te.use {e : Expr} {Q₁ : Bool → LMap → Prop} {R : Bool → Shared → Prop} (h : Te prog w C ρ M e Q₁) (S : Sit C s ρ M)
    (k : ∀ s₁ b M₁, Step [] C.stk s M s₁ M₁ → Sit C s₁ ρ M₁ → Q₁ b M₁ → R b s₁) :
    wpAny (model prog w) C.A (isTrue e C.env (eval e C.env)) R C.E s :=
  wpAny_mono (h s S) (fun v s₁ ⟨M₁, T, L, q⟩ => k s₁ v M₁ T (S.ev T L) q) fun uu uu x => x
theorem Evs.use {es : List Expr} {pos : Pos} {Q₁ : List D → LMap → Prop} {R : List Value → Shared → Prop} (h : Evs prog w C ρ M pos es Q₁) (S : Sit C s ρ M)
    (k : ∀ s₁ vs ds M₁, Step [] C.stk s M s₁ M₁ → Sit C s₁ ρ M₁ → Reps s₁.heap vs ds → Q₁ ds M₁ → R vs s₁) :
    wpAny (model prog w) C.A (spliced (backTo pos (starEach es C.env))) R C.E s :=
  wpAny_mono (h s S) (fun v s₁ ⟨d, M₁, T, L, r, q⟩ => k s₁ v d M₁ T (S.ev T L) r q) fun uu uu x => x
theorem to_trans {t : Sem Value} (T : Step [] C.stk s M s₁ M₁) (h : wpAny (model prog w) C.A t (Post C s₁ M₁ Q) C.E s₁) : wpAny (model prog w) C.A t (Post C s M Q) C.E s₁ :=
  wpAny_mono h (fun uu uu P => P.trans T) fun uu uu x => x
theorem to_transB {t : Sem Bool} (T : Step [] C.stk s M s₁ M₁) (h : wpAny (model prog w) C.A t (PostB C s₁ M₁ QB) C.E s₁) : wpAny (model prog w) C.A t (PostB C s M QB) C.E s₁ :=
  wpAny_mono h (fun uu uu P => P.trans T) fun uu uu x => x

theorem Ev.mono {e : Expr} {Q₁ : D → LMap → Prop} (h : Ev prog w C ρ M e Q₁) (k : ∀ d M, Q₁ d M → Q d M) : Ev prog w C ρ M e Q := fun s S =>
  wpAny_mono (h s S) (fun uu uu ⟨d, M₁, T, L, r, q⟩ => ⟨d, M₁, T, L, r, k _ _ q⟩) fun uu uu x => x

theorem Sit.rep {v : Value} {d : D} (S : Sit C s ρ M) (T : Step [] C.stk s M s₁ M₁) (r : Rep s.heap v d) : Rep s₁.heap v d := r.mono (T.tups (ownOk_nil _) S.lists S.frames)
theorem Sit.reps {v : List Value} {d : List D} (S : Sit C s ρ M) (T : Step [] C.stk s M s₁ M₁) (r : Reps s.heap v d) : Reps s₁.heap v d := r.mono (T.tups (ownOk_nil _) S.lists S.frames)

theorem ev_int {i : Int} {k pos} (q : Q (.int i) M) : Ev prog w C ρ M (.Constant (.int i) k pos) Q := fun uu S => wpAny_Constant_int (Post.same S.lists (.int _ _) q)
theorem ev_str {x : Str} {k pos} (q : Q (.str x) M) : Ev prog w C ρ M (.Constant (.str x) k pos) Q := fun uu S => wpAny_Constant_str (Post.same S.lists (.str _ _) q)
theorem ev_bool {b : Bool} {k pos} (q : Q (.bool b) M) : Ev prog w C ρ M (.Constant (.bool b) k pos) Q := fun s S => wpAny_Constant_bool (Post.same (tk := s.toks) S.lists (.bool _) q)
theorem ev_none {k pos} (q : Q .none M) : Ev prog w C ρ M (.Constant .none k pos) Q := fun s S => wpAny_Constant_none (Post.same (tk := s.toks) S.lists .none q)

theorem ev_name {x : Str} {pos : Pos} {d : D} (hx : ρ.lookup x = some d) (q : Q d M) (hk : C.env.scope.kind = .function) (hd : (x == ("__debug__" : Str)) = false) (hn : (x == ("__classdict__" : Str)) = false) : Ev prog w C ρ M (.Name x pos) Q := fun s S => by
  obtain ⟨v, hb, r⟩ := S.names x d hx
  refine wpAny_Name ?_ hd
  have P : Post C s M Q v s := Post.same (tk := s.toks) S.lists r q
  rcases hb with ⟨hl, m, hm, hv⟩ | ⟨hl | hl, c, hc, hv⟩
  · exact wpAny_loadName_local hk hl hm hv P
  · exact wpAny_loadName_cell hk hl hc hv P
  · exact wpAny_loadName_free hk hl hc hv P hn

theorem ev_binop {l r : Expr} {op : Operator} {pos : Pos} (h : Ev prog w C ρ M l (KE2 prog w C ρ (binaryOp op) Q r)) : Ev prog w C ρ M (.BinOp l op r pos) Q := fun s S => by
  refine wpAny_BinOp (h.use S fun s₁ v₁ d₁ M₁ T₁ S₁ r₁ q₁ => ?_)
  refine Ev.use q₁ S₁ fun s₂ v₂ d₂ M₂ T₂ S₂ r₂ q₂ => ?_
  exact to_trans (T₁.trans T₂) (q₂ s₂ v₁ v₂ S₂ (S₁.rep T₂ r₁) r₂)
theorem ev_compare {l r : Expr} {op : CmpOp} {pos : Pos} (h : Ev prog w C ρ M l (KE2 prog w C ρ (compareOp op) Q r)) (hm : behindInMarks op r = false := by rfl) : Ev prog w C ρ M (.Compare l [op] [r] pos) Q := fun s S => by
  refine wpAny_Compare1 (h.use S fun s₁ v₁ d₁ M₁ T₁ S₁ r₁ q₁ => ?_) hm
  refine Ev.use q₁ S₁ fun s₂ v₂ d₂ M₂ T₂ S₂ r₂ q₂ => ?_
  exact to_trans (T₁.trans T₂) (q₂ s₂ v₁ v₂ S₂ (S₁.rep T₂ r₁) r₂)
theorem ev_unary {x : Expr} {op : UnaryOp} {pos : Pos} (h : Ev prog w C ρ M x (KO1 prog w C ρ (unaryOp op) Q)) : Ev prog w C ρ M (.UnaryOp op x pos) Q := fun s S => by
  refine wpAny_UnaryOp (h.use S fun s₁ v₁ d₁ M₁ T₁ S₁ r₁ q₁ => ?_)
  exact to_trans T₁ (q₁ s₁ v₁ S₁ r₁)
theorem ev_ifexp {t b o : Expr} {pos : Pos} (h : Te prog w C ρ M t (KIE prog w C ρ b o Q)) : Ev prog w C ρ M (.IfExp t b o pos) Q := fun s S =>
  wpAny_IfExp (wpAny_mono (h s S) (fun c s₁ ⟨M₁, T, L, q⟩ => by
    cases c
    · exact wpAny_mono (q s₁ (S.ev T L)) (fun uu uu P => P.trans T) fun uu uu x => x
    · exact wpAny_mono (q s₁ (S.ev T L)) (fun uu uu P => P.trans T) fun uu uu x => x) fun uu uu x => x)

theorem te_compare {l r : Expr} {op : CmpOp} {pos : Pos} (h : Ev prog w C ρ M l (KE2 prog w C ρ (compareOp op) (KBQ QB) r)) (hm : behindInMarks op r = false := by rfl) : Te prog w C ρ M (.Compare l [op] [r] pos) QB := fun s S => by
  refine wpAny_isTrue_Compare1 (h.use S fun s₁ v₁ d₁ M₁ T₁ S₁ r₁ q₁ => ?_) hm
  refine Ev.use q₁ S₁ fun s₂ v₂ d₂ M₂ T₂ S₂ r₂ q₂ => ?_
  refine wpAny_mono (q₂ s₂ v₁ v₂ S₂ (S₁.rep T₂ r₁) r₂) (fun v s₃ P => ?_) fun uu uu x => x
  refine hide fun uu kg => ?_
  obtain ⟨d, M₃, T₃, L₃, r₃, b, hb, q₃⟩ := P
  refine kg ?_
  subst hb
  obtain rfl := r₃.bool_
  exact wpAny_truthy_bool ⟨M₃, (T₁.trans T₂).trans T₃, L₃, q₃⟩
theorem te_not {x : Expr} {pos : Pos} (h : Te prog w C ρ M x (KNot QB)) : Te prog w C ρ M (.UnaryOp .Not x pos) QB := fun s S => wpAny_isTrue_Not (h s S)
/-- a test by a value that is a bool -/
theorem te_value {e : Expr} (h : Ev prog w C ρ M e (KBQ QB)) (he : isTrue e C.env (eval e C.env) = (do let v ← eval e C.env; standAt e.pos; holding [v] (truthy v)) := by rfl) : Te prog w C ρ M e QB := fun s S => by
  refine wpAny_isTrue_value (h.use S fun s₁ v d M₁ T S₁ r q => ?_) he
  obtain ⟨b, hb, q⟩ := q
  subst hb
  obtain rfl := r.bool_
  exact wpAny_truthy_bool ⟨M₁, T, S₁.lists, q⟩

/-- all of, one of -/
noncomputable def Al (prog : Program) (w : World) (C : Cx) (ρ : Locs) (M : LMap) (op : BoolOp) (es : List Expr) (Q : Bool → LMap → Prop) : Prop := ∀ s, Sit C s ρ M → wpAny (model prog w) C.A (allTrue op es C.env) (PostB C s M Q) C.E s
noncomputable abbrev KAnd (prog : Program) (w : World) (C : Cx) (ρ : Locs) (rest : List Expr) (Q : Bool → LMap → Prop) : Bool → LMap → Prop := fun b M₁ => if b then Al prog w C ρ M₁ .And rest Q else Q false M₁
noncomputable abbrev KOr (prog : Program) (w : World) (C : Cx) (ρ : Locs) (rest : List Expr) (Q : Bool → LMap → Prop) : Bool → LMap → Prop := fun b M₁ => if b then Q true M₁ else Al prog w C ρ M₁ .Or rest Q
theorem te_boolop {op : BoolOp} {es : List Expr} {pos : Pos} (h : Al prog w C ρ M op es QB) : Te prog w C ρ M (.BoolOp op es pos) QB := fun s S => wpAny_isTrue_BoolOp (h s S)
theorem al_and_nil (q : QB true M) : Al prog w C ρ M .And [] QB := fun s S => wpAny_allTrue_And_nil (PostB.same (tk := s.toks) S.lists q)
theorem al_or_nil (q : QB false M) : Al prog w C ρ M .Or [] QB := fun s S => wpAny_allTrue_Or_nil (PostB.same (tk := s.toks) S.lists q)
theorem al_and_cons {x : Expr} {rest : List Expr} (h : Te prog w C ρ M x (KAnd prog w C ρ rest QB)) : Al prog w C ρ M .And (x :: rest) QB := fun s S =>
  wpAny_allTrue_And_cons (wpAny_mono (h s S) (fun b s₁ ⟨M₁, T, L, q⟩ => by
    cases b
    · exact ⟨M₁, T, L, q⟩
    · exact wpAny_mono (q s₁ (S.ev T L)) (fun uu uu P => P.trans T) fun uu uu x => x) fun uu uu x => x)
theorem al_or_cons {x : Expr} {rest : List Expr} (h : Te prog w C ρ M x (KOr prog w C ρ rest QB)) : Al prog w C ρ M .Or (x :: rest) QB := fun s S =>
  wpAny_allTrue_Or_cons (wpAny_mono (h s S) (fun b s₁ ⟨M₁, T, L, q⟩ => by
    cases b
    · exact wpAny_mono (q s₁ (S.ev T L)) (fun uu uu P => P.trans T) fun uu uu x => x
    · exact ⟨M₁, T, L, q⟩) fun uu uu x => x)

theorem evs_nil {pos : Pos} (q : QS [] M) : Evs prog w C ρ M pos [] QS := fun s S => wpAny_items_nil ⟨[], M, Step.refl _ _ _ _, S.lists, .nil, q⟩
theorem evs_cons {pos : Pos} {e : Expr} {es : List Expr} (h : Ev prog w C ρ M e (KEs prog w C ρ pos es QS)) (he : starEach (e :: es) C.env = (false, eval e C.env) :: starEach es C.env := by rfl) : Evs prog w C ρ M pos (e :: es) QS := fun s S => by
  refine wpAny_items_cons (h.use S fun s₁ v d M₁ T S₁ r q => ?_) he
  refine Evs.use q S₁ fun s₂ vs ds M₂ T₂ S₂ rs q₂ => ?_
  exact ⟨d :: ds, M₂, T.trans T₂, S₂.lists, .cons (S₁.rep T₂ r) rs, q₂⟩

theorem ev_tuple {es : List Expr} {k : Nat} {pos : Pos} (h : Evs prog w C ρ M pos es (KTup Q)) : Ev prog w C ρ M (.Tuple es k pos) Q := fun s S =>
  wpAny_Tuple (wpAny_mono (h s S) (fun vs s₁ ⟨ds, M₁, T, L, rs, hl, q⟩ => by
    refine ⟨by rw [rs.length]; exact hl, ?_⟩
    have k : ∀ b o, s₁.heap.get? b = some o → (s₁.heap.push { cls := .type "tuple", data := .seq vs.toArray }).get? b = some o := fun b o e => Heap.get?_push_of_some _ e
    refine Post.trans T (Post.keeps (d := .tup ds) (tk := s₁.toks) L k (.tup ⟨0, Heap.get?_push_size _ rfl⟩ (rs.mono fun uu uu ⟨n, ho⟩ => ⟨n, k _ _ ho⟩)) q)) fun uu uu x => x)
theorem get?_size_none (h : Heap) : h.get? h.objs.size = .none := by
  exact none_of fun o q => by exact absurd (Heap.lt_size q) (Nat.lt_irrefl _)
theorem base_size {base h : Heap} (B : base.StaysIn h) : base.get? h.objs.size = .none := B.fresh
theorem ev_list {es : List Expr} {pos : Pos} (h : Evs prog w C ρ M pos es (KLst Q)) : Ev prog w C ρ M (.List es pos) Q := fun s S =>
  wpAny_List (wpAny_mono (h s S) (fun vs s₁ ⟨ds, M₁, T, L, rs, hl, q⟩ => by
    refine ⟨by rw [rs.length]; exact hl, ?_⟩
    have S₁ := S.ev T L
    have k : ∀ b o, s₁.heap.get? b = some o → (s₁.heap.push { cls := .type "list", data := .seq vs.toArray }).get? b = some o := fun b o e => Heap.get?_push_of_some _ e
    have hn := get?_size_none s₁.heap
    have hM : M₁ s₁.heap.objs.size = .none := L.fresh hn
    have hne := S₁.tab.ne hn
    refine Post.trans T ⟨_, _, Step.ofNew (tk := s₁.toks) k hn, fun a es e => ?_, .lst _ hne, q _ hM⟩
    by_cases ha : a = s₁.heap.objs.size
    · subst ha
      rw [upd_same] at e
      cases e
      exact ⟨base_size S₁.stays, .inl ⟨hne, vs, ⟨0, Heap.get?_push_size _ rfl⟩, rs.mono fun uu uu ⟨n, ho⟩ => ⟨n, k _ _ ho⟩⟩⟩
    · rw [upd_ne ha] at e
      exact (L.mono k) a es e) fun uu uu x => x)

-- operators on ints
theorem op_add {i j : Int} (q : Q (.int (i + j)) M) : Op2 prog w C ρ M (binaryOp .Add) (.int i) (.int j) Q := fun s uu uu S r₁ r₂ => by
  obtain ⟨uu, rfl⟩ := r₁.int_; obtain ⟨uu, rfl⟩ := r₂.int_; exact PyProof.Rows.add_int (Post.same S.lists (.int _ _) q)
theorem op_sub {i j : Int} (q : Q (.int (i - j)) M) : Op2 prog w C ρ M (binaryOp .Sub) (.int i) (.int j) Q := fun s uu uu S r₁ r₂ => by
  obtain ⟨uu, rfl⟩ := r₁.int_; obtain ⟨uu, rfl⟩ := r₂.int_; exact PyProof.Rows.sub_int (Post.same S.lists (.int _ _) q)
theorem op_mul {i j : Int} (hm : IntMulOk i j) (q : Q (.int (i * j)) M) : Op2 prog w C ρ M (binaryOp .Mult) (.int i) (.int j) Q := fun s uu uu S r₁ r₂ => by
  obtain ⟨uu, rfl⟩ := r₁.int_; obtain ⟨uu, rfl⟩ := r₂.int_; exact PyProof.Rows.mul_int (Post.same S.lists (.int _ _) q) hm
theorem op_mod {i j : Int} (hj : j ≠ 0) (q : Q (.int (i.fmod j)) M) : Op2 prog w C ρ M (binaryOp .Mod) (.int i) (.int j) Q := fun s uu uu S r₁ r₂ => by
  obtain ⟨uu, rfl⟩ := r₁.int_; obtain ⟨uu, rfl⟩ := r₂.int_; exact PyProof.Rows.mod_int' hj (Post.same S.lists (.int _ _) q)
theorem op_div {i j : Int} (hj : j ≠ 0) (hp : Builtin.divisionGoesByPylong i j = false) (q : Q (.int (i.fdiv j)) M) : Op2 prog w C ρ M (binaryOp .FloorDiv) (.int i) (.int j) Q := fun s uu uu S r₁ r₂ => by
  obtain ⟨uu, rfl⟩ := r₁.int_; obtain ⟨uu, rfl⟩ := r₂.int_; exact PyProof.Rows.floordiv_int hj (Post.same S.lists (.int _ _) q) (.inl hp)
theorem op_pow {i j : Int} (hn : 0 ≤ j) (hn2 : j ≤ 1000000) (ha : i.natAbs < 2 ^ 64) (q : Q (.int (i ^ j.toNat)) M) : Op2 prog w C ρ M (binaryOp .Pow) (.int i) (.int j) Q := fun s uu uu S r₁ r₂ => by
  obtain ⟨uu, rfl⟩ := r₁.int_; obtain ⟨uu, rfl⟩ := r₂.int_; exact PyProof.Rows.pow_int_small hn hn2 ha (Post.same S.lists (.int _ _) q)
theorem op_eq {i j : Int} (q : Q (.bool (i == j)) M) : Op2 prog w C ρ M (compareOp .Eq) (.int i) (.int j) Q := fun s uu uu S r₁ r₂ => by
  obtain ⟨uu, rfl⟩ := r₁.int_; obtain ⟨uu, rfl⟩ := r₂.int_; exact PyProof.Rows.eq_int (Post.same (tk := s.toks) S.lists (.bool _) q)
theorem op_ne {i j : Int} (q : Q (.bool (i != j)) M) : Op2 prog w C ρ M (compareOp .NotEq) (.int i) (.int j) Q := fun s uu uu S r₁ r₂ => by
  obtain ⟨uu, rfl⟩ := r₁.int_; obtain ⟨uu, rfl⟩ := r₂.int_; exact PyProof.Rows.ne_int (Post.same (tk := s.toks) S.lists (.bool _) q)
theorem op_lt {i j : Int} (q : Q (.bool (decide (i < j))) M) : Op2 prog w C ρ M (compareOp .Lt) (.int i) (.int j) Q := fun s uu uu S r₁ r₂ => by
  obtain ⟨uu, rfl⟩ := r₁.int_; obtain ⟨uu, rfl⟩ := r₂.int_; exact PyProof.Rows.lt_int (Post.same (tk := s.toks) S.lists (.bool _) q)
theorem op_gt {i j : Int} (q : Q (.bool (decide (j < i))) M) : Op2 prog w C ρ M (compareOp .Gt) (.int i) (.int j) Q := fun s uu uu S r₁ r₂ => by
  obtain ⟨uu, rfl⟩ := r₁.int_; obtain ⟨uu, rfl⟩ := r₂.int_; exact PyProof.Rows.gt_int (Post.same (tk := s.toks) S.lists (.bool _) q)
theorem op_le {i j : Int} (q : Q (.bool (decide (i ≤ j))) M) : Op2 prog w C ρ M (compareOp .LtE) (.int i) (.int j) Q := fun s uu uu S r₁ r₂ => by
  obtain ⟨uu, rfl⟩ := r₁.int_; obtain ⟨uu, rfl⟩ := r₂.int_; exact PyProof.Rows.le_int (Post.same (tk := s.toks) S.lists (.bool _) q)
theorem op_ge {i j : Int} (q : Q (.bool (decide (j ≤ i))) M) : Op2 prog w C ρ M (compareOp .GtE) (.int i) (.int j) Q := fun s uu uu S r₁ r₂ => by
  obtain ⟨uu, rfl⟩ := r₁.int_; obtain ⟨uu, rfl⟩ := r₂.int_; exact PyProof.Rows.ge_int (Post.same (tk := s.toks) S.lists (.bool _) q)
theorem op_neg {i : Int} (q : Q (.int (-i)) M) : Op1 prog w C ρ M (unaryOp .USub) (.int i) Q := fun s uu S r₁ => by
  obtain ⟨uu, rfl⟩ := r₁.int_; exact PyProof.Rows.neg_int (Post.same S.lists (.int _ _) q)
theorem op_eq_str {i j : Str} (q : Q (.bool (i == j)) M) : Op2 prog w C ρ M (compareOp .Eq) (.str i) (.str j) Q := fun s uu uu S r₁ r₂ => by
  obtain ⟨uu, rfl⟩ := r₁.str_; obtain ⟨uu, rfl⟩ := r₂.str_; exact PyProof.Rows.eq_str (Post.same (tk := s.toks) S.lists (.bool _) q)
theorem op_ne_str {i j : Str} (q : Q (.bool (i != j)) M) : Op2 prog w C ρ M (compareOp .NotEq) (.str i) (.str j) Q := fun s uu uu S r₁ r₂ => by
  obtain ⟨uu, rfl⟩ := r₁.str_; obtain ⟨uu, rfl⟩ := r₂.str_; exact PyProof.Rows.ne_str (Post.same (tk := s.toks) S.lists (.bool _) q)
end
end Mine

end
section
open PySem PySem.W PyProof.Rows
set_option maxRecDepth 100000
set_option linter.unusedVariables false
namespace Mine

noncomputable def PostF (C : Cx) (s : Shared) (M : LMap) (Q : Option D → Locs → LMap → Prop) : Flow → Shared → Prop := fun f s' => ∃ ρ' M', Step C.own C.stk s M s' M' ∧ Sit C s' ρ' M' ∧
  match f with
  | .next => Q .none ρ' M'
  | .ret v => ∃ d, Rep s'.heap v d ∧ Q (some d) ρ' M'
  | _ => False

/-- statements; one statement -/
noncomputable def Ss (prog : Program) (w : World) (C : Cx) (ρ : Locs) (M : LMap) (ss : List Stmt) (Q : Option D → Locs → LMap → Prop) : Prop := ∀ s, Sit C s ρ M → wpAny (model prog w) C.A (execs ss C.env) (PostF C s M Q) C.E s
noncomputable def Sx (prog : Program) (w : World) (C : Cx) (ρ : Locs) (M : LMap) (st : Stmt) (Q : Option D → Locs → LMap → Prop) : Prop := ∀ s, Sit C s ρ M → wpAny (model prog w) C.A (exec st C.env) (PostF C s M Q) C.E s
/-- a target takes a datum -/
noncomputable def As (prog : Program) (w : World) (C : Cx) (ρ : Locs) (M : LMap) (t : Expr) (d : D) (Q : Locs → LMap → Prop) : Prop := ∀ s v, Sit C s ρ M → Rep s.heap v d →
  wpAny (model prog w) C.A (assign t C.env v) (fun uu s' => ∃ ρ' M', Step C.own C.stk s M s' M' ∧ Sit C s' ρ' M' ∧ Q ρ' M') C.E s

section
variable {prog : Program} {w : World} {C : Cx} {s s₁ s' : Shared} {ρ ρ₁ : Locs} {M M₁ : LMap} {Q : Option D → Locs → LMap → Prop}

theorem PostF.trans {f : Flow} (S : Step C.own C.stk s M s₁ M₁) (P : PostF C s₁ M₁ Q f s') : PostF C s M Q f s' :=
  let ⟨ρ', M', T, r⟩ := P; ⟨ρ', M', S.trans T, r⟩
theorem to_transF {t : Sem Flow} (T : Step C.own C.stk s M s₁ M₁) (h : wpAny (model prog w) C.A t (PostF C s₁ M₁ Q) C.E s₁) : wpAny (model prog w) C.A t (PostF C s M Q) C.E s₁ :=
  wpAny_mono h (fun uu uu P => P.trans T) fun uu uu x => x

/-- what comes after a statement, by name -/
noncomputable abbrev KS (prog : Program) (w : World) (C : Cx) (rest : List Stmt) (Q : Option D → Locs → LMap → Prop) : Option D → Locs → LMap → Prop := fun o ρ₁ M₁ => match o with | .none => Ss prog w C ρ₁ M₁ rest Q | some d => Q (some d) ρ₁ M₁
noncomputable abbrev KR (Q : Option D → Locs → LMap → Prop) (ρ : Locs) : D → LMap → Prop := fun d M₁ => Q (some d) ρ M₁
noncomputable abbrev KB (prog : Program) (w : World) (C : Cx) (ρ : Locs) (body orelse : List Stmt) (Q : Option D → Locs → LMap → Prop) : Bool → LMap → Prop := fun b M₁ => if b then Ss prog w C ρ M₁ body Q else Ss prog w C ρ M₁ orelse Q
noncomputable abbrev KN (Q : Option D → Locs → LMap → Prop) : Locs → LMap → Prop := fun ρ M => Q .none ρ M
noncomputable abbrev KA (prog : Program) (w : World) (C : Cx) (ρ : Locs) (t : Expr) (R : Locs → LMap → Prop) : D → LMap → Prop := fun d M₁ => As prog w C ρ M₁ t d R
theorem ss_nil (q : Q .none ρ M) : Ss prog w C ρ M [] Q := fun s S => wpAny_execs_nil ⟨ρ, M, Step.refl _ _ _ _, S, q⟩
theorem ss_cons {st : Stmt} {rest : List Stmt} (h : Sx prog w C ρ M st (KS prog w C rest Q)) : Ss prog w C ρ M (st :: rest) Q := fun s S => by
  refine wpAny_execs_cons (wpAny_mono (h s S) (fun f s₁ P => ?_) fun uu uu x => x)
  refine hide fun uu kg => ?_
  obtain ⟨ρ₁, M₁, T, S₁, q⟩ := P
  refine kg ?_
  cases f with
  | next => exact to_transF T (q s₁ S₁)
  | ret v => obtain ⟨d, r, q⟩ := q; exact ⟨ρ₁, M₁, T, S₁, d, r, q⟩
  | brk => exact q.elim
  | cont => exact q.elim
theorem sx_return {e : Expr} {pos : Pos} (h : Ev prog w C ρ M e (KR Q ρ)) : Sx prog w C ρ M (.Return (some e) pos) Q := fun s S =>
  wpAny_Return_some (h.use S fun s₁ v d M₁ T S₁ r q => ⟨ρ, M₁, T.weaken, S₁, d, r, q⟩)
theorem sx_if {t : Expr} {body orelse : List Stmt} {pos : Pos} (h : Te prog w C ρ M t (KB prog w C ρ body orelse Q)) : Sx prog w C ρ M (.If t body orelse pos) Q := fun s S => by
  refine wpAny_If (h.use S fun s₁ b M₁ T S₁ q => ?_)
  cases b
  · exact to_transF T.weaken (q s₁ S₁)
  · exact to_transF T.weaken (q s₁ S₁)

theorem ns_unique {h : Heap} {a : Addr} {m m' : Str → Option Value} (x : h.Ns a m) (y : h.Ns a m') : m = m' := by
  refine hide fun uu kg => ?_
  obtain ⟨o, es, ep, ho, hd, uu, hf⟩ := x
  refine kg ?_
  refine hide fun uu kg => ?_
  obtain ⟨o', es', ep', ho', hd', uu, hf'⟩ := y
  refine kg ?_
  (first | exact (nne ho ho').elim | exact (dd ho ho' rfl).elim | obtain rfl := some_inj ho ho' | (rw [ho] at ho'; cases ho'))
  (first | exact (nne hd hd').elim | exact (dd hd hd' rfl).elim | obtain rfl := some_inj hd hd' | (rw [hd] at hd'; cases hd'))
  funext n
  rw [← hf n, ← hf' n]

theorem step_ofOwn {h' : Heap} {tk : Nat} {a : Addr} (k : Heap.SameBut a s.heap h') (ha : a ∈ C.own) (ht : ∃ o, h'.get? a = some o) : Step C.own C.stk s M { s with heap := h', toks := tk } M := by
  refine ⟨fun b o e hb ho => ⟨o.slots, (k.2 b fun q => ho (by rw [q]; exact ha)).trans e, fun uu => rfl⟩, fun b o e => ?_, fun uu h => .inl h, rfl⟩
  by_cases q : b = a
  · subst q; exact ht
  · exact ⟨o, (k.2 b q).trans e⟩

theorem sit_local {x : Str} {v : Value} {d : D} {h' : Heap} {tk : Nat} {m : Str → Option Value} (S : Sit C s ρ M) (r : Rep s.heap v d) (hl : C.env.kindOf x = some .local) (hown : C.env.locals ∈ C.own) (hob : C.base.get? C.env.locals = .none) (hop : C.past.of C.env.locals = .none) (hm : s.heap.Ns C.env.locals m)
    (hn : h'.Ns C.env.locals (fun y => if y = x then some v else m y)) (hs : Heap.SameBut C.env.locals s.heap h') : Sit C { s with heap := h', toks := tk } ((x, d) :: ρ) M := by
  refine hide fun uu kg => ?_
  obtain ⟨oL, esL, epL, hoL, hdL, uu⟩ := id hm
  refine kg ?_
  have notL : ∀ b o, s.heap.get? b = some o → (∀ es n, o.data ≠ .dict es n) → h'.get? b = some o := fun b o e hd => (hs.2 b fun q => by (first | exact (nb q hoL e).elim | obtain rfl := sb q hoL e | (rw [q, hoL] at e; cases e)); exact hd _ _ hdL).trans e
  have tups : TupsStay s.heap h' := fun a vs ⟨n, ho⟩ => ⟨n, notL a _ ho (fun es k q => by cases q)⟩
  refine ⟨fun b o e => (hs.2 b fun q => by (first | exact (nb q hob e).elim | obtain rfl := sb q hob e | (rw [q, hob] at e; cases e))).trans (S.stays b o e), fun env he => ?_, fun a ds e => ?_, fun a ha => ?_, ⟨_, hn⟩, fun y c e => ?_, S.inj, fun y e hy => ?_, fun b o e => ⟨(S.past b o e).1, (S.past b o e).2.imp fun sl z => (hs.2 b fun q => by (first | exact (nb q hop e).elim | obtain rfl := sb q hop e | (rw [q, hop] at e; cases e))).trans z⟩, S.like.up, S.tab.same hs (let ⟨o, _, _, ho, _⟩ := hn; ⟨o, ho⟩)⟩
  · refine hide fun uu kg => ?_
    obtain ⟨hk, L, o, es, n, hf, hb, ho, hd⟩ := S.frames env he
    refine kg ?_
    by_cases q : L = C.env.locals
    · refine hide fun uu kg => ?_
      obtain ⟨o', es', ep', ho', hd', uu⟩ := hn
      refine kg ?_
      exact ⟨hk, L, o', es', ep', hf, hb, by rw [q]; exact ho', hd'⟩
    · exact ⟨hk, L, o, es, n, hf, hb, (hs.2 L q).trans ho, hd⟩
  · exact ⟨(S.lists a ds e).1, (S.lists a ds e).2.turn (fun vs n e => notL a _ e fun es k q => by cases q) tups fun b o vs e hd uu => notL b o e fun es k q => by (first | exact (nne hd q).elim | exact (dd hd q rfl).elim | obtain rfl := some_inj hd q | (rw [hd] at q; cases q))⟩
  · refine hide fun uu kg => ?_
    obtain ⟨o, ho, h1, h2⟩ := S.own a ha
    refine kg ?_
    by_cases q : a = C.env.locals
    · refine hide fun uu kg => ?_
      obtain ⟨o', es', ep', ho', hd', uu⟩ := hn
      refine kg ?_
      exact ⟨o', by rw [q]; exact ho', (fun xs n z => by rw [hd'] at z; cases z), fun vs z => by (first | exact (nne hd' z).elim | exact (dd hd' z rfl).elim | obtain rfl := some_inj hd' z | (rw [hd'] at z; cases z))⟩
    · exact ⟨o, (hs.2 a q).trans ho, h1, h2⟩
  · refine hide fun uu kg => ?_
    obtain ⟨v', o, ho, hd⟩ := S.cells y c e
    refine kg ?_
    exact ⟨v', o, notL c o ho (fun es k q => by (first | exact (nne hd q).elim | exact (dd hd q rfl).elim | obtain rfl := some_inj hd q | (rw [hd] at q; cases q))), hd⟩
  · rw [List.lookup_cons] at hy
    by_cases q : y = x
    · subst q
      simp only [beq_self_eq_true] at hy
      cases hy
      exact ⟨v, .inl ⟨hl, _, hn, if_pos rfl⟩, r.mono tups⟩
    · have qb : (y == x) = false := by simpa using q
      rw [qb] at hy
      obtain ⟨v', hb, r'⟩ := S.names y e hy
      refine ⟨v', ?_, r'.mono tups⟩
      rcases hb with ⟨hk, m', hm', hv⟩ | ⟨hk, c, hc, o, ho, hd⟩
      · rw [ns_unique hm' hm] at hv
        exact .inl ⟨hk, _, hn, by rw [if_neg q]; exact hv⟩
      · exact .inr ⟨hk, c, hc, o, notL c o ho (fun es k q => by (first | exact (nne hd q).elim | exact (dd hd q rfl).elim | obtain rfl := some_inj hd q | (rw [hd] at q; cases q))), hd⟩

theorem sit_cell {x : Str} {v : Value} {d : D} {h' : Heap} {tk : Nat} {c : Addr} (S : Sit C s ρ M) (r : Rep s.heap v d) (hl : C.env.kindOf x = some .cell) (hc : C.env.cells.lookup x = some c) (hown : c ∈ C.own) (hob : C.base.get? c = .none) (hop : C.past.of c = .none)
    (hn : h'.IsCell c (some v)) (hs : Heap.SameBut c s.heap h') : Sit C { s with heap := h', toks := tk } ((x, d) :: ρ) M := by
  refine hide fun uu kg => ?_
  obtain ⟨v₀, oL, hoL, hdL⟩ := S.cells x c hc
  refine kg ?_
  have notL : ∀ b o, s.heap.get? b = some o → (∀ v, o.data ≠ .cell v) → h'.get? b = some o := fun b o e hd => (hs.2 b fun q => by (first | exact (nb q hoL e).elim | obtain rfl := sb q hoL e | (rw [q, hoL] at e; cases e)); exact hd _ hdL).trans e
  have tups : TupsStay s.heap h' := fun a vs ⟨n, ho⟩ => ⟨n, notL a _ ho (fun k q => by cases q)⟩
  have nsUp : ∀ a m, s.heap.Ns a m → h'.Ns a m := fun a m ⟨o, es, ep, ho, hd, k⟩ => ⟨o, es, ep, notL a o ho (fun k q => by (first | exact (nne hd q).elim | exact (dd hd q rfl).elim | obtain rfl := some_inj hd q | (rw [hd] at q; cases q))), hd, k⟩
  refine ⟨fun b o e => (hs.2 b fun q => by (first | exact (nb q hob e).elim | obtain rfl := sb q hob e | (rw [q, hob] at e; cases e))).trans (S.stays b o e), fun env he => ?_, fun a ds e => ?_, fun a ha => ?_, ?_, fun y c' e => ?_, S.inj, fun y e hy => ?_, fun b o e => ⟨(S.past b o e).1, (S.past b o e).2.imp fun sl z => (hs.2 b fun q => by (first | exact (nb q hop e).elim | obtain rfl := sb q hop e | (rw [q, hop] at e; cases e))).trans z⟩, S.like.up, S.tab.same hs (let ⟨o, ho, _⟩ := hn; ⟨o, ho⟩)⟩
  · refine hide fun uu kg => ?_
    obtain ⟨hk, L, o, es, n, hf, hb, ho, hd⟩ := S.frames env he
    refine kg ?_
    exact ⟨hk, L, o, es, n, hf, hb, notL L o ho (fun k q => by (first | exact (nne hd q).elim | exact (dd hd q rfl).elim | obtain rfl := some_inj hd q | (rw [hd] at q; cases q))), hd⟩
  · exact ⟨(S.lists a ds e).1, (S.lists a ds e).2.turn (fun vs n e => notL a _ e fun k q => by cases q) tups fun b o vs e hd uu => notL b o e fun k q => by (first | exact (nne hd q).elim | exact (dd hd q rfl).elim | obtain rfl := some_inj hd q | (rw [hd] at q; cases q))⟩
  · refine hide fun uu kg => ?_
    obtain ⟨o, ho, h1, h2⟩ := S.own a ha
    refine kg ?_
    by_cases q : a = c
    · obtain ⟨o', ho', hd'⟩ := hn
      exact ⟨o', by rw [q]; exact ho', (fun xs n z => by rw [hd'] at z; cases z), fun vs z => by (first | exact (nne hd' z).elim | exact (dd hd' z rfl).elim | obtain rfl := some_inj hd' z | (rw [hd'] at z; cases z))⟩
    · exact ⟨o, (hs.2 a q).trans ho, h1, h2⟩
  · obtain ⟨m, hm⟩ := S.ns
    exact ⟨m, nsUp _ _ hm⟩
  · by_cases q : c' = c
    · subst q; exact ⟨_, hn⟩
    · refine hide fun uu kg => ?_
      obtain ⟨v', o, ho, hd⟩ := S.cells y c' e
      refine kg ?_
      exact ⟨v', o, (hs.2 c' q).trans ho, hd⟩
  · rw [List.lookup_cons] at hy
    by_cases q : y = x
    · subst q
      simp only [beq_self_eq_true] at hy
      cases hy
      exact ⟨v, .inr ⟨.inl hl, c, hc, hn⟩, r.mono tups⟩
    · have qb : (y == x) = false := by simpa using q
      rw [qb] at hy
      obtain ⟨v', hb, r'⟩ := S.names y e hy
      refine ⟨v', ?_, r'.mono tups⟩
      rcases hb with ⟨hk, m', hm', hv⟩ | ⟨hk, c', hc', o, ho, hd⟩
      · exact .inl ⟨hk, m', nsUp _ _ hm', hv⟩
      · have hne : c' ≠ c := fun z => q (S.inj y x c (z ▸ hc') hc)
        exact .inr ⟨hk, c', hc', o, (hs.2 c' hne).trans ho, hd⟩

/-- the constants of an activation -/
structure CxOk (G : Heap → Prop) (C : Cx) (n : Nat) : Prop where
  frames : C.A.frames = some C.stk
  depth : C.A.depth + n < recursionLimit
  units : C.A.units + 10 * n < cLine
  handled : C.A.handled = .none
  glob : G C.base
  ownBase : ∀ a ∈ C.own, C.base.get? a = .none
  ownPast : ∀ a ∈ C.own, C.past.of a = .none
  kind : C.env.scope.kind = .function
  globals : C.env.globals = mainGlobals
  builtins : C.env.builtins = builtinsNs

variable {G : Heap → Prop} {n : Nat}
theorem store_name {x : Str} {v : Value} {d : D} {R : Locs → LMap → Prop} (K : CxOk G C n) (hl : (C.env.kindOf x = some .local ∧ C.env.locals ∈ C.own) ∨ (C.env.kindOf x = some .cell ∧ ∃ c, C.env.cells.lookup x = some c ∧ c ∈ C.own)) (q : R ((x, d) :: ρ) M) (S : Sit C s ρ M) (r : Rep s.heap v d) :
    wpAny (model prog w) C.A (storeName C.env x v) (fun uu s' => ∃ ρ' M', Step C.own C.stk s M s' M' ∧ Sit C s' ρ' M' ∧ R ρ' M') C.E s := by
  rcases hl with ⟨hl, hlo⟩ | ⟨hl, c, hc, hco⟩
  · obtain ⟨m, hm⟩ := S.ns
    refine wpAny_storeName_local hl hm (fun h' hn hs => ⟨_, M, step_ofOwn hs hlo ?_, sit_local S r hl hlo (K.ownBase _ hlo) (K.ownPast _ hlo) hm hn hs, q⟩) (by rw [K.kind]; rfl)
    refine hide fun uu kg => ?_
    obtain ⟨o, uu, uu, ho, uu⟩ := hn
    refine kg ?_
    exact ⟨o, ho⟩
  · obtain ⟨v₀, hv₀⟩ := S.cells x c hc
    refine wpAny_storeName_cell K.kind hl hc hv₀ fun h' hn hs => ⟨_, M, step_ofOwn (tk := s.toks) hs hco ?_, sit_cell (tk := s.toks) S r hl hc hco (K.ownBase _ hco) (K.ownPast _ hco) hn hs, q⟩
    obtain ⟨o, ho, uu⟩ := hn
    exact ⟨o, ho⟩
theorem as_name {x : Str} {pos : Pos} {d : D} {R : Locs → LMap → Prop} (K : CxOk G C n) (q : R ((x, d) :: ρ) M) (hl : (C.env.kindOf x = some .local ∧ C.env.locals ∈ C.own) ∨ (C.env.kindOf x = some .cell ∧ ∃ c, C.env.cells.lookup x = some c ∧ c ∈ C.own)) : As prog w C ρ M (.Name x pos) d R := fun s v S r => by
  show wpAny _ _ (do standAt pos; bindName C.env x v) _ _ s
  exact wpAny_bind (wpAny_standAt (wpAny_bindName (store_name K hl q S r)))
/-- one target -/
theorem sx_assign {t value : Expr} {pos : Pos} (h : Ev prog w C ρ M value (KA prog w C ρ t (KN Q)))
    (he : (assignEach [t] C.env).map (·.2) = [assign t C.env] := by rfl) (hs : swapsWithSole [t] value pos.line C.env = pure false := by rfl) (hw : swappedStores [t] value C.env = pure none := by rfl) : Sx prog w C ρ M (.Assign [t] value pos) Q := fun s S => by
  refine wpAny_Assign_stores (h.use S fun s₁ v d M₁ T S₁ r q => ?_) hs hw
  rw [he]
  refine wpAny_mono (q s₁ v S₁ r) (fun uu s₂ P => ?_) fun uu uu x => x
  refine hide fun uu kg => ?_
  obtain ⟨ρ', M', T₂, S₂, q₂⟩ := P
  refine kg ?_
  exact ⟨ρ', M', T.weaken.trans T₂, S₂, q₂⟩
end
end Mine

end
section
open PySem PySem.W PyProof.Rows
set_option maxRecDepth 100000
set_option linter.unusedVariables false
namespace Mine

/-- a callable's contract: it does not raise -/
noncomputable def Fn (prog : Program) (w : World) (G : Heap → Prop) (f : Value) (n : Nat) (ds : List D) (M : LMap) (Q : D → LMap → Prop) : Prop :=
  ∀ (A : Around) (stk : List Env) (base : Heap) (s : Shared) (vs : List Value) (E : Value → Shared → Prop),
    A.frames = some stk → A.depth + n < recursionLimit → A.units + 10 * n < cLine → A.handled = .none → G base → base.StaysIn s.heap → FrOk base stk s.heap → Lists base s.heap M → HasTab s.heap → Reps s.heap vs ds →
    wpAny (model prog w) A (call f vs) (fun v s' => ∃ d M', Step [] stk s M s' M' ∧ Lists base s'.heap M' ∧ Rep s'.heap v d ∧ Q d M') E s

section
variable {prog : Program} {w : World} {C : Cx} {s s₁ s' : Shared} {ρ ρ₁ : Locs} {M M₁ : LMap} {G : Heap → Prop} {n : Nat}

theorem Step.leave {own : List Addr} {stk : List Env} {M' : LMap} {env : Env} {L : Addr} {h₁ : Heap} {tk : Nat} (k : ∀ b o, s.heap.get? b = some o → h₁.get? b = some o) (hn : ∀ a ∈ own, s.heap.get? a = .none) (hf : env.frame = some L) (hL : L ∈ own)
    (T : Step own (env :: stk) { s with heap := h₁, toks := tk } M s' M') : Step [] stk s M s' M' := by
  refine ⟨fun b o e hM uu => ?_, fun b o e => T.there b o (k b o e), fun a h => ?_, T.rest⟩
  · have hb : b ∉ own := fun q => by (first | exact (nne (hn b q) e).elim | exact (dd (hn b q) e rfl).elim | obtain rfl := some_inj (hn b q) e | (rw [hn b q] at e; cases e))
    obtain ⟨sl, e', q⟩ := T.keep b o (k b o e) hM hb
    refine ⟨sl, e', fun hs => q fun z => ?_⟩
    unfold frs at z
    rw [List.filterMap_cons, hf] at z
    rcases List.mem_cons.mp z with z | z
    · exact hb (z ▸ hL)
    · exact hs z
  · rcases T.fresh a h with z | z
    · exact .inl z
    · right
      exact none_of fun o q => by (first | exact (nne (k a o q) z).elim | exact (dd (k a o q) z rfl).elim | obtain rfl := some_inj (k a o q) z | (rw [k a o q] at z; cases z))

theorem zip_lookup {h : Heap} : ∀ {xs : List Str} {vs : List Value} {ds : List D}, Reps h vs ds → ∀ {x : Str} {d : D}, (xs.zip ds).lookup x = some d → ∃ v, (xs.zip vs).lookup x = some v ∧ Rep h v d
  | [], _, _, _, _, _, e => by simp at e
  | _ :: _, _, [], _, _, _, e => by simp at e
  | y :: xs, _, _ :: _, rs, x, d, e => by
    obtain ⟨_, _, rfl, r, rs⟩ := rs.cons_
    rw [List.zip_cons_cons, List.lookup_cons] at e ⊢
    cases q : x == y with
    | true => (first | exact (nne q e).elim | exact (dd q e rfl).elim | obtain rfl := some_inj q e | (rw [q] at e; cases e)); exact ⟨_, rfl, r⟩
    | false => rw [q] at e; exact zip_lookup rs e

theorem lookup_rev_nodup {α : Type} : ∀ {l : List (Str × α)}, (l.map (·.1)).Nodup → ∀ x, l.reverse.lookup x = l.lookup x
  | [], _, _ => rfl
  | (k, a) :: l, hn, x => by
    rw [List.map_cons, List.nodup_cons] at hn
    rw [List.reverse_cons, List.lookup_append, lookup_rev_nodup hn.2, List.lookup_cons]
    cases q : x == k with
    | true =>
      have hx : x = k := by simpa using q
      have : l.lookup x = .none := by
        exact none_of fun v e => by exact absurd (hx ▸ List.mem_map_of_mem (f := (·.1)) (mem_of_lookup e)) hn.1
      rw [this]
      simp [List.lookup_cons, q]
    | false => simp [List.lookup_cons, q]

theorem zip_keys {α : Type} : ∀ (xs : List Str) (vs : List α), (xs.map id).Nodup → ((xs.zip vs).map (·.1)).Nodup
  | [], _, _ => List.nodup_nil
  | _ :: _, [], _ => List.nodup_nil
  | x :: xs, v :: vs, h => by
    rw [List.map_cons, List.nodup_cons] at h
    rw [List.zip_cons_cons, List.map_cons, List.nodup_cons]
    refine ⟨fun q => h.1 ?_, zip_keys xs vs h.2⟩
    obtain ⟨p, hp, e⟩ := List.mem_map.mp q
    have := (List.of_mem_zip (show (p.1, p.2) ∈ xs.zip vs from hp)).1
    rw [e] at this
    simpa using this

theorem deeper_frames {A : Around} {stk : List Env} {env : Env} (h : A.frames = some stk) : (A.deeper env).frames = some (env :: stk) := by
  show A.frames.map _ = _
  rw [h]; rfl

/-- fewer lists are watched -/
noncomputable def Sub (M' M : LMap) : Prop := ∀ a ds, M' a = some ds → M a = some ds
theorem Sub.refl (M : LMap) : Sub M M := fun uu uu e => e
theorem Lists.sub {base h : Heap} {M M' : LMap} (L : Lists base h M) (k : Sub M' M) : Lists base h M' := fun a ds e => L a ds (k a ds e)
theorem Step.sub {own : List Addr} {stk : List Env} {s s' : Shared} {M M' M'' : LMap} (S : Step own stk s M s' M') (k : Sub M'' M') : Step own stk s M s' M'' :=
  ⟨S.keep, S.there, fun a h => S.fresh a fun q => h (by
    exact none_of fun ds e => by (first | exact (nne (k a ds e) q).elim | exact (dd (k a ds e) q rfl).elim | obtain rfl := some_inj (k a ds e) q | (rw [k a ds e] at q; cases q))), S.rest⟩

/-- an exception of the program's own flies: the record, its text -/
structure IsPanic (h : Heap) (past : Was) (e : Addr) (X : Array UInt8 → Prop) : Prop where
  is : ∃ (oe : Obj) (vs : Array Value) (da t : Addr) (m : Str → Option Value) (k : Tok) (b : Array UInt8) (x y : Value), h.get? e = some oe ∧ oe.cls = .ref 52 ∧ oe.data = .fields vs ∧ oe.dict = some da ∧ h.Ns da m ∧ m (Str.ofString "value") = some (.ref t) ∧ h.IsTuple t #[x, y, .bytes b k] ∧ X b ∧ past.of da = .none
/-- where its traceback stands: none, or an entry with a mark -/
noncomputable def Marked (h base : Heap) (e : Addr) (ok : Value) (orNone : Prop) : Prop := ∃ oe vs, h.get? e = some oe ∧ oe.data = .fields vs ∧
  ((orNone ∧ vs[1]? = some .none) ∨ ∃ T oT ts, vs[1]? = some (.ref T) ∧ base.get? T = .none ∧ T ≠ e ∧ h.get? T = some oT ∧ oT.data = .fields ts ∧ ts[3]? = some ok)
structure Fly (base : Heap) (past : Was) (stk : List Env) (X : Array UInt8 → Prop) (ok : Value) (orNone : Prop) (v : Value) (s : Shared) : Prop where
  stays : base.StaysIn s.heap
  frames : FrOk base stk s.heap
  was : Past past s.heap
  like : Like past.sh s
  is : ∃ e, v = .ref e ∧ base.get? e = .none ∧ IsPanic s.heap past e X ∧ Marked s.heap base e ok orNone
/-- .. has left the callee -/
noncomputable abbrev Left (base : Heap) (past : Was) (stk : List Env) (X : Array UInt8 → Prop) : Value → Shared → Prop := Fly base past stk X .none False
/-- .. is noted in the activation of L -/
noncomputable abbrev Noted (base : Heap) (past : Was) (stk : List Env) (X : Array UInt8 → Prop) (L : Addr) : Value → Shared → Prop := Fly base past stk X (rawInt L) False

/-- a callable's contract: it may raise -/
noncomputable def FnX (prog : Program) (w : World) (G : Heap → Prop) (f : Value) (n : Nat) (ds : List D) (M : LMap) (Q : D → LMap → Prop) (X : Array UInt8 → Prop) : Prop :=
  ∀ (A : Around) (stk : List Env) (base : Heap) (past : Was) (s : Shared) (vs : List Value) (E : Value → Shared → Prop),
    A.frames = some stk → A.depth + n < recursionLimit → A.units + 10 * n < cLine → A.handled = .none → G base → base.StaysIn s.heap → FrOk base stk s.heap → Lists base s.heap M → HasTab s.heap → Reps s.heap vs ds → Past past s.heap → Like past.sh s →
    (∀ v s', Left base past stk X v s' → E v s') →
    wpAny (model prog w) A (call f vs) (fun v s' => ∃ d M', Step [] stk s M s' M' ∧ Lists base s'.heap M' ∧ Rep s'.heap v d ∧ Q d M') E s
theorem Fly.no {X : Array UInt8 → Prop} (no : ∀ b, ¬ X b) {base : Heap} {past : Was} {stk : List Env} {k : Value} {o : Prop} {v : Value} {s : Shared} (F : Fly base past stk X k o v s) : False := by
  refine hide fun uu kg => ?_
  obtain ⟨e, uu, uu, P, uu⟩ := F.is
  refine kg ?_
  refine hide fun uu kg => ?_
  obtain ⟨uu, uu, uu, uu, uu, uu, b, uu, uu, uu, uu, uu, uu, uu, uu, uu, hb, uu⟩ := P.is
  refine kg ?_
  exact no b hb
theorem FnX.fn {f : Value} {ds : List D} {Q : D → LMap → Prop} {X : Array UInt8 → Prop} (h : FnX prog w G f n ds M Q X) (no : ∀ b, ¬ X b) : Fn prog w G f n ds M Q :=
  fun A stk base s vs E h1 h2 h3 h4 h5 h6 h7 h8 ht h9 => h A stk base ⟨fun uu => .none, s⟩ s vs E h1 h2 h3 h4 h5 h6 h7 h8 ht h9 (fun uu uu e => nomatch e) (Like.refl s) fun v s' F => (F.no no).elim

theorem IsPanic.keeps {h h' : Heap} {past : Was} {e : Addr} {X : Array UInt8 → Prop} (P : IsPanic h past e X) (he : ∀ oe vs, h.get? e = some oe → oe.data = .fields vs → ∃ oe' vs', h'.get? e = some oe' ∧ oe'.cls = oe.cls ∧ oe'.data = .fields vs' ∧ oe'.dict = oe.dict)
    (k : h.UpToSlots h') : IsPanic h' past e X := by
  refine hide fun uu kg => ?_
  obtain ⟨oe, vs, da, t, m, k', b, x, y, h1, h2, h3, h4, h5, h6, h7, h8⟩ := P.is
  refine kg ?_
  refine hide fun uu kg => ?_
  obtain ⟨oe', vs', g1, g2, g3, g4⟩ := he oe vs h1 h3
  refine kg ?_
  refine hide fun uu kg => ?_
  obtain ⟨ot, hot, hct, nt, hdt⟩ := h7
  refine kg ?_
  obtain ⟨sl', hot'⟩ := k t ot hot fun vs q => by (first | exact (nne hdt q).elim | exact (dd hdt q rfl).elim | obtain rfl := some_inj hdt q | (rw [hdt] at q; cases q))
  exact ⟨oe', vs', da, t, m, k', b, x, y, g1, g2.trans h2, g3, g4.trans h4, k.ns h5, h6, ⟨_, hot', hct, nt, hdt⟩, h8⟩
theorem Past.slots {past : Was} {h h' : Heap} (P : Past past h) (k : h.UpToSlots h') : Past past h' := fun b o e => by
  refine hide fun uu kg => ?_
  obtain ⟨⟨es, n, hd⟩, sl, ho⟩ := P b o e
  refine kg ?_
  obtain ⟨sl', ho'⟩ := k b _ ho fun vs q => by rw [show o.data = _ from hd] at q; cases q
  exact ⟨⟨es, n, hd⟩, sl', ho'⟩
theorem FrOk.slots {base h h' : Heap} {stk : List Env} (F : FrOk base stk h) (k : h.UpToSlots h') : FrOk base stk h' := fun env he => by
  refine hide fun uu kg => ?_
  obtain ⟨hk, L, o, es, n, hf, hb, ho, hd⟩ := F env he
  refine kg ?_
  obtain ⟨sl, ho'⟩ := k L o ho fun vs q => by (first | exact (nne hd q).elim | exact (dd hd q rfl).elim | obtain rfl := some_inj hd q | (rw [hd] at q; cases q))
  exact ⟨hk, L, _, es, n, hf, hb, ho', hd⟩

theorem entry_panic {A : Around} {base : Heap} {past : Was} {env env' : Env} {outer : List Env} {L e : Addr} {oe : Obj} {vs : Array Value} {head : Value} {hadNext : Bool} {X : Array UInt8 → Prop} {E : Value → Shared → Prop} {Md : Model} {R : Unit → Shared → Prop}
    (hfr : A.frames = some (env :: outer)) (hl : FrOk base (env :: outer) s.heap) (hp : Past past s.heap) (hlk : Like past.sh s) (hf : env.frame = some L) (hf' : env'.frame = some L)
    (he : s.heap.get? e = some oe) (hkb : base.StaysIn s.heap) (hen : base.get? e = none) (hd : oe.data = .fields vs) (hsz : 1 < vs.size) (P : IsPanic s.heap past e X)
    (h : ∀ h', Noted base past (env :: outer) X L (.ref e) { s with heap := h' } → s.heap.UpToSlots h' → R () { s with heap := h' }) :
    wpAny Md A (do let a ← frameOf env'; let pl ← entryPlaceOf L hadNext; let b ← EntryCells.newEntry head a .none (rawInt L) .none pl; setField (.ref e) 1 b) R E s := by
  have hene : e ∉ frs (env :: outer) := fun hm => by
    refine hide fun uu kg => ?_
    obtain ⟨uu, o, es, n, ho, hnf⟩ := hl.mem hm
    refine kg ?_
    rw [he] at ho; injection ho with ho; subst ho; rw [hd] at hnf; cases hnf
  have hfe : PySem.frameOf env' = PySem.frameOf env := by unfold PySem.frameOf; rw [hf, hf']
  rw [hfe]
  refine wpAny_bind (wpAny_frameOf_fun hfr hl.fun hf fun h₁ hs₁ => ?_)
  refine wpAny_bind (wpAny_entryPlaceOf fun pl hpl => ?_)
  unfold EntryCells.newEntry newFields
  refine wpAny_bind (wpAny_newObj_type ?_ (hpl.sizeOk5 _ _ _ _ _))
  have he₁ : h₁.get? e = some oe := (hs₁.2.1 e hene).trans he
  have kb₁ : base.StaysIn h₁ := fun b o hbo => (hs₁.2.1 b fun hm => by (first | exact (nne (hl.mem hm).1 hbo).elim | exact (dd (hl.mem hm).1 hbo rfl).elim | obtain rfl := some_inj (hl.mem hm).1 hbo | (rw [(hl.mem hm).1] at hbo; cases hbo))).trans (hkb b o hbo)
  have he₂ := Heap.get?_push_of_some (h := h₁) { cls := .type "traceback", dict := none, data := .fields ([head, .ref L, .none, rawInt L, .none] ++ (if pl.isEmpty then List.replicate 6 Value.none else pl)).toArray } he₁
  refine wpAny_setField he₂ hd hsz (h _ ?_ ?_)
  have hTe : h₁.objs.size ≠ e := Nat.ne_of_gt (Heap.lt_size he₁)
  have hd₃ := Obj.data_mapFields hd (·.setIfInBounds 1 (Value.ref h₁.objs.size))
  have he₃ := Heap.get?_update_self (Obj.mapFields (·.setIfInBounds 1 (Value.ref h₁.objs.size))) he₂ (Obj.isFreed_of_fields hd₃)
  have hT₃ := (Heap.get?_update_other (h₁.push { cls := .type "traceback", dict := none, data := .fields ([head, .ref L, .none, rawInt L, .none] ++ (if pl.isEmpty then List.replicate 6 Value.none else pl)).toArray })
    (Obj.mapFields (·.setIfInBounds 1 (Value.ref h₁.objs.size))) (Ne.symm hTe)).trans (Heap.get?_push_size h₁ rfl)
  have keep : ∀ b o, b ≠ e → h₁.get? b = some o →
      ((h₁.push { cls := .type "traceback", dict := none, data := .fields ([head, .ref L, .none, rawInt L, .none] ++ (if pl.isEmpty then List.replicate 6 Value.none else pl)).toArray }).update e (Obj.mapFields (·.setIfInBounds 1 (Value.ref h₁.objs.size)))).get? b = some o := fun b o hbe hb => by
    rw [Heap.get?_update_other _ _ (Ne.symm hbe)]
    exact Heap.get?_push_of_some _ hb
  have up : s.heap.UpToSlots ((h₁.push { cls := .type "traceback", dict := none, data := .fields ([head, .ref L, .none, rawInt L, .none] ++ (if pl.isEmpty then List.replicate 6 Value.none else pl)).toArray }).update e (Obj.mapFields (·.setIfInBounds 1 (Value.ref h₁.objs.size)))) := fun b o hb hnf => by
    obtain ⟨sl, hs⟩ := hs₁.2.2 b o hb
    exact ⟨sl, keep b _ (fun q => by rw [q, he] at hb; injection hb with hb; subst hb; exact hnf vs hd) hs⟩
  · refine ⟨fun b o hbo => keep b o (fun q => by (first | exact (nb q hen hbo).elim | obtain rfl := sb q hen hbo | (rw [q, hen] at hbo; cases hbo))) (kb₁ b o hbo), hl.slots up, hp.slots up, hlk.up, e, rfl, hen, P.keeps (fun oe' vs' g1 g2 => ?_) up, ?_⟩
    · (first | exact (nne he g1).elim | exact (dd he g1 rfl).elim | obtain rfl := some_inj he g1 | (rw [he] at g1; cases g1))
      exact ⟨_, _, he₃, Obj.cls_mapFields _ _, hd₃, by obtain ⟨c, d, dt, s0⟩ := oe; simp only at hd; subst hd; rfl⟩
    · exact ⟨_, _, he₃, hd₃, .inr ⟨h₁.objs.size, _, _, by simp [hsz], kb₁.fresh, hTe, hT₃, rfl, by first | (simp; done) | (rcases hpl with rfl | ⟨_, _, _, _, _, _, _, rfl⟩ <;> simp)⟩⟩
  · have hTe : h₁.objs.size ≠ e := Nat.ne_of_gt (Heap.lt_size he₁)
    exact fun b o hb hnf => by
      obtain ⟨sl, hs⟩ := hs₁.2.2 b o hb
      refine ⟨sl, ?_⟩
      rw [Heap.get?_update_other _ _ (Ne.symm fun q => by rw [q, he] at hb; injection hb with hb; subst hb; exact hnf vs hd)]
      exact Heap.get?_push_of_some _ hs

/-- the look at a raise on its way, in the activation's own tree or a comprehension's -/
theorem Fly.note {Md : Model} {A : Around} {base : Heap} {past : Was} {env env' : Env} {stk : List Env} {L : Addr} {X : Array UInt8 → Prop} {k : Value} {o : Prop} {v : Value} {E : Value → Shared → Prop} {R : Unit → Shared → Prop} (hfr : A.frames = some (env :: stk)) (hf : env.frame = some L) (hf' : env'.frame = some L) (F : Fly base past (env :: stk) X k o v s)
    (h : ∀ h', Noted base past (env :: stk) X L v { s with heap := h' } → R () { s with heap := h' }) : wpAny Md A (noteFrame v env') R E s := by
  refine hide fun uu kg => ?_
  obtain ⟨e, rfl, hen, P, oe, vs, he, hd, hm⟩ := F.is
  refine kg ?_
  unfold noteFrame
  simp only [hf']
  rcases hm with ⟨_, h1⟩ | ⟨T, oT, ts, h1, hnT, hTe, hT, hdT, h3⟩
  · refine wpAny_bind (wpAny_field he hd h1 ?_)
    refine wp_ff (by decide) ?_
    exact entry_panic hfr F.frames F.was F.like hf hf' he F.stays hen hd (Array.getElem?_eq_some_iff.mp h1).1 P fun h' q uu => h h' q
  · refine wpAny_bind (wpAny_field he hd h1 ?_)
    refine wp_tt (show (Value.ref T != Value.none) = true from by simp) ?_
    refine wpAny_bind (wpAny_field hT hdT h3 ?_)
    by_cases hk : (k == rawInt L) = true
    · refine wp_tt hk ?_
      have hkk : k = rawInt L := eq_of_beq hk
      subst hkk
      exact wpAny_pure (h s.heap ⟨F.stays, F.frames, F.was, F.like, e, rfl, hen, P, oe, vs, he, hd, .inr ⟨T, oT, ts, h1, hnT, hTe, hT, hdT, h3⟩⟩)
    refine wp_ff hk ?_
    refine wpAny_bind (wpAny_setField hT hdT (Array.getElem?_eq_some_iff.mp h3).1 ?_)
    have other : ∀ b, b ≠ T → (s.heap.update T (Obj.mapFields (·.setIfInBounds 3 Value.none))).get? b = s.heap.get? b := fun b hb => Heap.get?_update_other _ _ (Ne.symm hb)
    have up : s.heap.UpToSlots (s.heap.update T (Obj.mapFields (·.setIfInBounds 3 Value.none))) := fun b o hb hnf => ⟨o.slots, (other b fun q => by
      rw [q, hT] at hb; injection hb with hb; subst hb; exact hnf ts hdT).trans hb⟩
    exact entry_panic (s := { s with heap := s.heap.update T (Obj.mapFields (·.setIfInBounds 3 Value.none)) }) hfr (F.frames.slots up) (F.was.slots up) F.like.up hf hf' ((other e (Ne.symm hTe)).trans he)
      (fun b o hbo => (other b fun q => by (first | exact (nb q hnT hbo).elim | obtain rfl := sb q hnT hbo | (rw [q, hnT] at hbo; cases hbo))).trans (F.stays b o hbo)) hen hd (Array.getElem?_eq_some_iff.mp h1).1
      (P.keeps (fun oe' vs' g1 g2 => ⟨oe', vs', (other e (Ne.symm hTe)).trans g1, rfl, g2, rfl⟩) up) fun h' q uu => h h' q
/-- the mark is set anew -/
theorem Fly.setFlight {Md : Model} {A : Around} {base : Heap} {past : Was} {stk : List Env} {k : Value} {X : Array UInt8 → Prop} {v : Value} {fl : Option Addr} {E : Value → Shared → Prop} {R : Unit → Shared → Prop} (F : Fly base past stk X k False v s)
    (h : ∀ h', Fly base past stk X (fl.elim .none fun f => rawInt f) False v { s with heap := h' } → R () { s with heap := h' }) : wpAny Md A (setFlight v fl) R E s := by
  refine hide fun uu kg => ?_
  obtain ⟨e, rfl, hen, P, oe, vs, he, hd, hm⟩ := F.is
  refine kg ?_
  rcases hm with ⟨x, _⟩ | ⟨T, oT, ts, h1, hnT, hTe, hT, hdT, h3⟩
  · exact x.elim
  unfold PySem.setFlight
  refine wpAny_bind (wpAny_field he hd h1 ?_)
  refine wp_tt (show (Value.ref T != Value.none) = true from by simp) ?_
  have h3' : 3 < ts.size := (Array.getElem?_eq_some_iff.mp h3).1
  have other : ∀ b, b ≠ T → (s.heap.update T (Obj.mapFields (·.setIfInBounds 3 (fl.elim Value.none fun f => rawInt f)))).get? b = s.heap.get? b := fun b hb => Heap.get?_update_other _ _ (Ne.symm hb)
  have up : s.heap.UpToSlots (s.heap.update T (Obj.mapFields (·.setIfInBounds 3 (fl.elim Value.none fun f => rawInt f)))) := fun b o hb hnf => ⟨o.slots, (other b fun q => by
    rw [q, hT] at hb; injection hb with hb; subst hb; exact hnf ts hdT).trans hb⟩
  refine wpAny_setField hT hdT h3' (h _ ⟨fun b o hbo => (other b fun q => by (first | exact (nb q hnT hbo).elim | obtain rfl := sb q hnT hbo | (rw [q, hnT] at hbo; cases hbo))).trans (F.stays b o hbo), F.frames.slots up, F.was.slots up, F.like.up, e, rfl, hen,
    P.keeps (fun oe' vs' g1 g2 => ⟨oe', vs', (other e (Ne.symm hTe)).trans g1, rfl, g2, rfl⟩) up, oe, vs, (other e (Ne.symm hTe)).trans he, hd, .inr ⟨T, _, _, h1, hnT, hTe, Heap.get?_update_self _ hT (Obj.isFreed_of_fields (Obj.data_mapFields hdT _)), Obj.data_mapFields hdT _, by simp [h3']⟩⟩)
theorem Fly.outer {base : Heap} {past : Was} {env : Env} {stk : List Env} {X : Array UInt8 → Prop} {k : Value} {o : Prop} {v : Value} (F : Fly base past (env :: stk) X k o v s) : Fly base past stk X k o v s := ⟨F.stays, fun x hx => F.frames x (.tail _ hx), F.was, F.like, F.is⟩

/-- the context takes such raises -/
noncomputable def Takes (C : Cx) (X : Array UInt8 → Prop) : Prop := ∀ k o v s', Fly C.base C.past C.stk X k o v s' → C.E v s'
theorem Fly.less {base : Heap} {past past' : Was} {stk : List Env} {X : Array UInt8 → Prop} {k : Value} {o : Prop} {v : Value} {L : Addr} {h' : Heap} (F : Fly base past stk X k o v s) (hb : base.get? L = .none) (hL : ∃ ob, past.of L = some ob) (hf : L ∉ frs stk) (hsh : past'.sh = past.sh) (hl : ∀ b ob, past'.of b = some ob → past.of b = some ob ∧ b ≠ L) (hs : Heap.SameBut L s.heap h') :
    Fly base past' stk X k o v { s with heap := h' } := by
  obtain ⟨oL, hoL⟩ := hL
  refine hide fun uu kg => ?_
  obtain ⟨⟨esL, nL, hdL⟩, slL, hgL⟩ := F.was L oL hoL
  refine kg ?_
  have keep : ∀ b ob, b ≠ L → s.heap.get? b = some ob → h'.get? b = some ob := fun b ob hne e => (hs.2 b hne).trans e
  refine hide fun uu kg => ?_
  obtain ⟨e, rfl, hen, P, oe, vs, he, hd, hm⟩ := F.is
  refine kg ?_
  have notL : ∀ b ob, s.heap.get? b = some ob → (∀ es n, ob.data ≠ .dict es n) → b ≠ L := fun b ob e hd q => by
    (first | exact (nb q hgL e).elim | obtain rfl := sb q hgL e | (rw [q, hgL] at e; cases e)); exact hd _ _ (show oL.data = _ from hdL)
  have he' : h'.get? e = some oe := keep e oe (notL e oe he fun es n q => by (first | exact (nne hd q).elim | exact (dd hd q rfl).elim | obtain rfl := some_inj hd q | (rw [hd] at q; cases q))) he
  refine ⟨fun b ob e => keep b ob (fun q => by (first | exact (nb q hb e).elim | obtain rfl := sb q hb e | (rw [q, hb] at e; cases e))) (F.stays b ob e), fun env hen' => ?_, fun b ob e => ?_, by rw [hsh]; exact F.like.up, e, rfl, hen, ?_, oe, vs, he', hd, ?_⟩
  · refine hide fun uu kg => ?_
    obtain ⟨hk, A, o', es, n, hfA, hbA, ho, hdA⟩ := F.frames env hen'
    refine kg ?_
    exact ⟨hk, A, o', es, n, hfA, hbA, keep A o' (fun q => hf (q ▸ List.mem_filterMap.mpr ⟨env, hen', hfA⟩)) ho, hdA⟩
  · obtain ⟨h1, h2⟩ := hl b ob e
    obtain ⟨h3, sl, h4⟩ := F.was b ob h1
    exact ⟨h3, sl, keep b _ h2 h4⟩
  · refine hide fun uu kg => ?_
    obtain ⟨oe', vs', da, t, m, k', bb, x, y, h1, h2, h3, h4, h5, h6, ⟨ot, hot, hct, nt, hdt⟩, h8, h9⟩ := P.is
    refine kg ?_
    (first | exact (nne he h1).elim | exact (dd he h1 rfl).elim | obtain rfl := some_inj he h1 | (rw [he] at h1; cases h1))
    have hda : da ≠ L := fun q => by (first | exact (nb q hoL h9).elim | obtain rfl := sb q hoL h9 | (rw [q, hoL] at h9; cases h9))
    refine hide fun uu kg => ?_
    obtain ⟨od, es, ep, hod, hdd, r⟩ := h5
    refine kg ?_
    refine ⟨oe, vs', da, t, m, k', bb, x, y, he', h2, h3, h4, ⟨od, es, ep, keep da od hda hod, hdd, r⟩, h6, ⟨ot, keep t ot (notL t ot hot fun es n q => by (first | exact (nne hdt q).elim | exact (dd hdt q rfl).elim | obtain rfl := some_inj hdt q | (rw [hdt] at q; cases q))) hot, hct, nt, hdt⟩, h8, ?_⟩
    exact none_of fun ob q => by (first | exact (nne (hl da ob q).1 h9).elim | exact (dd (hl da ob q).1 h9 rfl).elim | obtain rfl := some_inj (hl da ob q).1 h9 | (rw [(hl da ob q).1] at h9; cases h9))
  · rcases hm with h | ⟨T, oT, ts, h1, hnT, hTe, hT, hdT, h3⟩
    · exact .inl h
    · exact .inr ⟨T, oT, ts, h1, hnT, hTe, keep T oT (notL T oT hT fun es n q => by (first | exact (nne hdT q).elim | exact (dd hdT q rfl).elim | obtain rfl := some_inj hdT q | (rw [hdT] at q; cases q))) hT, hdT, h3⟩
/-- what a raise in the body brings about -/
noncomputable abbrev Leaves (Md : Model) (A : Around) (env : Env) (base : Heap) (past : Was) (stk : List Env) (X : Array UInt8 → Prop) : Value → Shared → Prop :=
  fun e s' => wpAny Md A (leaving env e) (fun uu s'' => Left base past stk X e s'') (fun uu uu => False) s'
theorem Fly.leaves {Md : Model} {A : Around} {base : Heap} {past : Was} {env : Env} {stk : List Env} {L : Addr} {X : Array UInt8 → Prop} {k : Value} {o : Prop} {v : Value} (hfr : A.frames = some (env :: stk)) (hf : env.frame = some L) (F : Fly base past (env :: stk) X k o v s) :
    Leaves Md A env base past stk X v s := by
  unfold Leaves leaving
  exact wpAny_bind (F.note hfr hf hf fun h' q => q.setFlight fun h'' q => q.outer)

/-- the frame of a def without cells -/
noncomputable abbrev cxOf (Md : Model) (A : Around) (env : Env) (base : Heap) (past : Was) (stk : List Env) (L : Addr) (X : Array UInt8 → Prop) : Cx := { A := A.deeper env, env, base, past, stk := env :: stk, own := [L], E := Leaves Md (A.deeper env) env base past stk X }

/-- what a def hands back -/
noncomputable abbrev KRet (Q : D → LMap → Prop) : Option D → Locs → LMap → Prop := fun o uu M' => ∃ M'', Sub M'' M' ∧ Q (o.getD .none) M''
theorem fn_x {K : Frag} {f : Addr} {oc : Value} {od : Option Addr} {osl : Array (Option Value)} {name qual : Str} {params : Arguments} {body : List Stmt} {scope : Scope} {dV kV doc pm cdv ct : Value} {an : Option Addr} {xs : List Str} {ds : List D} {Q : D → LMap → Prop} {X : Array UInt8 → Prop}
    (hK : K.lookup f = some ⟨oc, od, .func (fnOf name qual params body scope dV kV doc pm an cdv ct), osl⟩) (hcd : codeIn K cdv qual = true)
    (hG : ∀ base, G base → K.In base ∧ base.NoLimit)
    (hbind : ∀ (s : Shared) (vs : List Value), vs.length = ds.length → BindsTo s (fnOf name qual params body scope dV kV doc pm an cdv ct) ⟨vs, []⟩ (xs.zip vs))
    (hx : (xs.all fun x => scope.names.lookup x == some .local) = true) (hnd : (xs.map id).Nodup) (hcell : (scope.names.all fun x => x.2 != .cell) = true)
    (hbody : ∀ A base past stk L, let C : Cx := cxOf (model prog w) A (envOf qual scope L f cdv) base past stk L X; let Q0 : Option D → Locs → LMap → Prop := KRet Q; CxOk G C n → Ss prog w C (xs.zip ds) M body Q0)
    (hco : scope.isCoroutine = false := by rfl) (hgen : scope.isGenerator = false := by rfl) (hk : scope.kind = .function := by rfl) : FnX prog w G (.ref f) (n + 1) ds M Q X := by
  intro A stk base past s vs E hfr hd hu hh hGb B F L ht R hp hlk hE
  obtain ⟨X', hlim⟩ := hG base hGb
  have X'' : K.In s.heap := X'.keeps B
  refine wpAny_call (codeAny_call_def (fd := fnOf name qual params body scope dV kV doc pm an cdv ct) (body := body) (binds := xs.zip vs) (by omega) (X'' _ _ hK) rfl (hlim.keeps B) (codeRec_of X'' hcd) rfl (hbind s vs R.length) (fun x hx' => by
      have := List.all_eq_true.mp hcell x hx'
      simpa using this) (fun y hy => by
      have hm := (List.of_mem_zip (show (y.1, y.2) ∈ xs.zip vs from hy)).1
      have := List.all_eq_true.mp hx y.1 hm
      simpa using this) (fun h₁ hns hk₁ => ?_) hco hgen hk)
  have hL : s.heap.get? s.heap.objs.size = .none := get?_size_none _
  have hbL : base.get? s.heap.objs.size = .none := B.fresh
  have hpL : past.of s.heap.objs.size = .none := by
    exact none_of fun o q => by
      obtain ⟨uu, sl, e⟩ := hp _ _ q
      (first | exact (nne hL e).elim | exact (dd hL e rfl).elim | obtain rfl := some_inj hL e | (rw [hL] at e; cases e))
  refine hide fun uu kg => ?_
  obtain ⟨oL, es, ep, hoL, hdL, hks, hfs⟩ := id hns
  refine kg ?_
  have K1 : CxOk G (cxOf (model prog w) A (envOf qual scope s.heap.objs.size f cdv) base past stk s.heap.objs.size X) n := by
    refine ⟨deeper_frames hfr, ?_, ?_, hh, hGb, fun a ha => ?_, fun a ha => ?_, hk, rfl, rfl⟩
    · show A.depth + 1 + n < recursionLimit
      omega
    · show A.units + 3 + 10 * n < cLine
      omega
    · rw [List.mem_singleton.mp ha]; exact hbL
    · rw [List.mem_singleton.mp ha]; exact hpL
  have tups : TupsStay s.heap h₁ := fun a vs ⟨n, ho⟩ => ⟨n, hk₁ a _ ho⟩
  have S1 : Sit (cxOf (model prog w) A (envOf qual scope s.heap.objs.size f cdv) base past stk s.heap.objs.size X) { s with heap := h₁, toks := s.toks + (xs.zip vs).length } (xs.zip ds) M := by
    refine ⟨fun b o e => hk₁ b o (B b o e), fun env he => ?_, L.mono hk₁, fun a ha => ?_, ⟨_, hns⟩, (fun x c e => nomatch e), (fun x y c e => nomatch e), fun x d e => ?_, fun b o e => ⟨(hp b o e).1, (hp b o e).2.imp fun sl z => hk₁ _ _ z⟩, hlk.up, ht.mono fun b o e => ⟨o, hk₁ b o e⟩⟩
    · rcases List.mem_cons.mp he with rfl | he
      · exact ⟨by show scope.kind ≠ .module; rw [hk]; decide, _, oL, es, ep, rfl, hbL, hoL, hdL⟩
      · refine hide fun uu kg => ?_
        obtain ⟨q1, L', o, es', n', q2, q3, q4, q5⟩ := F env he
        refine kg ?_
        exact ⟨q1, L', o, es', n', q2, q3, hk₁ _ _ q4, q5⟩
    · rw [List.mem_singleton.mp ha]
      exact ⟨oL, hoL, (fun xs n z => by (first | exact (nne hdL z).elim | exact (dd hdL z rfl).elim | obtain rfl := some_inj hdL z | (rw [hdL] at z; cases z))), fun vs z => by (first | exact (nne hdL z).elim | exact (dd hdL z rfl).elim | obtain rfl := some_inj hdL z | (rw [hdL] at z; cases z))⟩
    · obtain ⟨v, hv, r⟩ := zip_lookup R e
      refine ⟨v, .inl ⟨?_, _, hns, ?_⟩, r.mono tups⟩
      · have hm := (List.of_mem_zip (mem_of_lookup hv)).1
        have := List.all_eq_true.mp hx x hm
        show scope.names.lookup x = _
        simpa using this
      · rw [lookup_rev_nodup (zip_keys xs vs hnd)]; exact hv
  refine wpAny_mono (hbody A base past stk _ K1 _ S1) (fun fl s' P => ?_) fun e s' h' => ?_
  · refine hide fun uu kg => ?_
    obtain ⟨ρ', M', T, S', q⟩ := P
    refine kg ?_
    have T' : Step [] stk s M s' M' := T.leave hk₁ (fun a ha => by rw [List.mem_singleton.mp ha]; exact hL) rfl (.head _)
    cases fl with
    | next => obtain ⟨M'', k, q⟩ := q; exact ⟨.none, M'', T'.sub k, S'.lists.sub k, .none, q⟩
    | ret v => obtain ⟨d, r, M'', k, q⟩ := q; exact ⟨d, M'', T'.sub k, S'.lists.sub k, r, q⟩
    | brk => exact q.elim
    | cont => exact q.elim
  · exact wpAny_mono h' (fun uu s'' F => hE _ _ F) fun uu uu x => x.elim

theorem fn_plain {K : Frag} {f : Addr} {oc : Value} {od : Option Addr} {osl : Array (Option Value)} {name qual : Str} {params : Arguments} {body : List Stmt} {scope : Scope} {dV kV doc pm cdv ct : Value} {an : Option Addr} {xs : List Str} {ds : List D} {Q : D → LMap → Prop}
    (hK : K.lookup f = some ⟨oc, od, .func (fnOf name qual params body scope dV kV doc pm an cdv ct), osl⟩) (hcd : codeIn K cdv qual = true)
    (hG : ∀ base, G base → K.In base ∧ base.NoLimit)
    (hbind : ∀ (s : Shared) (vs : List Value), vs.length = ds.length → BindsTo s (fnOf name qual params body scope dV kV doc pm an cdv ct) ⟨vs, []⟩ (xs.zip vs))
    (hx : (xs.all fun x => scope.names.lookup x == some .local) = true) (hnd : (xs.map id).Nodup) (hcell : (scope.names.all fun x => x.2 != .cell) = true)
    (hbody : ∀ A base past stk L, let C : Cx := cxOf (model prog w) A (envOf qual scope L f cdv) base past stk L fun uu => False; let Q0 : Option D → Locs → LMap → Prop := KRet Q; CxOk G C n → Ss prog w C (xs.zip ds) M body Q0)
    (hco : scope.isCoroutine = false := by rfl) (hgen : scope.isGenerator = false := by rfl) (hk : scope.kind = .function := by rfl) : Fn prog w G (.ref f) (n + 1) ds M Q :=
  (fn_x hK hcd hG hbind hx hnd hcell hbody hco hgen hk).fn fun uu x => x

noncomputable def OpN (prog : Program) (w : World) (C : Cx) (ρ : Locs) (M : LMap) (t : List Value → Sem Value) (ds : List D) (Q : D → LMap → Prop) : Prop := ∀ s vs, Sit C s ρ M → Reps s.heap vs ds → wpAny (model prog w) C.A (t vs) (Post C s M Q) C.E s

variable {Q : D → LMap → Prop}
theorem args_use {pos : Pos} {args : List Expr} {Q₁ : List D → LMap → Prop} {f : Value} {R : Args → Shared → Prop} (h : Evs prog w C ρ M pos args Q₁) (S : Sit C s ρ M)
    (k : ∀ s₁ vs ds M₁, Step [] C.stk s M s₁ M₁ → Sit C s₁ ρ M₁ → Reps s₁.heap vs ds → Q₁ ds M₁ → R ⟨vs, []⟩ s₁)
    (he : Heads args C.env) : wpAny (model prog w) C.A (evalArgs f true (backTo pos (starEach args C.env)) []) R C.E s := by
  cases args with
  | nil =>
    have q := h.use S k
    show wpAny (model prog w) C.A (evalArgs f true [] []) R C.E s
    unfold evalArgs
    show wpAny (model prog w) C.A (spliced [] >>= _) R C.E s
    refine wpAny_bind (wpAny_mono q (fun vs s' h' => ?_) fun uu uu x => x)
    refine wpAny_bind (wpAny_pure ?_)
    refine wpAny_holding ?_
    exact wpAny_bind (wpAny_pure (wpAny_bind (wpAny_pure (wpAny_pure h'))))
  | cons e es =>
    have q := h.use S k
    have he' : starEach (e :: es) C.env = (false, eval e C.env) :: starEach es C.env := he
    rw [he'] at q ⊢
    exact Calls.evalArgs_plain q
end
end Mine

end
section
open PySem PySem.W PyProof.Rows
set_option maxRecDepth 100000
set_option linter.unusedVariables false
namespace Mine

section
variable {prog : Program} {w : World} {C : Cx} {s s₁ s' : Shared} {ρ ρ₁ : Locs} {M M₁ : LMap} {G : Heap → Prop} {n : Nat} {Q : D → LMap → Prop} {K : Frag} {p : Program} {loose : List Str} {mg mb : Str → Option Value}

/-- a global name -/
theorem ev_global {x : Str} {pos : Pos} {v : Value} {d : D} (O : CxOk (GlobB K p loose mg mb) C n) (e : nsIn K mainGlobals x = some (some v)) (r : ∀ h, K.In h → Rep h v d) (q : Q d M)
    (hx : C.env.kindOf x = some .globalImplicit) (hd : (x == ("__debug__" : Str)) = false) : Ev prog w C ρ M (.Name x pos) Q := fun s S => by
  have hg := O.globals
  have T := O.glob.top
  refine Calls.Name_function_global O.kind hx (Calls.loadGlobal_global (mg := mg) ?_ (mg_of O.glob.kin T.g e) ?_) hd
  · rw [hg]; exact T.g.keeps S.stays
  · exact Post.same (tk := s.toks) S.lists (r _ (O.glob.kin.keeps S.stays)) q
theorem ev_builtin {x : Str} {pos : Pos} {v : Value} (O : CxOk (GlobB K p loose mg mb) C n) (e : nsIn K mainGlobals x = some none) (hv : bootBuiltins x = some v) (hn : x ≠ "__name__") (q : Q (.raw v) M)
    (hx : C.env.kindOf x = some .globalImplicit) (hd : (x == ("__debug__" : Str)) = false) : Ev prog w C ρ M (.Name x pos) Q := fun s S => by
  have T := O.glob.top
  refine Calls.Name_function_global O.kind hx (Calls.loadGlobal_builtin (mg := mg) (mb := mb) ?_ (mg_none_of O.glob.kin T.g e) ?_ ((T.builtins x hn).trans hv) ?_) hd
  · rw [O.globals]; exact T.g.keeps S.stays
  · rw [O.builtins]; exact T.b.keeps S.stays
  · exact Post.same (tk := s.toks) S.lists (.raw _) q

/-- the calls that follow, by name -/
noncomputable abbrev KOpN (prog : Program) (w : World) (C : Cx) (ρ : Locs) (t : List Value → Sem Value) (Q : D → LMap → Prop) : List D → LMap → Prop := fun ds M₂ => OpN prog w C ρ M₂ t ds Q
noncomputable abbrev KFn (prog : Program) (w : World) (G : Heap → Prop) (f : Value) (n : Nat) (Q : D → LMap → Prop) : List D → LMap → Prop := fun ds M₂ => Fn prog w G f n ds M₂ Q
noncomputable abbrev KFnX (prog : Program) (w : World) (G : Heap → Prop) (f : Value) (n : Nat) (X : Array UInt8 → Prop) (Q : D → LMap → Prop) : List D → LMap → Prop := fun ds M₂ => FnX prog w G f n ds M₂ Q X
/-- a def of the top's is called by its name -/
theorem ev_call {x : Str} {np pos : Pos} {args : List Expr} {a n' : Nat} {oc : Value} {od : Option Addr} {fd : FuncData} {osl : Array (Option Value)} (O : CxOk G C n) (hG : ∀ base, G base → K.In base) (hn : n' ≤ n) (hK : K.lookup a = some ⟨oc, od, .func fd, osl⟩)
    (h : Ev prog w C ρ M (.Name x np) fun d M₁ => d = .raw (.ref a) ∧ Evs prog w C ρ M₁ pos args (KFn prog w G (.ref a) n' Q))
    (he : Heads args C.env) : Ev prog w C ρ M (.Call (.Name x np) args [] pos) Q := fun s S => by
  refine Call_Name rfl (h.use S fun s₁ v d M₁ T₁ S₁ r₁ q₁ => ?_)
  obtain ⟨rfl, q₁⟩ := q₁
  obtain rfl := r₁.raw_
  refine Calls.callWith_function (o := ⟨oc, od, .func fd, osl⟩) (fd := fd) (args_use q₁ S₁ (fun s₂ vs ds M₂ T₂ S₂ r₂ q₂ => ?_) he)
  refine ⟨⟨((hG _ O.glob).keeps S₂.stays) _ _ hK, rfl⟩, ?_⟩
  refine to_trans (T₁.trans T₂) ?_
  have hd := O.depth
  have hu := O.units
  exact q₂ C.A C.stk C.base s₂ vs C.E O.frames (by omega) (by omega) O.handled O.glob S₂.stays S₂.frames S₂.lists S₂.tab r₂
/-- a built-in function, a type -/
theorem ev_call_bi {x : Str} {np pos : Pos} {args : List Expr} {id : String}
    (h : Ev prog w C ρ M (.Name x np) fun d M₁ => d = .raw (.builtin id) ∧ Evs prog w C ρ M₁ pos args (KOpN prog w C ρ (fun vs => PySem.call (.builtin id) vs) Q))
    (he : Heads args C.env) (hp : (backTo pos (starEach args C.env)).any (·.1) = false) : Ev prog w C ρ M (.Call (.Name x np) args [] pos) Q := fun s S => by
  refine Call_Name rfl (h.use S fun s₁ v d M₁ T₁ S₁ r₁ q₁ => ?_)
  obtain ⟨rfl, q₁⟩ := q₁
  obtain rfl := r₁.raw_
  refine Calls.callWith_builtin hp (args_use q₁ S₁ (fun s₂ vs ds M₂ T₂ S₂ r₂ q₂ => ?_) he)
  exact to_trans (T₁.trans T₂) (q₂ s₂ vs S₂ r₂)
theorem ev_call_ty {x : Str} {np pos : Pos} {args : List Expr} {T : String}
    (h : Ev prog w C ρ M (.Name x np) fun d M₁ => d = .raw (.type T) ∧ Evs prog w C ρ M₁ pos args (KOpN prog w C ρ (fun vs => PySem.call (.type T) vs) Q))
    (he : Heads args C.env) (hp : (backTo pos (starEach args C.env)).any (·.1) = false) : Ev prog w C ρ M (.Call (.Name x np) args [] pos) Q := fun s S => by
  refine Call_Name rfl (h.use S fun s₁ v d M₁ T₁ S₁ r₁ q₁ => ?_)
  obtain ⟨rfl, q₁⟩ := q₁
  obtain rfl := r₁.raw_
  refine PyProof.Rows.callWith_type hp (args_use q₁ S₁ (fun s₂ vs ds M₂ T₂ S₂ r₂ q₂ => ?_) he)
  exact to_trans (T₁.trans T₂) (q₂ s₂ vs S₂ r₂)

/-- of a type, without a dict of its own -/
noncomputable def OfType (M : LMap) (T : String) : D → Prop
  | .str _ => T = "str"
  | .bytes _ => T = "bytes"
  | .lst a => T = "list" ∧ (M a).isSome = true
  | .tup _ => T = "tuple"
  | _ => False
theorem OfType.is {T : String} {v : Value} {d : D} (S : Sit C s ρ M) (r : Rep s.heap v d) (h : OfType M T d) : s.TypeIs v T ∧ ∀ a, v = .ref a → ∃ ob, s.heap.get? a = some ob ∧ ob.dict = none := by
  cases r with
  | raw v => exact h.elim
  | none => exact h.elim
  | bool b => exact h.elim
  | int i t => exact h.elim
  | str x t => obtain rfl := h; exact ⟨typeIs_str s x t, fun uu e => nomatch e⟩
  | bytes b t => obtain rfl := h; exact ⟨rfl, fun uu e => nomatch e⟩
  | @tup a vs ds ht rs =>
    obtain rfl := h
    obtain ⟨k, ho⟩ := ht
    exact ⟨⟨_, ho, rfl⟩, fun uu e => by cases e; exact ⟨_, ho, rfl⟩⟩
  | lst a ne =>
    obtain ⟨rfl, hm⟩ := h
    obtain ⟨ds, hm⟩ := Option.isSome_iff_exists.mp hm
    refine hide fun uu kg => ?_
    obtain ⟨vs, ⟨k, ho⟩, uu⟩ := (S.lists a ds hm).2.lst ne
    refine kg ?_
    exact ⟨⟨_, ho, rfl⟩, fun uu e => by cases e; exact ⟨_, ho, rfl⟩⟩

noncomputable abbrev KMe (prog : Program) (w : World) (C : Cx) (ρ : Locs) (pos : Pos) (args : List Expr) (T : String) (t : List Value → Sem Value) (Q : D → LMap → Prop) : D → LMap → Prop := fun d M₁ => OfType M₁ T d ∧ Evs prog w C ρ M₁ pos args (KDs (KOpN prog w C ρ t Q) d)
theorem ev_method {o : Expr} {name : Str} {apos pos : Pos} {args : List Expr} {T id : String} (pa : PlainAttrs T) (sl : Slot T name id) (ht : typeOf (.builtin id) = pure (.type "method_descriptor"))
    (h : Ev prog w C ρ M o (KMe prog w C ρ pos args T (fun vs => PySem.call (.builtin id) vs) Q))
    (he : Heads args C.env) (hp : (backTo pos (starEach args C.env)).any (·.1) = false)
    (hbase : attributeBase o name C.env (eval o C.env) = eval o C.env)
    (hfew : ((backTo pos (starEach args C.env)).all (fun x => !x.1) && (backToKw pos (keywordEach [] C.env)).all (fun x => x.1.isSome)
      && decide (args.length + ([] : List Keyword).length + (if ([] : List Keyword).isEmpty then 0 else 1) < 30)) = true)
    (hline : (apos.endLine == pos.line) = true) : Ev prog w C ρ M (.Call (.Attribute o name apos) args [] pos) Q := fun s S => by
  refine wpAny_Call_method_late hbase hfew hline rfl (h.use S fun s₁ v d M₁ T₁ S₁ r₁ q₁ => ?_)
  obtain ⟨ho, q₁⟩ := q₁
  obtain ⟨h1, h2⟩ := ho.is S₁ r₁
  refine ⟨T, id, pa, sl, ht, h1, h2, ?_⟩
  refine Calls.callWith_builtin hp (args_use q₁ S₁ (fun s₂ vs ds M₂ T₂ S₂ r₂ q₂ => ?_) he)
  exact to_trans (T₁.trans T₂) (q₂ s₂ (v :: vs) S₂ (.cons (S₁.rep T₂ r₁) r₂))

/-- items -/
theorem ev_sub {value slice : Expr} {pos : Pos} (h : Ev prog w C ρ M value (KE2 prog w C ρ (subscriptTail value slice) Q slice)) : Ev prog w C ρ M (.Subscript value slice pos) Q := fun s S => by
  refine Subscript_ (h.use S fun s₁ v₁ d₁ M₁ T₁ S₁ r₁ q₁ => ?_)
  refine Ev.use q₁ S₁ fun s₂ v₂ d₂ M₂ T₂ S₂ r₂ q₂ => ?_
  exact to_trans (T₁.trans T₂) (q₂ s₂ v₁ v₂ S₂ (S₁.rep T₂ r₁) r₂)
theorem op_item_tup {value slice : Expr} {ds : List D} {k : Int} {j : Nat} {d : D} (hlo : -(2 ^ 63) ≤ k) (hhi : k < 2 ^ 63) (hj : seqIndex? k ds.length = some j) (hx : ds[j]? = some d) (q : Q d M)
    (hs : ∀ o i, subscripted slice false o i = operate [o, i] (getItem o i)) : Op2 prog w C ρ M (subscriptTail value slice) (.tup ds) (.int k) Q := fun s v₁ v₂ S r₁ r₂ => by
  obtain ⟨a, vs, rfl, ht, rs⟩ := r₁.tup_
  obtain ⟨uu, rfl⟩ := r₂.int_
  obtain ⟨v, hv, r⟩ := rs.get hx
  exact item_tupleT ht.tup hlo hhi (by rw [rs.length]; exact hj) hv (Post.same (tk := s.toks) S.lists r q) (hs _ _)
theorem op_item_lst {value slice : Expr} {a : Addr} {ds : List D} {k : Int} {d : D} (hM : M a = some ds) (h0 : 0 ≤ k) (hhi : k < 2 ^ 63) (hx : ds[k.toNat]? = some d) (q : Q d M)
    (hs : ∀ o i, subscripted slice false o i = operate [o, i] (getItem o i)) : Op2 prog w C ρ M (subscriptTail value slice) (.lst a) (.int k) Q := fun s v₁ v₂ S r₁ r₂ => by
  refine hide fun uu kg => ?_
  obtain ⟨uu, vs, hl, rs⟩ := S.lists.lst hM r₁
  refine kg ?_
  obtain ⟨rfl, uu⟩ := r₁.lst_
  obtain ⟨uu, rfl⟩ := r₂.int_
  obtain ⟨v, hv, r⟩ := rs.get hx
  exact tail_any hl.list.typeIs slot_list_getitem.lookup (wpAny_getItem_list hl.list h0 hhi (by simpa using hv) (Post.same (tk := s.toks) S.lists r q)) (hs _ _)

/-- a list turned in place -/
theorem Post.list {a : Addr} {ds es : List D} {vs : List Value} {h' : Heap} {tk : Nat} {v : Value} {d : D} (S : Sit C s ρ M) (hM : M a = some ds) (ne : a ≠ tabA) (hk : Heap.ExtBut a s.heap h') (hl : IsLs h' a vs.toArray) (rs : Reps s.heap vs es) (r : Rep s.heap v d) (q : Q d (upd M a es)) :
    Post C s M Q v { s with heap := h', toks := tk } := by
  obtain ⟨hb, x⟩ := S.lists a ds hM
  refine hide fun uu kg => ?_
  obtain ⟨ws, ⟨k₀, ho⟩, uu⟩ := x.lst ne
  refine kg ?_
  have tups : TupsStay s.heap h' := fun b us ⟨k, e⟩ => ⟨k, hk b _ (fun z => by
    subst z
    rw [ho] at e
    have := congrArg Obj.cls (Option.some.inj e)
    exact absurd this (show ¬ (Value.type "list" = Value.type "tuple") by decide)) e⟩
  obtain ⟨k₁, hl₁⟩ := hl
  refine ⟨d, _, Step.ofList (tk := tk) hk hM ⟨_, hl₁⟩, fun b fs e => ?_, r.mono tups, q⟩
  by_cases z : b = a
  · subst z
    rw [upd_same] at e
    cases e
    exact ⟨hb, .inl ⟨ne, vs, ⟨k₁, hl₁⟩, rs.mono tups⟩⟩
  · rw [upd_ne z] at e
    exact ⟨(S.lists b fs e).1, (S.lists b fs e).2.turn (fun vs n e => hk b _ z e) tups fun c o vs e hd uu => hk c o (fun q => by (first | exact (nb q ho e).elim | obtain rfl := sb q ho e | (rw [q, ho] at e; cases e)); cases hd) e⟩

theorem call_meets {A : Around} {E : Value → Shared → Prop} {R : Value → Shared → Prop} {T : String} {name : Str} {id : String} {B : Builtin} {self : Value} {rest : List Value} {S : PySem.Spec} (slot : Slot T name id) (entry : entryFor table id = some B) (hT : s.TypeIs self T) (args : argsOk id ⟨self :: rest, []⟩)
    (g : Meets (B ⟨self :: rest, []⟩) S) (h : S A (wants R E) s) : wpAny (model prog w) A (call (.builtin id) (self :: rest)) R E s :=
  wpAny_call (codeAny_call_builtin slot.plain entry (slot.check _ _ _ _ _ _ _ _ hT args (g prog w A _ s h)))
theorem mapSeq_lstO (vs : Array Value) (k : Nat) (f : Array Value → Array Value) : ∃ k', (lstO vs k).mapSeq f = lstO (f vs) k' := ⟨_, rfl⟩

theorem op_pop0 {a : Addr} {d : D} {ds : List D} (hM : M a = some (d :: ds)) (hlen : ds.length + 1 ≤ sizeLine) (q : Q d (upd M a ds)) : OpN prog w C ρ M (fun vs => PySem.call (.builtin "list.pop") vs) [.lst a, .int 0] Q := fun s vs S rs => by
  obtain ⟨uu, uu, rfl, r₁, r₂⟩ := rs.two
  obtain ⟨rfl, ne⟩ := r₁.lst_
  obtain ⟨u, rfl⟩ := r₂.int_
  refine hide fun uu kg => ?_
  obtain ⟨ws, ⟨k, ho⟩, rs⟩ := (S.lists a _ hM).2.lst ne
  refine kg ?_
  obtain ⟨v, vs', rfl, r, rs⟩ := rs.cons_
  obtain ⟨k', hk'⟩ := mapSeq_lstO (v :: vs').toArray k (fun xs => xs.eraseIdxIfInBounds 0)
  have hT : s.TypeIs (.ref a) "list" := ⟨_, ho, rfl⟩
  have hsz : (v :: vs').toArray.size ≤ sizeLine := by
    simp only [List.size_toArray, List.length_cons]; rw [rs.length]; exact hlen
  refine call_meets F.slot_list_pop F.entry_list_pop hT (F.args_list_pop_2 _ _) (MeetsSeq.list_pop_at a (v :: vs').toArray k 0 u 0 v (by decide) (by simp [seqIndex?]) (by rfl) hsz) ⟨ho, ?_⟩
  refine Post.list (vs := vs') (tk := s.toks) S hM ne ((Heap.SameBut.update ..).extBut) ⟨k', ?_⟩ rs r q
  have := Heap.get?_update_self (Obj.mapSeq fun xs => xs.eraseIdxIfInBounds 0) ho rfl
  rw [this, hk']
  simp
end
end Mine

end
section
open PySem PySem.W PyProof.Rows
set_option maxRecDepth 100000
set_option linter.unusedVariables false
namespace Mine

section
variable {prog : Program} {w : World} {C : Cx} {s s₁ s' : Shared} {ρ ρ₁ : Locs} {M M₁ : LMap} {G : Heap → Prop} {n : Nat} {Q : D → LMap → Prop} {K : Frag} {p : Program} {loose : List Str} {mg mb : Str → Option Value}

theorem assign_sub_eq (o i : Expr) (pos : Pos) (env : Env) (v : Value) : assign (.Subscript o i pos) env v = (do
    let ov ← holding [v] (eval o env)
    let iv ← holding [v, ov] (eval i env)
    standAt pos
    holding [v, ov, iv] (setItem ov iv v)
    release (match i with | .Slice _ _ none _ => [iv, v, ov] | _ => [v, ov, iv]) []) := rfl
theorem wpAny_release {Md : Model} {A : Around} {E : Value → Shared → Prop} {vs keep : List Value} {R : Unit → Shared → Prop} (h : R () s) : wpAny Md A (release vs keep) R E s := fun Γ p uu => by
  rw [Sem.wp_release]; exact h

theorem as_sub {o i : Expr} {pos : Pos} {d : D} {R : Locs → LMap → Prop}
    (h : Ev prog w C ρ M o fun d₁ M₁ => Ev prog w C ρ M₁ i fun d₂ M₂ => ∃ a ds k, d₁ = .lst a ∧ d₂ = .int k ∧ M₂ a = some ds ∧ 0 ≤ k ∧ k < ds.length ∧ k < 2 ^ 63 ∧ R ρ (upd M₂ a (ds.set k.toNat d))) : As prog w C ρ M (.Subscript o i pos) d R := fun s v S r => by
  rw [assign_sub_eq]
  refine wpAny_bind (wpAny_holding (h.use S fun s₁ v₁ d₁ M₁ T₁ S₁ r₁ q₁ => ?_))
  refine wpAny_bind (wpAny_holding (Ev.use q₁ S₁ fun s₂ v₂ d₂ M₂ T₂ S₂ r₂ q₂ => ?_))
  refine hide fun uu kg => ?_
  obtain ⟨a, ds, k, rfl, rfl, hM, h0, hlt, hk, q⟩ := q₂
  refine kg ?_
  have r' : Rep s₂.heap v d := S₁.rep T₂ (S.rep T₁ r)
  have r₁' := S₁.rep T₂ r₁
  obtain ⟨rfl, ne⟩ := r₁'.lst_
  obtain ⟨uu, rfl⟩ := r₂.int_
  obtain ⟨vs, hl, rs⟩ := (S₂.lists a ds hM).2.lst ne
  obtain ⟨kk, ho⟩ := id hl
  refine wpAny_bind (wpAny_standAt (wpAny_bind (wpAny_holding (ki_setAt ho h0 hk (by simpa [rs.length] using hlt) (wpAny_release ?_)))))
  obtain ⟨k', hk'⟩ := mapSeq_lstO vs.toArray kk (·.setIfInBounds k.toNat v)
  have e := Heap.get?_update_self (Obj.mapSeq (·.setIfInBounds k.toNat v)) ho rfl
  rw [hk', show vs.toArray.setIfInBounds k.toNat v = (vs.set k.toNat v).toArray from by apply Array.toList_inj.mp; simp] at e
  refine hide fun uu kg => ?_
  obtain ⟨d', M', T₃, L₃, uu, q₃⟩ := Post.list (C := C) (tk := s₂.toks) (v := .none) (d := .none) (Q := fun uu M' => R ρ M') S₂ hM ne ((Heap.SameBut.update s₂.heap a (Obj.mapSeq (·.setIfInBounds k.toNat v))).extBut) ⟨k', e⟩ (rs.set r' k.toNat) .none q
  refine kg ?_
  exact ⟨ρ, M', ((T₁.trans T₂).trans T₃).weaken, S₂.ev T₃ L₃, q₃⟩

theorem sub_at {M : LMap} {R' : Addr → List D → Int → Prop} {a : Addr} {ds : List D} {k : Int} (hM : M a = some ds) (h0 : 0 ≤ k) (h1 : k < ds.length) (h2 : k < 2 ^ 63) (q : R' a ds k) : ∃ a' ds' k', D.lst a = D.lst a' ∧ D.int k = D.int k' ∧ M a' = some ds' ∧ 0 ≤ k' ∧ k' < ds'.length ∧ k' < 2 ^ 63 ∧ R' a' ds' k' :=
  ⟨a, ds, k, rfl, rfl, hM, h0, h1, h2, q⟩
theorem ints_of {h : Heap} : ∀ {ns : List Int} {vs : List Value}, Reps h vs (ns.map .int) → IntsAre vs ns
  | [], _, r => by cases r.nil_; exact .nil
  | n :: ns, _, r => by
    obtain ⟨uu, uu, rfl, r, rs⟩ := Reps.cons_ r
    obtain ⟨uu, rfl⟩ := r.int_
    exact .cons _ _ (ints_of rs)
theorem op_ne_ints {a b : Addr} {ns ms : List Int} (hu : C.A.units + 64 < cLine) (ha : M a = some (ns.map .int)) (hb : M b = some (ms.map .int)) (q : Q (.bool (!decide (ns = ms))) M) : Op2 prog w C ρ M (compareOp .NotEq) (.lst a) (.lst b) Q := fun s uu uu S r₁ r₂ => by
  refine hide fun uu kg => ?_
  obtain ⟨uu, xs, hx, rx⟩ := S.lists.lst ha r₁
  refine kg ?_
  refine hide fun uu kg => ?_
  obtain ⟨uu, ys, hy, ry⟩ := S.lists.lst hb r₂
  refine kg ?_
  obtain ⟨rfl, uu⟩ := r₁.lst_; obtain ⟨rfl, uu⟩ := r₂.lst_
  exact ke_ne_ints hx.list hy.list (ints_of rx) (ints_of ry) hu (Post.same (tk := s.toks) S.lists (.bool _) q)
end
end Mine

end
section
open PySem PySem.W PyProof.Rows
open PySem.SeqAt
open AutoSeq1 (wpAny_loadPart')
open MeetsSeq MeetsSeq2 MeetsSeq3 SeqRoads2
set_option maxRecDepth 100000
set_option linter.unusedVariables false
namespace Mine

section
variable {A : Around} {s : Shared}
theorem int_eq_bytes_i (a : Int) (t : Tok) (b : Array UInt8) (u : Tok) : Gives (Builtin.«int.__eq__» ⟨[.int a t, .bytes b u], []⟩) (.val (Value.notImplemented)) :=
  .of_wp fun M A E s Q h => by obtain ⟨hp, g, d, tk, os⟩ := s; wp_walk; exact ⟨_, rfl, h⟩
theorem int_eq_bytes_b (a : Bool) (b : Array UInt8) (u : Tok) : Gives (Builtin.«int.__eq__» ⟨[.bool a, .bytes b u], []⟩) (.val (Value.notImplemented)) :=
  .of_wp fun M A E s Q h => by obtain ⟨hp, g, d, tk, os⟩ := s; wp_walk; exact ⟨_, rfl, h⟩
theorem str_eq_bytes (a : Str) (t : Tok) (b : Array UInt8) (u : Tok) : Gives (Builtin.«str.__eq__» ⟨[.str a t, .bytes b u], []⟩) (.val (Value.notImplemented)) :=
  .of_wp fun M A E s Q h => by obtain ⟨hp, g, d, tk, os⟩ := s; wp_walk; exact ⟨_, rfl, h⟩
theorem none_eq_bytes (b : Array UInt8) (u : Tok) : Gives (Builtin.«NoneType.__eq__» ⟨[.none, .bytes b u], []⟩) (.val (Value.notImplemented)) :=
  .of_wp fun M A E s Q h => by obtain ⟨hp, g, d, tk, os⟩ := s; wp_walk; exact ⟨_, rfl, h⟩
theorem tuple_eq_bytes (l : Addr) (items : Array Value) (n : Nat) (dd : Option Addr) (sl : Array (Option Value)) (b : Array UInt8) (u : Tok) :
    Meets (Builtin.«tuple.__eq__» ⟨[.ref l, .bytes b u], []⟩) (fun uu R s => s.heap.get? l = some { cls := .type "tuple", dict := dd, data := .seq items n, slots := sl } ∧ R (.ok (.ret .notImplemented)) s) :=
  .of_wp fun prog w A R s h => by obtain ⟨hp, g, d, tk, os⟩ := s; obtain ⟨hl, h⟩ := h; have f1 := F.sub_bytes_tuple; wp_walk using wpAny_loadPart' hl; exact ⟨_, rfl, h⟩
theorem bytes_eq_other (b : Array UInt8) (u : Tok) (x : Value) (T : String) (hsub : isSubtype (.type T) (.type "bytes") = pure false) :
    Meets (Builtin.«bytes.__eq__» ⟨[.bytes b u, x], []⟩) (fun uu R s => s.TypeIs x T ∧ R (.ok (.ret .notImplemented)) s) :=
  .of_wp fun prog w A R s h => by
    unfold Builtin.«bytes.__eq__»
    refine wpAny_bind (wpAny_pure ?_)
    refine wpAny_bind (wpAny_isInstance h.1 hsub ?_)
    refine wpAny_bind (wpAny_rule (wpAny_pure ?_))
    exact ⟨_, rfl, h.2⟩

theorem slot_bytes_eq_refl : Slot "bytes" (cmpInfo .Eq).2.2 "bytes.__eq__" := FB.slot_bytes_eq

noncomputable def noFloat : Value → Bool
  | .float _ _ => false
  | _ => true
theorem eqAt_of {a b : Value} {k : Bool} (hf : noFloat a = true) (hne : a ≠ b) (h : RcAt A s a b k) : EqAt A s a b k := fun prog w E Q hq => by
  unfold eqBool
  refine wpAny_holding ?_
  refine wpAny_ite_split (fun hab => absurd (eq_of_beq hab) hne) (fun uu => ?_)
  cases a <;> first
    | (exfalso; exact Bool.noConfusion hf)
    | exact wpAny_bind (h prog w E _ (wpAny_truthy_bool hq))
theorem eqAt_of_rc {a b : Value} {k : Bool} (hf : noFloat a = true) (hs : a = b → k = true) (h : RcAt A s a b k) : EqAt A s a b k := by
  by_cases e : a = b
  · subst e; rw [hs rfl]; exact EqAt.same a
  · exact eqAt_of hf e h

theorem rc_int_bytes (a : Int) (t : Tok) (b : Array UInt8) (u : Tok) : RcAt A s (.int a t) (.bytes b u) false := fun prog w E Q h =>
  rc_eq_decline_or (k := false) (typeIs_int s a t) (typeIs_bytes s b u) (by decide) F.sub_bytes_int F.slot_int_eq slot_bytes_eq_refl
    (fun uu hq => call_gives F.slot_int_eq (typeIs_int s a t) F.entry_int_eq (F.args_int_eq_2 _ _) (int_eq_bytes_i a t b u) hq)
    (fun uu hq => PySem.call_meets slot_bytes_eq_refl (typeIs_bytes s b u) FB.entry_bytes_eq (FB.args_bytes_eq_2 _ _) (bytes_eq_other b u _ "int" F.sub_int_bytes) ⟨typeIs_int s a t, hq⟩)
    (fun uu hq => wpAny_of_eq (rfl : isSame (.int a t) (.bytes b u) = pure false) hq) (.inl rfl) h
theorem rc_bytes_int (a : Int) (t : Tok) (b : Array UInt8) (u : Tok) : RcAt A s (.bytes b u) (.int a t) false := fun prog w E Q h =>
  rc_eq_decline_or (k := false) (typeIs_bytes s b u) (typeIs_int s a t) (by decide) F.sub_int_bytes FB.slot_bytes_eq F.slot_int_eq_refl
    (fun uu hq => PySem.call_meets FB.slot_bytes_eq (typeIs_bytes s b u) FB.entry_bytes_eq (FB.args_bytes_eq_2 _ _) (bytes_eq_other b u _ "int" F.sub_int_bytes) ⟨typeIs_int s a t, hq⟩)
    (fun uu hq => call_gives F.slot_int_eq_refl (typeIs_int s a t) F.entry_int_eq (F.args_int_eq_2 _ _) (int_eq_bytes_i a t b u) hq)
    (fun uu hq => wpAny_of_eq (rfl : isSame (.bytes b u) (.int a t) = pure false) hq) (.inl rfl) h
theorem rc_bool_bytes (a : Bool) (b : Array UInt8) (u : Tok) : RcAt A s (.bool a) (.bytes b u) false := fun prog w E Q h =>
  rc_eq_decline_or (k := false) rfl (typeIs_bytes s b u) (by decide) F.sub_bytes_bool F.slot_bool_eq slot_bytes_eq_refl
    (fun uu hq => call_gives F.slot_bool_eq rfl F.entry_int_eq (F.args_int_eq_2 _ _) (int_eq_bytes_b a b u) hq)
    (fun uu hq => PySem.call_meets slot_bytes_eq_refl (typeIs_bytes s b u) FB.entry_bytes_eq (FB.args_bytes_eq_2 _ _) (bytes_eq_other b u _ "bool" F.sub_bool_bytes) ⟨rfl, hq⟩)
    (fun uu hq => wpAny_of_eq (rfl : isSame (.bool a) (.bytes b u) = pure false) hq) (.inl rfl) h
theorem rc_bytes_bool (a : Bool) (b : Array UInt8) (u : Tok) : RcAt A s (.bytes b u) (.bool a) false := fun prog w E Q h =>
  rc_eq_decline_or (k := false) (typeIs_bytes s b u) rfl (by decide) F.sub_bool_bytes FB.slot_bytes_eq F.slot_bool_eq_refl
    (fun uu hq => PySem.call_meets FB.slot_bytes_eq (typeIs_bytes s b u) FB.entry_bytes_eq (FB.args_bytes_eq_2 _ _) (bytes_eq_other b u _ "bool" F.sub_bool_bytes) ⟨rfl, hq⟩)
    (fun uu hq => call_gives F.slot_bool_eq_refl rfl F.entry_int_eq (F.args_int_eq_2 _ _) (int_eq_bytes_b a b u) hq)
    (fun uu hq => wpAny_of_eq (rfl : isSame (.bytes b u) (.bool a) = pure false) hq) (.inl rfl) h
theorem rc_none_bytes (b : Array UInt8) (u : Tok) : RcAt A s .none (.bytes b u) false := fun prog w E Q h =>
  rc_eq_decline_or (k := false) rfl (typeIs_bytes s b u) (by decide) F.sub_bytes_NoneType F.slot_NoneType_eq slot_bytes_eq_refl
    (fun uu hq => call_gives F.slot_NoneType_eq rfl F.entry_NoneType_eq (F.args_NoneType_eq_2 _ _) (none_eq_bytes b u) hq)
    (fun uu hq => PySem.call_meets slot_bytes_eq_refl (typeIs_bytes s b u) FB.entry_bytes_eq (FB.args_bytes_eq_2 _ _) (bytes_eq_other b u _ "NoneType" F.sub_NoneType_bytes) ⟨rfl, hq⟩)
    (fun uu hq => wpAny_of_eq (rfl : isSame .none (.bytes b u) = pure false) hq) (.inl rfl) h
theorem rc_bytes_none (b : Array UInt8) (u : Tok) : RcAt A s (.bytes b u) .none false := fun prog w E Q h =>
  rc_eq_decline_or (k := false) (typeIs_bytes s b u) rfl (by decide) F.sub_NoneType_bytes FB.slot_bytes_eq F.slot_NoneType_eq_refl
    (fun uu hq => PySem.call_meets FB.slot_bytes_eq (typeIs_bytes s b u) FB.entry_bytes_eq (FB.args_bytes_eq_2 _ _) (bytes_eq_other b u _ "NoneType" F.sub_NoneType_bytes) ⟨rfl, hq⟩)
    (fun uu hq => call_gives F.slot_NoneType_eq_refl rfl F.entry_NoneType_eq (F.args_NoneType_eq_2 _ _) (none_eq_bytes b u) hq)
    (fun uu hq => wpAny_of_eq (rfl : isSame (.bytes b u) .none = pure false) hq) (.inl rfl) h
theorem rc_str_bytes (a : Str) (t : Tok) (b : Array UInt8) (u : Tok) : RcAt A s (.str a t) (.bytes b u) false := fun prog w E Q h =>
  rc_eq_decline_or (k := false) (typeIs_str s a t) (typeIs_bytes s b u) (by decide) F.sub_bytes_str F.slot_str_eq slot_bytes_eq_refl
    (fun uu hq => call_gives F.slot_str_eq (typeIs_str s a t) F.entry_str_eq (F.args_str_eq_2 _ _) (str_eq_bytes a t b u) hq)
    (fun uu hq => PySem.call_meets slot_bytes_eq_refl (typeIs_bytes s b u) FB.entry_bytes_eq (FB.args_bytes_eq_2 _ _) (bytes_eq_other b u _ "str" F.sub_str_bytes) ⟨typeIs_str s a t, hq⟩)
    (fun uu hq => wpAny_of_eq (rfl : isSame (.str a t) (.bytes b u) = pure false) hq) (.inl rfl) h
theorem rc_bytes_str (a : Str) (t : Tok) (b : Array UInt8) (u : Tok) : RcAt A s (.bytes b u) (.str a t) false := fun prog w E Q h =>
  rc_eq_decline_or (k := false) (typeIs_bytes s b u) (typeIs_str s a t) (by decide) F.sub_str_bytes FB.slot_bytes_eq F.slot_str_eq_refl
    (fun uu hq => PySem.call_meets FB.slot_bytes_eq (typeIs_bytes s b u) FB.entry_bytes_eq (FB.args_bytes_eq_2 _ _) (bytes_eq_other b u _ "str" F.sub_str_bytes) ⟨typeIs_str s a t, hq⟩)
    (fun uu hq => call_gives F.slot_str_eq_refl (typeIs_str s a t) F.entry_str_eq (F.args_str_eq_2 _ _) (str_eq_bytes a t b u) hq)
    (fun uu hq => wpAny_of_eq (rfl : isSame (.bytes b u) (.str a t) = pure false) hq) (.inl rfl) h
theorem rc_tuple_bytes {l : Addr} {items : Array Value} (b : Array UInt8) (u : Tok) (hl : IsTp s.heap l items) (hu : A.units < cLine) : RcAt A s (.ref l) (.bytes b u) false := fun prog w E Q h => by
  obtain ⟨n, ho⟩ := hl
  exact rc_eq_decline_or (k := false) ⟨_, ho, rfl⟩ (typeIs_bytes s b u) (by decide) F.sub_bytes_tuple F.slot_tuple_eq slot_bytes_eq_refl
    (fun uu hq => PySem.call_meets F.slot_tuple_eq ⟨_, ho, rfl⟩ F.entry_tuple_eq (F.args_tuple_eq_2 _ _) (tuple_eq_bytes l items n _ _ b u) ⟨ho, hq⟩)
    (fun uu hq => PySem.call_meets slot_bytes_eq_refl (typeIs_bytes s b u) FB.entry_bytes_eq (FB.args_bytes_eq_2 _ _) (bytes_eq_other b u _ "tuple" F.sub_tuple_bytes) ⟨⟨_, ho, rfl⟩, hq⟩)
    (fun uu hq => wpAny_of_eq (rfl : isSame (.ref l) (.bytes b u) = pure false) hq) (.inr hu) h
theorem rc_bytes_tuple {l : Addr} {items : Array Value} (b : Array UInt8) (u : Tok) (hl : IsTp s.heap l items) (hu : A.units < cLine) : RcAt A s (.bytes b u) (.ref l) false := fun prog w E Q h => by
  obtain ⟨n, ho⟩ := hl
  exact rc_eq_decline_or (k := false) (typeIs_bytes s b u) ⟨_, ho, rfl⟩ (by decide) F.sub_tuple_bytes FB.slot_bytes_eq F.slot_tuple_eq_refl
    (fun uu hq => PySem.call_meets FB.slot_bytes_eq (typeIs_bytes s b u) FB.entry_bytes_eq (FB.args_bytes_eq_2 _ _) (bytes_eq_other b u _ "tuple" F.sub_tuple_bytes) ⟨⟨_, ho, rfl⟩, hq⟩)
    (fun uu hq => PySem.call_meets F.slot_tuple_eq_refl ⟨_, ho, rfl⟩ F.entry_tuple_eq (F.args_tuple_eq_2 _ _) (tuple_eq_bytes l items n _ _ b u) ⟨ho, hq⟩)
    (fun uu hq => wpAny_of_eq (rfl : isSame (.bytes b u) (.ref l) = pure false) hq) (.inr hu) h
theorem rc_bytes_bytes (a : Array UInt8) (t : Tok) (b : Array UInt8) (u : Tok) : RcAt A s (.bytes a t) (.bytes b u) (a.toList == b.toList) := fun prog w E Q h =>
  eq_bytes (E := E) h

mutual
noncomputable def deq : D → D → Bool
  | .none, .none => true
  | .bool a, .bool b => a == b
  | .int a, .int b => a == b
  | .bool a, .int b => (if a then 1 else 0) == b
  | .int a, .bool b => a == (if b then 1 else 0)
  | .str a, .str b => a == b
  | .bytes a, .bytes b => a.toList == b.toList
  | .tup a, .tup b => deqs a b
  | _, _ => false
noncomputable def deqs : List D → List D → Bool
  | [], [] => true
  | a :: as, b :: bs => deq a b && deqs as bs
  | _, _ => false
end
mutual
noncomputable def plain : D → Bool
  | .raw _ => false
  | .lst _ => false
  | .tup a => plains a
  | _ => true
noncomputable def plains : List D → Bool
  | [] => true
  | a :: as => plain a && plains as
end
mutual
noncomputable def high : D → Nat
  | .tup a => highs a + 1
  | _ => 0
noncomputable def highs : List D → Nat
  | [] => 0
  | a :: as => max (high a) (highs as)
end

theorem IsTp.tuple {h : Heap} {a : Addr} {vs : Array Value} : IsTp h a vs → h.IsTuple a vs := fun ⟨n, e⟩ => ⟨_, e, rfl, n, rfl⟩
theorem deqs_zip : ∀ (as bs : List D), deqs as bs = ((List.range (min as.length bs.length)).all (fun j => deq (as.getD j .none) (bs.getD j .none)) && as.length == bs.length)
  | [], [] => rfl
  | [], _ :: _ => rfl
  | _ :: _, [] => rfl
  | a :: as, b :: bs => by
    rw [deqs, deqs_zip as bs]
    rw [List.length_cons, List.length_cons, show min (as.length + 1) (bs.length + 1) = min as.length bs.length + 1 from Nat.succ_min_succ _ _, List.range_succ_eq_map]
    simp [Bool.and_assoc]
    rfl

theorem Reps.at {h : Heap} : ∀ {vs : List Value} {ds : List D}, Reps h vs ds → ∀ j (hj : j < vs.toArray.size), Rep h vs.toArray[j] (ds.getD j .none)
  | vs, [], rs, j, hj => by obtain rfl := rs.nil_; exact absurd hj (Nat.not_lt_zero _)
  | vs, _ :: _, rs, 0, _ => by obtain ⟨_, _, rfl, r, rs⟩ := rs.cons_; exact r
  | vs, _ :: _, rs, j + 1, hj => by
    obtain ⟨_, _, rfl, r, rs⟩ := rs.cons_
    have := Reps.at rs j (by simpa using hj)
    simpa using this

theorem in1_units (A : Around) : A.in1.units = A.units + 1 := rfl

theorem plains_get : ∀ {ds : List D}, plains ds = true → ∀ j, plain (ds.getD j .none) = true
  | [], _, j => by simp [plain]
  | d :: ds, h, 0 => by simp [plains] at h; simpa using h.1
  | d :: ds, h, j + 1 => by simp [plains] at h; simpa using plains_get h.2 j
theorem highs_get : ∀ (ds : List D) j, high (ds.getD j .none) ≤ highs ds
  | [], j => by simp [high]
  | d :: ds, 0 => by simp [highs]; omega
  | d :: ds, j + 1 => by simp [highs]; have := highs_get ds j; simp at this; omega

theorem IsTp.same {h : Heap} {a : Addr} {vs ws : List Value} (x : IsTp h a vs.toArray) (y : IsTp h a ws.toArray) : vs = ws := by
  obtain ⟨k, e1⟩ := x
  obtain ⟨k', e2⟩ := y
  rw [e1] at e2
  have := congrArg Obj.data (Option.some.inj e2)
  simp only [tupO, Data.seq.injEq] at this
  have := this.1
  simpa using congrArg Array.toList this
theorem Rep.noFloat {h : Heap} {v : Value} {d : D} (r : Rep h v d) (p : plain d = true) : noFloat v = true := by
  cases r <;> first | rfl | (simp [plain] at p)
noncomputable def BackV (h : Heap) (d : D) : Value → Prop
  | .none => d = .none
  | .bool b => d = .bool b
  | .int i _ => d = .int i
  | .str x _ => d = .str x
  | .bytes b _ => d = .bytes b
  | .ref a => ∃ vs ds, d = .tup ds ∧ IsTp h a vs.toArray ∧ Reps h vs ds
  | _ => False
theorem Rep.back {h : Heap} {v : Value} {d : D} (r : Rep h v d) (p : plain d = true) : BackV h d v := by
  cases r with
  | raw => exact Bool.noConfusion p
  | lst => exact Bool.noConfusion p
  | tup a b => exact ⟨_, _, rfl, a, b⟩
  | _ => exact rfl
theorem Reps.nil' {h : Heap} {es : List D} (r : Reps h [] es) : es = [] := by
  cases es with
  | nil => rfl
  | cons => obtain ⟨uu, uu, e, uu⟩ := r.cons_; cases e
theorem Reps.cons' {h : Heap} {v : Value} {vs : List Value} {es : List D} (r : Reps h (v :: vs) es) : ∃ d ds, es = d :: ds ∧ Rep h v d ∧ Reps h vs ds := by
  cases es with
  | nil => cases r.nil_
  | cons d ds => obtain ⟨w, ws, e, a, b⟩ := r.cons_; injection e with e1 e2; subst e1; subst e2; exact ⟨d, ds, rfl, a, b⟩
theorem plains_cons {d : D} {ds : List D} (p : plains (d :: ds) = true) : plain d = true ∧ plains ds = true := by
  rw [plains, Bool.and_eq_true] at p; exact p
theorem rep_inj {h : Heap} {v : Value} {d : D} (r : Rep h v d) : ∀ {e : D}, Rep h v e → plain d = true → plain e = true → d = e :=
  Rep.rec (motive_1 := fun v d uu => ∀ {e : D}, Rep h v e → plain d = true → plain e = true → d = e) (motive_2 := fun vs ds uu => ∀ {es : List D}, Reps h vs es → plains ds = true → plains es = true → ds = es)
    (fun uu uu uu p uu => Bool.noConfusion p) (fun q uu p => (q.back p).symm) (fun uu uu q uu p => (q.back p).symm) (fun uu uu uu q uu p => (q.back p).symm) (fun uu uu uu q uu p => (q.back p).symm) (fun uu uu uu q uu p => (q.back p).symm)
    (fun ht uu ih e q p p' => by
      obtain ⟨ws, ds, rfl, ht', rs'⟩ := q.back p'
      obtain rfl := ht.same ht'
      exact congrArg D.tup (ih rs' p p'))
    (fun uu uu uu uu p uu => Bool.noConfusion p)
    (fun q uu uu => q.nil'.symm)
    (fun uu uu i1 i2 es q p p' => by
      obtain ⟨d, ds, rfl, r, rs⟩ := q.cons'
      rw [i1 r (plains_cons p).1 (plains_cons p').1, i2 rs (plains_cons p).2 (plains_cons p').2]) r
mutual
theorem deq_same : ∀ (d : D), plain d = true → deq d d = true
  | .none, _ => rfl
  | .bool _, _ => by rw [deq]; exact beq_self_eq_true _
  | .int _, _ => by rw [deq]; exact beq_self_eq_true _
  | .str _, _ => by rw [deq]; exact beq_self_eq_true _
  | .bytes _, _ => by rw [deq]; exact beq_self_eq_true _
  | .tup ds, p => deqs_same ds p
theorem deqs_same : ∀ (ds : List D), plains ds = true → deqs ds ds = true
  | [], _ => rfl
  | d :: ds, p => by rw [deqs, deq_same d (plains_cons p).1, deqs_same ds (plains_cons p).2]; rfl
end
theorem rep_plain_same {h : Heap} {v : Value} {d e : D} (r : Rep h v d) (q : Rep h v e) (p : plain d = true) (p' : plain e = true) : deq d e = true := by
  rw [rep_inj r q p p']; exact deq_same e p'
theorem rc_flat {A : Around} (hu : A.units < cLine) {v₁ v₂ : Value} {d₁ d₂ : D} (r₁ : Rep s.heap v₁ d₁) (r₂ : Rep s.heap v₂ d₂) (p₁ : plain d₁ = true) (p₂ : plain d₂ = true) (h : high d₁ = 0 ∨ high d₂ = 0) : RcAt A s v₁ v₂ (deq d₁ d₂) := by
  cases r₁ with
  | raw => exact Bool.noConfusion p₁
  | lst => exact Bool.noConfusion p₁
  | none =>
    cases r₂ with
    | raw => exact Bool.noConfusion p₂
    | lst => exact Bool.noConfusion p₂
    | none => exact RcAt.none_none
    | bool => exact RcAt.none_bool _
    | int => exact RcAt.none_int _ _
    | str => exact RcAt.none_str _ _
    | bytes => exact rc_none_bytes _ _
    | tup ht _ => exact RcAt.none_tuple  ht.tuple hu
  | bool =>
    cases r₂ with
    | raw => exact Bool.noConfusion p₂
    | lst => exact Bool.noConfusion p₂
    | none => exact RcAt.bool_none _
    | bool => exact RcAt.bool_bool _ _
    | int => exact RcAt.bool_int _ _ _
    | str => exact RcAt.bool_str _ _ _
    | bytes => exact rc_bool_bytes _ _ _
    | tup ht _ => exact RcAt.bool_tuple _ ht.tuple hu
  | int =>
    cases r₂ with
    | raw => exact Bool.noConfusion p₂
    | lst => exact Bool.noConfusion p₂
    | none => exact RcAt.int_none _ _
    | bool => exact RcAt.int_bool _ _ _
    | int => exact RcAt.int_int _ _ _ _
    | str => exact RcAt.int_str _ _ _ _
    | bytes => exact rc_int_bytes _ _ _ _
    | tup ht _ => exact RcAt.int_tuple _ _ ht.tuple hu
  | str =>
    cases r₂ with
    | raw => exact Bool.noConfusion p₂
    | lst => exact Bool.noConfusion p₂
    | none => exact RcAt.str_none _ _
    | bool => exact RcAt.str_bool _ _ _
    | int => exact RcAt.str_int _ _ _ _
    | str => exact RcAt.str_str _ _ _ _
    | bytes => exact rc_str_bytes _ _ _ _
    | tup ht _ => exact RcAt.str_tuple _ _ ht.tuple hu
  | bytes =>
    cases r₂ with
    | raw => exact Bool.noConfusion p₂
    | lst => exact Bool.noConfusion p₂
    | none => exact rc_bytes_none _ _
    | bool => exact rc_bytes_bool _ _ _
    | int => exact rc_bytes_int _ _ _ _
    | str => exact rc_bytes_str _ _ _ _
    | bytes => exact rc_bytes_bytes _ _ _ _
    | tup ht _ => exact rc_bytes_tuple _ _ ht hu
  | tup ht _ =>
    cases r₂ with
    | raw => exact Bool.noConfusion p₂
    | lst => exact Bool.noConfusion p₂
    | none => exact RcAt.tuple_none  ht.tuple hu
    | bool => exact RcAt.tuple_bool _ ht.tuple hu
    | int => exact RcAt.tuple_int _ _ ht.tuple hu
    | str => exact RcAt.tuple_str _ _ ht.tuple hu
    | bytes => exact rc_tuple_bytes _ _ ht hu
    | tup => exact h.elim (fun z => nomatch z) fun z => nomatch z
theorem rc_data : ∀ (n : Nat) {A : Around} {v₁ v₂ : Value} {d₁ d₂ : D}, high d₁ ≤ n → A.units + n < cLine → plain d₁ = true → plain d₂ = true → Rep s.heap v₁ d₁ → Rep s.heap v₂ d₂ → RcAt A s v₁ v₂ (deq d₁ d₂)
  | 0, A, v₁, v₂, d₁, d₂, hh, hu, p₁, p₂, r₁, r₂ => rc_flat (by omega) r₁ r₂ p₁ p₂ (.inl (by omega))
  | n + 1, A, v₁, v₂, d₁, d₂, hh, hu, p₁, p₂, r₁, r₂ => by
    by_cases h2 : high d₁ = 0 ∨ high d₂ = 0
    · exact rc_flat (by omega) r₁ r₂ p₁ p₂ h2
    cases r₁ with
    | @tup a₁ vs₁ ds ht rs =>
      cases r₂ with
      | @tup a₂ vs₂ es ht' rs' =>
        simp only [plain] at p₁ p₂
        simp only [high] at hh
        rw [deq, deqs_zip]
        have := RcAt.tuples (A := A) (e := fun j => deq (ds.getD j .none) (es.getD j .none)) ht.tuple ht'.tuple (by omega) fun j h1 h2 => ?_
        · simpa [rs.length, rs'.length] using this
        · have q1 := Reps.at rs j h1
          have q2 := Reps.at rs' j h2
          have g1 := highs_get ds j
          refine eqAt_of_rc (q1.noFloat (plains_get p₁ j)) (fun e => ?_) (rc_data n (by omega) (by rw [in1_units]; omega) (plains_get p₁ j) (plains_get p₂ j) q1 q2)
          rw [e] at q1
          exact rep_plain_same q1 q2 (plains_get p₁ j) (plains_get p₂ j)
      | _ => exact absurd (.inr rfl) h2
    | _ => exact absurd (.inl rfl) h2
theorem eq_data (n : Nat) {A : Around} {v₁ v₂ : Value} {d₁ d₂ : D} (h1 : high d₁ ≤ n) (hu : A.units + n < cLine) (p₁ : plain d₁ = true) (p₂ : plain d₂ = true) (r₁ : Rep s.heap v₁ d₁) (r₂ : Rep s.heap v₂ d₂) : EqAt A s v₁ v₂ (deq d₁ d₂) :=
  eqAt_of_rc (r₁.noFloat p₁) (fun e => by subst e; exact rep_plain_same r₁ r₂ p₁ p₂) (rc_data n h1 hu p₁ p₂ r₁ r₂)
end
end Mine

end
section
open PySem PySem.W PyProof.Rows
open PySem.SeqAt
open AutoSeq1 (wpAny_loadPart')
open MeetsSeq MeetsSeq2 MeetsSeq3 SeqRoads2
set_option maxRecDepth 100000
set_option linter.unusedVariables false
namespace Mine

section
variable {prog : Program} {w : World} {C : Cx} {s s₁ s' : Shared} {ρ ρ₁ : Locs} {M M₁ : LMap} {G : Heap → Prop} {n : Nat} {Q : D → LMap → Prop}

theorem Post.newList {a : Addr} {ds : List D} {vs : List Value} {h' : Heap} {tk : Nat} (S : Sit C s ρ M) (k : ∀ b o, s.heap.get? b = some o → h'.get? b = some o) (hn : s.heap.get? a = .none) (hl : IsLs h' a vs.toArray) (rs : Reps s.heap vs ds)
    (q : ∀ a, M a = .none → Q (.lst a) (upd M a ds)) : Post C s M Q (.ref a) { s with heap := h', toks := tk } := by
  have hb : C.base.get? a = .none := by
    exact none_of fun o e => by (first | exact (nne (S.stays _ _ e) hn).elim | exact (dd (S.stays _ _ e) hn rfl).elim | obtain rfl := some_inj (S.stays _ _ e) hn | (rw [S.stays _ _ e] at hn; cases hn))
  refine ⟨.lst a, _, Step.ofNew (tk := tk) k hn, fun b es e => ?_, .lst _ (S.tab.ne hn), q _ (S.lists.fresh hn)⟩
  by_cases z : b = a
  · subst z
    rw [upd_same] at e
    cases e
    exact ⟨hb, .inl ⟨S.tab.ne hn, vs, hl, rs.mono fun uu uu ⟨n, ho⟩ => ⟨n, k _ _ ho⟩⟩⟩
  · rw [upd_ne z] at e
    exact (S.lists.mono k) b es e
theorem Post.newTup {a : Addr} {ds : List D} {vs : List Value} {h' : Heap} {tk : Nat} (L : Lists C.base s.heap M) (k : ∀ b o, s.heap.get? b = some o → h'.get? b = some o) (hl : IsTp h' a vs.toArray) (rs : Reps s.heap vs ds)
    (q : Q (.tup ds) M) : Post C s M Q (.ref a) { s with heap := h', toks := tk } :=
  Post.keeps (d := .tup ds) (tk := tk) L k (.tup hl (rs.mono fun uu uu ⟨n, ho⟩ => ⟨n, k _ _ ho⟩)) q

-- len
theorem op_len_lst {a : Addr} {ds : List D} (hM : M a = some ds) (hl : (ds.length : Int) < 2 ^ 63) (q : Q (.int ds.length) M) : OpN prog w C ρ M (fun vs => PySem.call (.builtin "len") vs) [.lst a] Q := fun s vs S rs => by
  obtain ⟨v, rfl, r⟩ := rs.one
  have r₀ := r
  obtain ⟨rfl, uu⟩ := r.lst_
  refine hide fun uu kg => ?_
  obtain ⟨uu, ws, h, rs⟩ := S.lists.lst hM r₀
  refine kg ?_
  have e := rs.length
  refine PyProof.Rows.len_list h.list (by simpa [e] using hl) (Post.same S.lists (d := .int ds.length) ?_ q)
  rw [← e, ← List.size_toArray]; exact .int _ _
theorem op_len_tup {ds : List D} (hl : (ds.length : Int) < 2 ^ 63) (q : Q (.int ds.length) M) : OpN prog w C ρ M (fun vs => PySem.call (.builtin "len") vs) [.tup ds] Q := fun s vs S rs => by
  obtain ⟨v, rfl, r⟩ := rs.one
  obtain ⟨uu, uu, rfl, h, rs⟩ := r.tup_
  have e := rs.length
  refine PyProof.Rows.len_tuple h.tup (by simpa [e] using hl) (Post.same S.lists (d := .int ds.length) ?_ q)
  rw [← e, ← List.size_toArray]; exact .int _ _
theorem op_len_bytes {b : Array UInt8} (hl : b.size ≤ 1099511627776) (q : Q (.int b.size) M) : OpN prog w C ρ M (fun vs => PySem.call (.builtin "len") vs) [.bytes b] Q := fun s vs S rs => by
  obtain ⟨v, rfl, r⟩ := rs.one
  obtain ⟨t, rfl⟩ := r.bytes_
  exact len_bytes hl (Post.same S.lists (.int _ _) q)

-- isinstance
inductive Isa : String → D → Bool → Prop
  | bb (b : Bool) : Isa "bool" (.bool b) true
  | bi (i : Int) : Isa "bool" (.int i) false
  | by_ (b : Array UInt8) : Isa "bool" (.bytes b) false
  | bt (ds : List D) : Isa "bool" (.tup ds) false
  | ii (i : Int) : Isa "int" (.int i) true
  | iy (b : Array UInt8) : Isa "int" (.bytes b) false
  | it (ds : List D) : Isa "int" (.tup ds) false
  | yy (b : Array UInt8) : Isa "bytes" (.bytes b) true
  | yt (ds : List D) : Isa "bytes" (.tup ds) false
  | tn : Isa "tuple" .none false
  | tb (b : Bool) : Isa "tuple" (.bool b) false
  | ti (i : Int) : Isa "tuple" (.int i) false
  | ty (b : Array UInt8) : Isa "tuple" (.bytes b) false
  | tt (ds : List D) : Isa "tuple" (.tup ds) true
theorem bytes_isa {A : Around} {E : Value → Shared → Prop} {R : Value → Shared → Prop} {b : Array UInt8} {t : Tok} {T : String} (hne : (Value.type "bytes" == Value.type T) = false) (hty : typeOf (.type T) = pure (.type "type"))
    (hsub : isSubtype (.type "bytes") (.type T) = pure false) (q : R (.bool false) { s with toks := s.toks + 1 }) : wpAny (model prog w) A (call (.builtin "isinstance") [.bytes b t, .type T]) R E s := by
  refine call_isinstance_of ?_ (fun e => nomatch e)
  refine hide fun uu kg => ?_
  obtain ⟨hp, g, d, tk, os⟩ := s
  refine kg ?_
  exact isinstance_nested_false_bytes hne hty hsub q
theorem op_isa {T : String} {d : D} {b : Bool} (e : Isa T d b) (q : Q (.bool b) M) : OpN prog w C ρ M (fun vs => PySem.call (.builtin "isinstance") vs) [d, .raw (.type T)] Q := fun s vs S rs => by
  obtain ⟨v, v', rfl, r, r'⟩ := rs.two
  obtain rfl := r'.raw_
  have P : ∀ tk, Post C s M Q (.bool b) { s with toks := tk } := fun tk => Post.same S.lists (.bool _) q
  clear q rs r'
  cases e with
  | bb => obtain rfl := r.bool_; exact IsiPair.bool_bool (P s.toks)
  | bi => obtain ⟨uu, rfl⟩ := r.int_; exact IsiPair.int_bool (P _)
  | by_ => obtain ⟨uu, rfl⟩ := r.bytes_; exact bytes_isa (by decide +kernel) F.isi_meta_bool F.sub_bytes_bool (P _)
  | bt => obtain ⟨uu, uu, rfl, ⟨k, ho⟩, uu⟩ := r.tup_; exact IsiPair.tuple_bool ho rfl (P _)
  | ii => obtain ⟨uu, rfl⟩ := r.int_; exact IsiPair.int_int (P s.toks)
  | iy => obtain ⟨uu, rfl⟩ := r.bytes_; exact bytes_isa (by decide +kernel) F.isi_meta_int F.sub_bytes_int (P _)
  | it => obtain ⟨uu, uu, rfl, ⟨k, ho⟩, uu⟩ := r.tup_; exact IsiPair.tuple_int ho rfl (P _)
  | yy => obtain ⟨uu, rfl⟩ := r.bytes_; exact call_isinstance (isinstance_true (Tx := "bytes") F.isi_meta_bytes F.sub_bytes_bytes) ⟨rfl, (P s.toks)⟩
  | yt => obtain ⟨uu, uu, rfl, ⟨k, ho⟩, uu⟩ := r.tup_; exact IsiPair.tuple_bytes ho rfl (P _)
  | tn => obtain rfl := r.none_; exact IsiPair.NoneType_tuple (P _)
  | tb => obtain rfl := r.bool_; exact IsiPair.bool_tuple (P _)
  | ti => obtain ⟨uu, rfl⟩ := r.int_; exact IsiPair.int_tuple (P _)
  | ty => obtain ⟨uu, rfl⟩ := r.bytes_; exact bytes_isa (by decide +kernel) F.isi_meta_tuple F.sub_bytes_tuple (P _)
  | tt => obtain ⟨uu, uu, rfl, ⟨k, ho⟩, uu⟩ := r.tup_; exact IsiPair.tuple_tuple ho rfl (P s.toks)

-- is None, is not True
noncomputable def isNone : D → Option Bool
  | .raw _ => .none
  | .none => some true
  | _ => some false
theorem op_is_none {d : D} {b : Bool} (e : isNone d = some b) (q : Q (.bool b) M) : Op2 prog w C ρ M (compareOp .Is) d .none Q := fun s v₁ v₂ S r₁ r₂ => by
  obtain rfl := r₂.none_
  refine is_none_gen (Post.same (tk := s.toks) S.lists (d := .bool b) ?_ q)
  cases r₁ <;> cases e <;> exact .bool _
theorem op_isnot_true {d : D} {b : Bool} (e : (d = .bool true ∧ b = false) ∨ (d = .bool false ∧ b = true) ∨ (∃ x, d = .str x ∧ b = true)) (q : Q (.bool b) M) : Op2 prog w C ρ M (compareOp .IsNot) d (.bool true) Q := fun s v₁ v₂ S r₁ r₂ => by
  obtain rfl := r₂.bool_
  show wpAny _ _ (do return Value.bool (!(← isSame v₁ (.bool true)))) _ _ s
  have P : Post C s M Q (.bool b) s := Post.same (tk := s.toks) S.lists (.bool _) q
  rcases e with ⟨rfl, rfl⟩ | ⟨rfl, rfl⟩ | ⟨x, rfl, rfl⟩
  · obtain rfl := r₁.bool_; exact wpAny_bind (wpAny_of_eq (rfl : isSame (.bool true) (.bool true) = pure true) (wpAny_pure P))
  · obtain rfl := r₁.bool_; exact wpAny_bind (wpAny_of_eq (rfl : isSame (.bool false) (.bool true) = pure false) (wpAny_pure P))
  · obtain ⟨uu, rfl⟩ := r₁.str_; exact wpAny_bind (wpAny_of_eq (rfl : isSame (.str x _) (.bool true) = pure false) (wpAny_pure P))
theorem op_is_true {d : D} {b : Bool} (e : (d = .bool true ∧ b = true) ∨ (d = .bool false ∧ b = false) ∨ (∃ x, d = .str x ∧ b = false)) (q : Q (.bool b) M) : Op2 prog w C ρ M (compareOp .Is) d (.bool true) Q := fun s v₁ v₂ S r₁ r₂ => by
  obtain rfl := r₂.bool_
  show wpAny _ _ (do return Value.bool (← isSame v₁ (.bool true))) _ _ s
  have P : Post C s M Q (.bool b) s := Post.same (tk := s.toks) S.lists (.bool _) q
  rcases e with ⟨rfl, rfl⟩ | ⟨rfl, rfl⟩ | ⟨x, rfl, rfl⟩
  · obtain rfl := r₁.bool_; exact wpAny_bind (wpAny_of_eq (rfl : isSame (.bool true) (.bool true) = pure true) (wpAny_pure P))
  · obtain rfl := r₁.bool_; exact wpAny_bind (wpAny_of_eq (rfl : isSame (.bool false) (.bool true) = pure false) (wpAny_pure P))
  · obtain ⟨uu, rfl⟩ := r₁.str_; exact wpAny_bind (wpAny_of_eq (rfl : isSame (.str x _) (.bool true) = pure false) (wpAny_pure P))

-- equality of data
theorem op_eq_dat {d₁ d₂ : D} (k : Nat) (h1 : high d₁ ≤ k) (hu : C.A.units + k < cLine) (p₁ : plain d₁ = true) (p₂ : plain d₂ = true) (q : Q (.bool (deq d₁ d₂)) M) : Op2 prog w C ρ M (compareOp .Eq) d₁ d₂ Q := fun s v₁ v₂ S r₁ r₂ =>
  rc_data k h1 hu p₁ p₂ r₁ r₂ prog w _ _ (Post.same (tk := s.toks) S.lists (.bool _) q)
theorem op_ne_tups {ds es : List D} (k : Nat) (h1 : highs ds ≤ k) (hu : C.A.units + 1 + k < cLine) (p₁ : plains ds = true) (p₂ : plains es = true) (q : Q (.bool (!deqs ds es)) M) : Op2 prog w C ρ M (compareOp .NotEq) (.tup ds) (.tup es) Q := fun s v₁ v₂ S r₁ r₂ => by
  obtain ⟨uu, uu, rfl, h, rs⟩ := r₁.tup_; obtain ⟨uu, uu, rfl, h', rs'⟩ := r₂.tup_
  have P : Post C s M Q (.bool (!deqs ds es)) s := Post.same (tk := s.toks) S.lists (.bool _) q
  refine RcNeAt.tuples (e := fun j => deq (ds.getD j .none) (es.getD j .none)) h.tuple h'.tuple (by omega) (fun j h1' h2' => ?_) prog w _ _ ?_
  · exact eq_data k (Nat.le_trans (highs_get ds j) h1) (by rw [in1_units]; exact hu) (plains_get p₁ j) (plains_get p₂ j) (Reps.at rs j h1') (Reps.at rs' j h2')
  · rw [deqs_zip] at P
    simpa [rs.length, rs'.length] using P
theorem op_ne_bs {d₁ d₂ : D} (e₁ : (∃ b, d₁ = .bool b) ∨ ∃ x, d₁ = .str x) (e₂ : (∃ b, d₂ = .bool b) ∨ ∃ x, d₂ = .str x) (q : Q (.bool (!deq d₁ d₂)) M) : Op2 prog w C ρ M (compareOp .NotEq) d₁ d₂ Q := fun s v₁ v₂ S r₁ r₂ => by
  have P : Post C s M Q (.bool (!deq d₁ d₂)) s := Post.same (tk := s.toks) S.lists (.bool _) q
  rcases e₁ with ⟨b, rfl⟩ | ⟨x, rfl⟩ <;> rcases e₂ with ⟨c, rfl⟩ | ⟨y, rfl⟩
  · obtain rfl := r₁.bool_; obtain rfl := r₂.bool_; exact RcNeAt.bool_bool _ _ prog w _ _ P
  · obtain rfl := r₁.bool_; obtain ⟨uu, rfl⟩ := r₂.str_; exact RcNeAt.bool_str _ _ _ prog w _ _ P
  · obtain ⟨uu, rfl⟩ := r₁.str_; obtain rfl := r₂.bool_; exact RcNeAt.str_bool _ _ _ prog w _ _ P
  · obtain ⟨uu, rfl⟩ := r₁.str_; obtain ⟨uu, rfl⟩ := r₂.str_; exact RcNeAt.str_str _ _ _ _ prog w _ _ P
theorem op_ne_bytes {a b : Array UInt8} (q : Q (.bool (a.toList != b.toList)) M) : Op2 prog w C ρ M (compareOp .NotEq) (.bytes a) (.bytes b) Q := fun s v₁ v₂ S r₁ r₂ => by
  obtain ⟨uu, rfl⟩ := r₁.bytes_; obtain ⟨uu, rfl⟩ := r₂.bytes_; exact ne_bytes (Post.same (tk := s.toks) S.lists (.bool _) q)
-- in
open Classical in
noncomputable def eqf (h : Heap) (d : D) (y : Value) : Bool := if ∃ e, plain e = true ∧ Rep h y e ∧ deq e d = true then true else false
theorem eqf_eq {h : Heap} {d e : D} {y : Value} (p : plain e = true) (r : Rep h y e) : eqf h d y = deq e d := by
  unfold eqf
  by_cases q : ∃ e, plain e = true ∧ Rep h y e ∧ deq e d = true
  · rw [if_pos q]
    refine hide fun uu kg => ?_
    obtain ⟨e', p', r', h'⟩ := q
    refine kg ?_
    rw [rep_inj r r' p p', h']
  · rw [if_neg q]
    cases z : deq e d with
    | false => rfl
    | true => exact absurd ⟨e, p, r, z⟩ q
theorem reps_eqAt {A : Around} (k : Nat) {x : Value} {d : D} (px : plain d = true) (r : Rep s.heap x d) (hu : A.units + k < cLine) :
    ∀ {vs : List Value} {ds : List D}, Reps s.heap vs ds → plains ds = true → highs ds ≤ k → (∀ y, y ∈ vs → EqAt A s y x (eqf s.heap d y)) ∧ vs.any (eqf s.heap d) = ds.any (fun y => deq y d)
  | _, [], r, _, _ => by obtain rfl := r.nil_; exact ⟨fun uu h => (nomatch h), rfl⟩
  | _, _ :: _, r', p, hh => by
    obtain ⟨_, _, rfl, r', rs⟩ := r'.cons_
    simp only [plains, Bool.and_eq_true] at p
    simp only [highs] at hh
    obtain ⟨h1, h2⟩ := reps_eqAt k px r hu rs p.2 (by omega)
    refine ⟨fun y hy => ?_, ?_⟩
    · rcases List.mem_cons.mp hy with rfl | hy
      · rw [eqf_eq p.1 r']
        exact eq_data k (by omega) hu p.1 px r' r
      · exact h1 y hy
    · rw [List.any_cons, List.any_cons, h2, eqf_eq p.1 r']
theorem op_in_lst {d : D} {a : Addr} {ds : List D} (k : Nat) (hM : M a = some ds) (px : plain d = true) (p : plains ds = true) (hh : highs ds ≤ k) (hu : C.A.units + 1 + k < cLine) (q : Q (.bool (ds.any fun y => deq y d)) M) :
    Op2 prog w C ρ M (compareOp .In) d (.lst a) Q := fun s v₁ v₂ S r₁ r₂ => by
  refine hide fun uu kg => ?_
  obtain ⟨uu, vs, hl, rs⟩ := S.lists.lst hM r₂
  refine kg ?_
  obtain ⟨rfl, uu⟩ := r₂.lst_
  obtain ⟨h1, h2⟩ := reps_eqAt (s := s) (A := C.A.in1) k px r₁ (by rw [in1_units]; exact hu) rs p hh
  refine in_listAt (eqf s.heap d) hl.list (fun y hy => h1 y (by simpa using hy)) ?_
  rw [← List.any_toArray] at h2
  rw [h2]
  exact Post.same (tk := s.toks) S.lists (.bool _) q
theorem op_notin_lst {d : D} {a : Addr} {ds : List D} (k : Nat) (hM : M a = some ds) (px : plain d = true) (p : plains ds = true) (hh : highs ds ≤ k) (hu : C.A.units + 1 + k < cLine) (q : Q (.bool (!ds.any fun y => deq y d)) M) :
    Op2 prog w C ρ M (compareOp .NotIn) d (.lst a) Q := fun s v₁ v₂ S r₁ r₂ => by
  refine hide fun uu kg => ?_
  obtain ⟨uu, vs, hl, rs⟩ := S.lists.lst hM r₂
  refine kg ?_
  obtain ⟨rfl, uu⟩ := r₂.lst_
  obtain ⟨h1, h2⟩ := reps_eqAt (s := s) (A := C.A.in1) k px r₁ (by rw [in1_units]; exact hu) rs p hh
  refine notIn_listAt (eqf s.heap d) hl.list (fun y hy => h1 y (by simpa using hy)) ?_
  rw [← List.any_toArray] at h2
  rw [h2]
  exact Post.same (tk := s.toks) S.lists (.bool _) q
theorem op_in_tup {d : D} {ds : List D} (k : Nat) (px : plain d = true) (p : plains ds = true) (hh : highs ds ≤ k) (hu : C.A.units + 1 + k < cLine) (q : Q (.bool (ds.any fun y => deq y d)) M) :
    Op2 prog w C ρ M (compareOp .In) d (.tup ds) Q := fun s v₁ v₂ S r₁ r₂ => by
  obtain ⟨uu, uu, rfl, hl, rs⟩ := r₂.tup_
  obtain ⟨h1, h2⟩ := reps_eqAt (s := s) (A := C.A.in1) k px r₁ (by rw [in1_units]; exact hu) rs p hh
  refine in_tupleAt (eqf s.heap d) hl.tuple (fun y hy => h1 y (by simpa using hy)) ?_
  rw [← List.any_toArray] at h2
  rw [h2]
  exact Post.same (tk := s.toks) S.lists (.bool _) q
theorem op_notin_tup {d : D} {ds : List D} (k : Nat) (px : plain d = true) (p : plains ds = true) (hh : highs ds ≤ k) (hu : C.A.units + 1 + k < cLine) (q : Q (.bool (!ds.any fun y => deq y d)) M) :
    Op2 prog w C ρ M (compareOp .NotIn) d (.tup ds) Q := fun s v₁ v₂ S r₁ r₂ => by
  obtain ⟨uu, uu, rfl, hl, rs⟩ := r₂.tup_
  obtain ⟨h1, h2⟩ := reps_eqAt (s := s) (A := C.A.in1) k px r₁ (by rw [in1_units]; exact hu) rs p hh
  refine notIn_tupleAt (eqf s.heap d) hl.tuple (fun y hy => h1 y (by simpa using hy)) ?_
  rw [← List.any_toArray] at h2
  rw [h2]
  exact Post.same (tk := s.toks) S.lists (.bool _) q
end
end Mine

end
section
open PySem PySem.W PyProof.Rows
open PySem.SeqAt
set_option maxRecDepth 100000
set_option linter.unusedVariables false
namespace Mine

section
variable {prog : Program} {w : World} {C : Cx} {s s₁ s' : Shared} {ρ ρ₁ : Locs} {M M₁ : LMap} {G : Heap → Prop} {n : Nat} {Q : D → LMap → Prop}

theorem ev_bytes {x : List UInt8} {k pos} (q : Q (.bytes x.toArray) M) : Ev prog w C ρ M (.Constant (.bytes x) k pos) Q := fun uu S => Constant_bytes (Post.same S.lists (.bytes _ _) q)
/-- and, or: bools -/
noncomputable abbrev KA2 (prog : Program) (w : World) (C : Cx) (ρ : Locs) (y : Expr) (Q : D → LMap → Prop) : D → LMap → Prop := fun d M₁ => ∃ b, d = .bool b ∧ if b then Ev prog w C ρ M₁ y Q else Q (.bool false) M₁
noncomputable abbrev KR2 (prog : Program) (w : World) (C : Cx) (ρ : Locs) (y : Expr) (Q : D → LMap → Prop) : D → LMap → Prop := fun d M₁ => ∃ b, d = .bool b ∧ if b then Q (.bool true) M₁ else Ev prog w C ρ M₁ y Q
noncomputable abbrev KX (Q : Option D → Locs → LMap → Prop) (ρ : Locs) : D → LMap → Prop := fun d M₁ => d = .none ∧ Q .none ρ M₁
noncomputable abbrev KSf (Q : D → LMap → Prop) (d₁ : D) : D → LMap → Prop := fun d₂ M₂ => ∃ (ds : List D) (k : Nat), d₁ = .tup ds ∧ d₂ = .int k ∧ 1 ≤ k ∧ k ≤ ds.length ∧ ds.length ≤ sizeLine ∧ Q (.tup (ds.drop k)) M₂
noncomputable abbrev KSu (Q : D → LMap → Prop) (d₁ : D) : D → LMap → Prop := fun d₂ M₂ => ∃ (ds : List D) (k : Nat), d₁ = .tup ds ∧ d₂ = .int k ∧ k < ds.length ∧ ds.length ≤ sizeLine ∧ Q (.tup (ds.take k)) M₂
noncomputable abbrev KE3 (prog : Program) (w : World) (C : Cx) (ρ : Locs) (r : Expr) (K : D → D → LMap → Prop) : D → LMap → Prop := fun d₁ M₁ => Ev prog w C ρ M₁ r (K d₁)
theorem ev_and2 {x y : Expr} {pos : Pos} (h : Ev prog w C ρ M x (KA2 prog w C ρ y Q)) : Ev prog w C ρ M (.BoolOp .And [x, y] pos) Q := fun s S => by
  refine wpAny_And2 (h.use S fun s₁ v d M₁ T S₁ r q => ?_)
  obtain ⟨b, rfl, q⟩ := q
  obtain rfl := r.bool_
  refine wpAny_truthy_bool ?_
  cases b
  · exact Post.trans T (Post.same (tk := s₁.toks) S₁.lists (.bool _) q)
  · exact to_trans T (q s₁ S₁)
theorem ev_or2 {x y : Expr} {pos : Pos} (h : Ev prog w C ρ M x (KR2 prog w C ρ y Q)) : Ev prog w C ρ M (.BoolOp .Or [x, y] pos) Q := fun s S => by
  refine wpAny_Or2 (h.use S fun s₁ v d M₁ T S₁ r q => ?_)
  obtain ⟨b, rfl, q⟩ := q
  obtain rfl := r.bool_
  refine wpAny_truthy_bool ?_
  cases b
  · exact to_trans T (q s₁ S₁)
  · exact Post.trans T (Post.same (tk := s₁.toks) S₁.lists (.bool _) q)

theorem op_add_tup {ds es : List D} (hsz : ds.length + es.length ≤ sizeLine) (q : Q (.tup (ds ++ es)) M) : Op2 prog w C ρ M (binaryOp .Add) (.tup ds) (.tup es) Q := fun s v₁ v₂ S r₁ r₂ => by
  obtain ⟨t, vs, rfl, ht, rs⟩ := r₁.tup_
  obtain ⟨b, ws, rfl, hb, rs'⟩ := r₂.tup_
  · skip
    obtain ⟨n, ho⟩ := id ht
    obtain ⟨n2, ho2⟩ := id hb
    have e : vs.toArray ++ ws.toArray = (vs ++ ws).toArray := by simp
    by_cases hv : vs = []
    · subst hv
      obtain rfl := rs.nil'
      exact concat_meets ⟨_, ho, rfl⟩ ⟨_, ho2, rfl⟩ noFill_tuple_add seq_tuple_add PySem.F.slot_tuple_add PySem.F.entry_tuple_add (PySem.F.args_tuple_add_2 _ _)
        (tuple_addW0 t b _ ws.toArray n n2 _ _ _ _ rfl) ⟨ho, ho2, Post.same (tk := s.toks) S.lists (.tup hb rs') q⟩
    · by_cases hw : ws = []
      · subst hw
        obtain rfl := rs'.nil'
        rw [List.append_nil] at q
        exact concat_meets ⟨_, ho, rfl⟩ ⟨_, ho2, rfl⟩ noFill_tuple_add seq_tuple_add PySem.F.slot_tuple_add PySem.F.entry_tuple_add (PySem.F.args_tuple_add_2 _ _)
          (tuple_addW1 t b vs.toArray _ n n2 _ _ _ _ (by simpa using hv) rfl) ⟨ho, ho2, Post.same (tk := s.toks) S.lists (.tup ht rs) q⟩
      · refine concat_meets ⟨_, ho, rfl⟩ ⟨_, ho2, rfl⟩ noFill_tuple_add seq_tuple_add PySem.F.slot_tuple_add PySem.F.entry_tuple_add (PySem.F.args_tuple_add_2 _ _)
          (tuple_addW2 t b vs.toArray ws.toArray n n2 _ _ _ _ (by simpa using hv) (by simpa using hw) (by rw [List.size_toArray, List.size_toArray, rs.length, rs'.length]; exact hsz)) ⟨ho, ho2, ?_⟩
        rw [e]
        exact Post.newTup (tk := s.toks) S.lists (fun uu uu e => Heap.get?_push_of_some _ e) ⟨0, Heap.get?_push_size _ rfl⟩ (rs.append rs') q
theorem op_add_lst {a b : Addr} {ds es : List D} (ha : M a = some ds) (hb : M b = some es) (hsz : ds.length + es.length ≤ sizeLine) (q : ∀ c, M c = .none → Q (.lst c) (upd M c (ds ++ es))) : Op2 prog w C ρ M (binaryOp .Add) (.lst a) (.lst b) Q := fun s v₁ v₂ S r₁ r₂ => by
  refine hide fun uu kg => ?_
  obtain ⟨uu, vs, ⟨n, ho⟩, rs⟩ := S.lists.lst ha r₁
  refine kg ?_
  refine hide fun uu kg => ?_
  obtain ⟨uu, ws, ⟨n2, ho2⟩, rs'⟩ := S.lists.lst hb r₂
  refine kg ?_
  obtain ⟨rfl, uu⟩ := r₁.lst_; obtain ⟨rfl, uu⟩ := r₂.lst_
  have e : vs.toArray ++ ws.toArray = (vs ++ ws).toArray := by simp
  refine concat_meets ⟨_, ho, rfl⟩ ⟨_, ho2, rfl⟩ noFill_list_add seq_list_add PySem.F.slot_list_add PySem.F.entry_list_add (PySem.F.args_list_add_2 _ _) (list_addW a b vs.toArray ws.toArray n n2 _ _ _ _ (by rw [List.size_toArray, List.size_toArray, rs.length, rs'.length]; exact hsz)) ⟨ho, ho2, ?_⟩
  rw [e]
  exact Post.newList (tk := s.toks) S (fun uu uu e => Heap.get?_push_of_some _ e) (get?_size_none _) ⟨0, Heap.get?_push_size _ rfl⟩ (rs.append rs') q

theorem op_list_tup {ds : List D} (hsz : ds.length ≤ sizeLine) (q : ∀ c, M c = .none → Q (.lst c) (upd M c ds)) : OpN prog w C ρ M (fun vs => PySem.call (.type "list") vs) [.tup ds] Q := fun s vs S rs => by
  obtain ⟨v, rfl, r⟩ := rs.one
  obtain ⟨uu, uu, rfl, h, rs⟩ := r.tup_
  obtain ⟨k, ho⟩ := h
  exact call_list_seq (hsz := by rw [List.size_toArray, rs.length]; exact hsz) _ (.inr rfl) ho rfl rfl fun h' c' hk hD => Post.newList (tk := s.toks) S hk (get?_size_none _) ⟨c', hD⟩ rs q
theorem op_tuple_lst {a : Addr} {ds : List D} (hM : M a = some ds) (hsz : ds.length ≤ sizeLine) (q : Q (.tup ds) M) : OpN prog w C ρ M (fun vs => PySem.call (.type "tuple") vs) [.lst a] Q := fun s vs S rs => by
  obtain ⟨v, rfl, r⟩ := rs.one
  have r₀ := r
  obtain ⟨rfl, uu⟩ := r.lst_
  refine hide fun uu kg => ?_
  obtain ⟨uu, vs, h, rs⟩ := S.lists.lst hM r₀
  refine kg ?_
  refine call_tuple_list (hsz := by rw [List.size_toArray, rs.length]; exact hsz) h.list fun h' hk => ?_
  exact Post.newTup (tk := s.toks) S.lists (fun b o e => Heap.get?_push_of_some _ (hk b o e)) ⟨0, Heap.get?_push_size _ rfl⟩ rs q
theorem op_list_lst {a : Addr} {ds : List D} (hM : M a = some ds) (hsz : ds.length ≤ sizeLine) (q : ∀ c, M c = .none → Q (.lst c) (upd M c ds)) : OpN prog w C ρ M (fun vs => PySem.call (.type "list") vs) [.lst a] Q := fun s vs S rs => by
  obtain ⟨v, rfl, r⟩ := rs.one
  have r₀ := r
  obtain ⟨rfl, uu⟩ := r.lst_
  refine hide fun uu kg => ?_
  obtain ⟨uu, vs, ⟨k, ho⟩, rs⟩ := S.lists.lst hM r₀
  refine kg ?_
  exact call_list_seq (hsz := by rw [List.size_toArray, rs.length]; exact hsz) _ (.inl rfl) ho rfl rfl fun h' c' hk hD => Post.newList (tk := s.toks) S hk (get?_size_none _) ⟨c', hD⟩ rs q

-- slices of tuples
theorem adjust_upto (b n : Nat) (hb : b ≤ n) : Builtin.Slice.sliceAdjust none (some (b : Int)) 1 (n : Int) = (0, (b : Int)) := by
  unfold Builtin.Slice.sliceAdjust
  have h1 : ¬ ((1 : Int) < 0) := by omega
  have h2 : ¬ ((b : Int) < 0) := by omega
  simp only [h1, h2, if_false]
  congr 1
  omega
theorem places_upto (b : Nat) : Builtin.Slice.slicePlaces 0 (b : Int) 1 = b := by
  unfold Builtin.Slice.slicePlaces
  have h1 : (1 : Int) > 0 := by omega
  simp only [h1, if_true, Int.ediv_one]
  split <;> omega
theorem sliceApplied_upto {A : Around} {E : Value → Shared → Prop} {sl : Addr} {b n : Nat} {u : Tok} {R : Int × Int × Nat → Shared → Prop} (hs : s.heap.IsSliceOf sl .none (.int b u) .none) (hb : b ≤ n) (h : R (0, 1, b) s) :
    wpAny (model prog w) A (Builtin.Slice.sliceApplied (.ref sl) (pure (n : Int))) R E s := by
  refine hide fun uu kg => ?_
  obtain ⟨os, hos, hcs, hds⟩ := id hs
  refine kg ?_
  unfold Builtin.Slice.sliceApplied Builtin.Slice.sliceFields
  refine wpAny_bind (wpAny_bind (wpAny_field hos hds (x := .none) rfl (wpAny_bind (wpAny_field hos hds (x := .int b u) rfl (wpAny_bind (wpAny_field hos hds (x := .none) rfl (wpAny_pure ?_)))))))
  refine wpAny_bind (slicePart_none ?_)
  show wpAny _ _ (if ((1 : Int) == 0) = true then _ else _) _ _ s
  refine wp_ff (by decide) ?_
  refine wpAny_bind (slicePart_none (wpAny_bind (slicePart_int (wpAny_bind (wpAny_pure ?_)))))
  show wpAny _ _ (match Builtin.Slice.sliceAdjust none (some (b : Int)) 1 (n : Int) with | (lo, hi) => pure (lo, (1 : Int), Builtin.Slice.slicePlaces lo hi 1)) _ _ s
  rw [adjust_upto b n hb]
  show wpAny _ _ (pure ((0 : Int), (1 : Int), Builtin.Slice.slicePlaces 0 (b : Int) 1)) _ _ s
  rw [places_upto b]
  exact wpAny_pure h
theorem pick_upto (xs : Array Value) (b : Nat) : ((List.range b).filterMap fun (k : Nat) => xs[((0 : Int) + (k : Int) * 1).toNat]?).toArray = (xs.toList.take b).toArray := by
  have e : (fun (k : Nat) => xs[((0 : Int) + (k : Int) * 1).toNat]?) = fun k => xs[0 + k]? := by
    funext k
    have : ((0 : Int) + (k : Int) * 1).toNat = 0 + k := by omega
    rw [this]
  rw [e]
  have := pick_run xs 0 b
  rw [List.filterMap_map] at this
  have e2 : ((fun x => xs[x]?) ∘ fun x => 0 + x) = fun k => xs[0 + k]? := rfl
  rw [e2] at this
  rw [this, List.drop_zero]
theorem getItem_tuple_upto {A : Around} {E : Value → Shared → Prop} {t sl : Addr} {items : Array Value} {b : Nat} {u : Tok} {R : Value → Shared → Prop} (ht : IsTup s.heap t items) (hs : s.heap.IsSliceOf sl .none (.int b u) .none) (hb : b < items.size)
    (h : R (.ref s.heap.objs.size) { s with heap := s.heap.push { cls := .type "tuple", data := .seq (items.toList.take b).toArray } })
    (hsz : items.size ≤ sizeLine) : wpAny (model prog w) A (getItem (.ref t) (.ref sl)) R E s := by
  have hdrop : sizeOk (.seq (items.toList.take b).toArray) := by
    show (items.toList.take b).toArray.size ≤ sizeLine
    rw [List.size_toArray, List.length_take, Array.length_toList]
    omega
  refine hide fun uu kg => ?_
  obtain ⟨os, hos, hcs, hds⟩ := id hs
  refine kg ?_
  have hTs : s.TypeIs (.ref sl) "slice" := ⟨os, hos, hcs⟩
  unfold getItem
  try with_reducible refine wpAny_holding ?_
  first | refine wpAny_bind (wpAny_pure ?_) | skip
  refine wpAny_bind (wpAny_sequenceKey ht.typeIs (by decide) ?_)
  refine wpAny_bind (wpAny_callSpecial?_slot (name := Str.ofString "__getitem__") ht.typeIs slot_tuple_getitem
    (wpAny_call_entry slot_tuple_getitem ht.typeIs entry_tuple_getitem ?_ (args_tuple_getitem _ _)))
  show wpAny _ _ (Builtin.Tuple.tupleItemsOf (.ref t) >>= _) _ _ s
  refine wpAny_bind (tupleItemsOf_ ht ?_)
  refine wpAny_bind (wpAny_typeOf hTs ?_)
  refine wp_tt (by decide) ?_
  refine wpAny_bind (sliceApplied_upto hs (Nat.le_of_lt hb) ?_)
  have hno : ¬ (((0 : Int) == 0 && (1 : Int) == 1 && b == items.size) = true) := by
    have : (b == items.size) = false := by rw [beq_eq_false_iff_ne]; omega
    rw [this]; simp
  show wpAny _ _ (if ((0 : Int) == 0 && (1 : Int) == 1 && b == items.size) = true then _ else _) _ _ s
  refine wp_ff hno ?_
  rw [pick_upto items b]
  first
    | exact wpAny_bind (m := Builtin.Tuple.tupleExact _) (wpAny_newObj_type (wpAny_pure ⟨_, rfl, wpAny_pure h⟩) hdrop)
    | exact wpAny_bind (m := Builtin.Tuple.tupleExact _) (wpAny_newObj_type (wpAny_bind (wpAny_pure (wpAny_pure ⟨_, rfl, wpAny_pure h⟩))) hdrop)
    | exact wpAny_bind (wpAny_bind (m := Builtin.Tuple.tupleExact _) (wpAny_newObj_type (wpAny_pure (wpAny_pure ⟨_, rfl, wpAny_pure h⟩)) hdrop))
    | exact wpAny_bind (wpAny_bind (m := Builtin.Tuple.tupleExact _) (wpAny_newObj_type (wpAny_pure ⟨_, rfl, wpAny_pure h⟩) hdrop))

theorem Reps.drop {h : Heap} : ∀ {vs : List Value} {ds : List D}, Reps h vs ds → ∀ k, Reps h (vs.drop k) (ds.drop k)
  | _, _, r, 0 => r
  | _, [], r, _ + 1 => by obtain rfl := r.nil_; exact .nil
  | _, _ :: _, r, k + 1 => by obtain ⟨_, _, rfl, _, rs⟩ := r.cons_; exact rs.drop k
theorem Reps.take {h : Heap} : ∀ {vs : List Value} {ds : List D}, Reps h vs ds → ∀ k, Reps h (vs.take k) (ds.take k)
  | _, _, _, 0 => .nil
  | _, [], r, _ + 1 => by obtain rfl := r.nil_; exact .nil
  | _, _ :: _, r, k + 1 => by obtain ⟨_, _, rfl, r, rs⟩ := r.cons_; exact .cons r (rs.take k)

theorem ev_slice_from {value lo : Expr} {p pos : Pos} (h : Ev prog w C ρ M value (KE3 prog w C ρ lo (KSf Q)))
    (hs : ∀ o i, subscripted (.Slice (some lo) none none p) false (.ref o) (.ref i) = operate [.ref i, .ref o] (getItem (.ref o) (.ref i))) : Ev prog w C ρ M (.Subscript value (.Slice (some lo) none none p) pos) Q := fun s S => by
  refine Subscript_ (h.use S fun s₁ v₁ d₁ M₁ T₁ S₁ r₁ q₁ => ?_)
  rw [arm_eval_Slice]
  refine wpAny_bind (Ev.use q₁ S₁ fun s₂ v₂ d₂ M₂ T₂ S₂ r₂ q₂ => ?_)
  refine hide fun uu kg => ?_
  obtain ⟨ds, k, rfl, rfl, h1, h2, hsz, q⟩ := q₂
  refine kg ?_
  refine wpAny_bind (wpAny_holding (wpAny_pure (wpAny_bind (wpAny_holding (wpAny_pure ?_)))))
  unfold newFields
  have r₁' := S₁.rep T₂ r₁
  obtain ⟨t, vs, rfl, ht, rs⟩ := r₁'.tup_
  obtain ⟨u, rfl⟩ := r₂.int_
  · skip
    refine wpAny_newObj_type ?_ (by size_fits)
    have ek : ∀ b o, s₂.heap.get? b = some o → (s₂.heap.push { cls := .type "slice", data := .fields #[.int k u, .none, .none] }).get? b = some o := fun uu uu e => Heap.get?_push_of_some _ e
    have ht' : IsTup (s₂.heap.push { cls := .type "slice", data := .fields #[.int k u, .none, .none] }) t vs.toArray := ht.tup.keeps ek
    refine tail_any (s := { s₂ with heap := s₂.heap.push { cls := .type "slice", data := .fields #[.int k u, .none, .none] } }) ht'.typeIs slot_tuple_getitem.lookup (getItem_tuple_from ht' (Heap.IsSliceOf.new ..) h1 (by rw [List.size_toArray, rs.length]; exact h2) ?_ (by rw [List.size_toArray, rs.length]; exact hsz)) (hs _ _)
    refine Post.trans (T₁.trans T₂) (Post.newTup (tk := s₂.toks) S₂.lists (fun b o e => Heap.get?_push_of_some _ (ek b o e)) ⟨0, Heap.get?_push_size _ rfl⟩ ?_ q)
    exact rs.drop k
theorem ev_slice_upto {value hi : Expr} {p pos : Pos} (h : Ev prog w C ρ M value (KE3 prog w C ρ hi (KSu Q)))
    (hs : ∀ o i, subscripted (.Slice none (some hi) none p) false (.ref o) (.ref i) = operate [.ref i, .ref o] (getItem (.ref o) (.ref i))) : Ev prog w C ρ M (.Subscript value (.Slice none (some hi) none p) pos) Q := fun s S => by
  refine Subscript_ (h.use S fun s₁ v₁ d₁ M₁ T₁ S₁ r₁ q₁ => ?_)
  rw [arm_eval_Slice]
  refine wpAny_bind (wpAny_pure (wpAny_bind (wpAny_holding (Ev.use q₁ S₁ fun s₂ v₂ d₂ M₂ T₂ S₂ r₂ q₂ => ?_))))
  obtain ⟨ds, k, rfl, rfl, h1, hsz, q⟩ := q₂
  refine wpAny_bind (wpAny_holding (wpAny_pure ?_))
  unfold newFields
  have r₁' := S₁.rep T₂ r₁
  obtain ⟨t, vs, rfl, ht, rs⟩ := r₁'.tup_
  obtain ⟨u, rfl⟩ := r₂.int_
  · skip
    refine wpAny_newObj_type ?_ (by size_fits)
    have ek : ∀ b o, s₂.heap.get? b = some o → (s₂.heap.push { cls := .type "slice", data := .fields #[.none, .int k u, .none] }).get? b = some o := fun uu uu e => Heap.get?_push_of_some _ e
    have ht' : IsTup (s₂.heap.push { cls := .type "slice", data := .fields #[.none, .int k u, .none] }) t vs.toArray := ht.tup.keeps ek
    refine tail_any (s := { s₂ with heap := s₂.heap.push { cls := .type "slice", data := .fields #[.none, .int k u, .none] } }) ht'.typeIs slot_tuple_getitem.lookup (getItem_tuple_upto ht' (Heap.IsSliceOf.new ..) (by rw [List.size_toArray, rs.length]; exact h1) ?_ (by rw [List.size_toArray, rs.length]; exact hsz)) (hs _ _)
    refine Post.trans (T₁.trans T₂) (Post.newTup (tk := s₂.toks) S₂.lists (fun b o e => Heap.get?_push_of_some _ (ek b o e)) ⟨0, Heap.get?_push_size _ rfl⟩ ?_ q)
    exact rs.take k

-- append; a statement that is an expression
theorem op_append {a : Addr} {ds : List D} {d : D} (hM : M a = some ds) (hsz : ds.length ≤ sizeLine) (q : Q .none (upd M a (ds ++ [d]))) : OpN prog w C ρ M (fun vs => PySem.call (.builtin "list.append") vs) [.lst a, d] Q := fun s vs S rs => by
  obtain ⟨v, x, rfl, r, r'⟩ := rs.two
  have r₀ := r
  obtain ⟨rfl, ne⟩ := r.lst_
  refine hide fun uu kg => ?_
  obtain ⟨uu, ws, ⟨k, ho⟩, rs⟩ := S.lists.lst hM r₀
  refine kg ?_
  refine wpAny_list_append_plain (items := ws.toArray) ⟨k, ho⟩ (fun h' hl hs => ?_) (by rw [List.size_toArray, rs.length]; exact hsz)
  obtain ⟨k', hl⟩ := hl
  exact Post.list (vs := ws ++ [x]) (es := ds ++ [d]) (tk := s.toks) S hM ne hs.extBut ⟨k', by rw [show ws.toArray.push x = (ws ++ [x]).toArray by simp] at hl; exact hl⟩ (rs.append (.cons r' .nil)) .none q
theorem sx_expr {e : Expr} {pos : Pos} {Q : Option D → Locs → LMap → Prop} (h : Ev prog w C ρ M e (KX Q ρ))
    (hi : interactive C.env = false := by rfl) (hs : swapsWith e none pos.line C.env = pure false := by rfl) : Sx prog w C ρ M (.Expr e pos) Q := fun s S =>
  wpAny_Expr (h.use S fun s₁ v d M₁ T S₁ r q => by
    obtain ⟨rfl, q⟩ := q
    obtain rfl := r.none_
    exact ⟨ρ, M₁, T.weaken, S₁, q⟩) hi hs
end
end Mine

end
section
open PySem PySem.W PyProof.Rows
set_option maxRecDepth 100000
set_option linter.unusedVariables false
namespace Mine

section
variable {prog : Program} {w : World} {C : Cx} {s s₁ s' : Shared} {ρ ρ₁ : Locs} {M M₁ : LMap} {G : Heap → Prop} {n : Nat} {Q : D → LMap → Prop} {K : Frag} {p : Program} {loose : List Str} {mg mb : Str → Option Value}

theorem ev_bi {x : Str} {np pos : Pos} {args : List Expr} {id : String} (O : CxOk (GlobB K p loose mg mb) C n) (e : nsIn K mainGlobals x = some none) (hv : bootBuiltins x = some (.builtin id)) (hn : x ≠ "__name__")
    (hx : C.env.kindOf x = some .globalImplicit) (hd : (x == ("__debug__" : Str)) = false)
    (he : Heads args C.env) (hp : (backTo pos (starEach args C.env)).any (·.1) = false)
    (h : Evs prog w C ρ M pos args (KOpN prog w C ρ (fun vs => PySem.call (.builtin id) vs) Q)) : Ev prog w C ρ M (.Call (.Name x np) args [] pos) Q :=
  ev_call_bi (ev_builtin O e hv hn ⟨rfl, h⟩ hx hd) he hp
theorem ev_ty {x : Str} {np pos : Pos} {args : List Expr} {T : String} (O : CxOk (GlobB K p loose mg mb) C n) (e : nsIn K mainGlobals x = some none) (hv : bootBuiltins x = some (.type T)) (hn : x ≠ "__name__")
    (hx : C.env.kindOf x = some .globalImplicit) (hd : (x == ("__debug__" : Str)) = false)
    (he : Heads args C.env) (hp : (backTo pos (starEach args C.env)).any (·.1) = false)
    (h : Evs prog w C ρ M pos args (KOpN prog w C ρ (fun vs => PySem.call (.type T) vs) Q)) : Ev prog w C ρ M (.Call (.Name x np) args [] pos) Q :=
  ev_call_ty (ev_builtin O e hv hn ⟨rfl, h⟩ hx hd) he hp
theorem ev_def {x : Str} {np pos : Pos} {args : List Expr} (a n' : Nat) {oc : Value} {od : Option Addr} {fd : FuncData} {osl : Array (Option Value)} (O : CxOk (GlobB K p loose mg mb) C n) (hn : n' ≤ n) (e : nsIn K mainGlobals x = some (some (.ref a))) (hK : K.lookup a = some ⟨oc, od, .func fd, osl⟩)
    (hx : C.env.kindOf x = some .globalImplicit) (hd : (x == ("__debug__" : Str)) = false)
    (he : Heads args C.env)
    (h : Evs prog w C ρ M pos args (KFn prog w (GlobB K p loose mg mb) (.ref a) n' Q)) : Ev prog w C ρ M (.Call (.Name x np) args [] pos) Q :=
  ev_call O (fun uu h => h.kin) hn hK (ev_global O e (fun uu uu => .raw _) ⟨rfl, h⟩ hx hd) he
/-- a callee that may raise -/
theorem ev_callx {x : Str} {np pos : Pos} {args : List Expr} {a n' : Nat} {oc : Value} {od : Option Addr} {fd : FuncData} {osl : Array (Option Value)} {X : Array UInt8 → Prop} (O : CxOk G C n) (hG : ∀ base, G base → K.In base) (hn : n' ≤ n) (hK : K.lookup a = some ⟨oc, od, .func fd, osl⟩)
    (hE : Takes C X)
    (h : Ev prog w C ρ M (.Name x np) fun d M₁ => d = .raw (.ref a) ∧ Evs prog w C ρ M₁ pos args (KFnX prog w G (.ref a) n' X Q))
    (he : Heads args C.env) : Ev prog w C ρ M (.Call (.Name x np) args [] pos) Q := fun s S => by
  refine Call_Name rfl (h.use S fun s₁ v d M₁ T₁ S₁ r₁ q₁ => ?_)
  obtain ⟨rfl, q₁⟩ := q₁
  obtain rfl := r₁.raw_
  refine Calls.callWith_function (o := ⟨oc, od, .func fd, osl⟩) (fd := fd) (args_use q₁ S₁ (fun s₂ vs ds M₂ T₂ S₂ r₂ q₂ => ?_) he)
  refine ⟨⟨((hG _ O.glob).keeps S₂.stays) _ _ hK, rfl⟩, ?_⟩
  refine to_trans (T₁.trans T₂) ?_
  have hd := O.depth
  have hu := O.units
  exact q₂ C.A C.stk C.base C.past s₂ vs C.E O.frames (by omega) (by omega) O.handled O.glob S₂.stays S₂.frames S₂.lists S₂.tab r₂ S₂.past S₂.like (hE _ _)
theorem ev_defx {x : Str} {np pos : Pos} {args : List Expr} (a n' : Nat) {oc : Value} {od : Option Addr} {fd : FuncData} {osl : Array (Option Value)} {X : Array UInt8 → Prop} (O : CxOk (GlobB K p loose mg mb) C n) (hn : n' ≤ n) (e : nsIn K mainGlobals x = some (some (.ref a))) (hK : K.lookup a = some ⟨oc, od, .func fd, osl⟩)
    (hx : C.env.kindOf x = some .globalImplicit) (hd : (x == ("__debug__" : Str)) = false)
    (he : Heads args C.env) (hE : Takes C X)
    (h : Evs prog w C ρ M pos args (KFnX prog w (GlobB K p loose mg mb) (.ref a) n' X Q)) : Ev prog w C ρ M (.Call (.Name x np) args [] pos) Q :=
  ev_callx O (fun uu h => h.kin) hn hK hE (ev_global O e (fun uu uu => .raw _) ⟨rfl, h⟩ hx hd) he
/-- a def that stands in a local name -/
theorem ev_loc {x : Str} {np pos : Pos} {args : List Expr} (a n' : Nat) {oc : Value} {od : Option Addr} {fd : FuncData} {osl : Array (Option Value)} (O : CxOk (GlobB K p loose mg mb) C n) (hn : n' ≤ n) (e : ρ.lookup x = some (.raw (.ref a))) (hK : K.lookup a = some ⟨oc, od, .func fd, osl⟩)
    (hd : (x == ("__debug__" : Str)) = false) (hcd : (x == ("__classdict__" : Str)) = false)
    (he : Heads args C.env)
    (h : Evs prog w C ρ M pos args (KFn prog w (GlobB K p loose mg mb) (.ref a) n' Q)) : Ev prog w C ρ M (.Call (.Name x np) args [] pos) Q :=
  ev_call O (fun uu h => h.kin) hn hK (ev_name e ⟨rfl, h⟩ O.kind hd hcd) he
theorem takes_cx {X : Array UInt8 → Prop} {A : Around} {env : Env} {base : Heap} {past : Was} {stk : List Env} {L : Addr} (O : CxOk G (cxOf (model prog w) A env base past stk L X) n) (hf : env.frame = some L) : Takes (cxOf (model prog w) A env base past stk L X) X :=
  fun k o v s' F => Fly.leaves O.frames hf F
end
end Mine

end
section
open PySem PySem.W PyProof.Rows
set_option maxRecDepth 100000
set_option linter.unusedVariables false
namespace Mine

noncomputable def Wr (wr : List Addr) (h : Heap) : Prop := ∀ b ∈ wr, b ≠ tabA ∧ ∃ o vs, h.get? b = some o ∧ o.data = .fields vs ∧ NoCode vs
/-- an iterator: its own records `wr`, what is asked of the lists, its state, what it gives -/
structure Iter (prog : Program) (w : World) (A : Around) (base : Heap) (it : Addr) (wr : List Addr) (T : Expr → Prop) (Ok : LMap → Prop) (St : Nat → Heap → Prop) (Mid : Nat → Value → Heap → Prop) (ds : List D) : Prop where
  flds : ∀ i h, St i h → Wr wr h
  fldm : ∀ i v h, Mid i v h → Wr wr h
  frame : ∀ i h h', St i h → (∀ b ∈ wr, ∀ o, h.get? b = some o → h'.get? b = some o) → TupsStay h h' → St i h'
  item : ∀ i d (s : Shared) (M : LMap) (Q : Option Value → Shared → Prop) (E : Value → Shared → Prop), ds[i]? = some d → St i s.heap → Lists base s.heap M → Ok M →
    (∀ v h' tk, Rep h' v d → Mid i v h' → (∀ b o, b ∉ wr → s.heap.get? b = some o → h'.get? b = some o) → Q (some v) { s with heap := h', toks := tk }) → wpAny (model prog w) A (pyNext (.ref it)) Q E s
  go : ∀ t i v (s : Shared) (Q : Unit → Shared → Prop) (E : Value → Shared → Prop), T t → Mid i v s.heap →
    (∀ h', St (i + 1) h' → (∀ b o, b ∉ wr → s.heap.get? b = some o → h'.get? b = some o) → Q () { s with heap := h' }) → wpAny (model prog w) A (letOwnedTupleGo t (.ref it) v) Q E s
  self : ∀ i (s : Shared) (Q : Value → Shared → Prop) (E : Value → Shared → Prop), St i s.heap → Q (.ref it) s → wpAny (model prog w) A (pyIter (.ref it)) Q E s
  done : ∀ (s : Shared) (M : LMap) (Q : Option Value → Shared → Prop) (E : Value → Shared → Prop), St ds.length s.heap → Lists base s.heap M → Ok M →
    (∀ h' tk, (∀ b o, b ∉ wr → s.heap.get? b = some o → h'.get? b = some o) → Q none { s with heap := h', toks := tk }) → wpAny (model prog w) A (pyNext (.ref it)) Q E s

section
variable {prog : Program} {w : World} {C : Cx} {s s₁ s' : Shared} {ρ ρ₁ : Locs} {M M₁ : LMap} {G : Heap → Prop} {n : Nat}

theorem tups_wr {wr : List Addr} {h h' : Heap} (F : Wr wr h) (k : ∀ b o, b ∉ wr → h.get? b = some o → h'.get? b = some o) : TupsStay h h' := fun a vs ⟨n, e⟩ => ⟨n, k a _ (fun q => by
  refine hide fun uu kg => ?_
  obtain ⟨uu, o, ws, ho, hd, uu⟩ := F a q
  refine kg ?_
  (first | exact (nne e ho).elim | exact (dd e ho rfl).elim | obtain rfl := some_inj e ho | (rw [e] at ho; cases ho)); cases hd) e⟩
theorem keepNF {wr : List Addr} {h h' : Heap} (F : Wr wr h) (k : ∀ b o, b ∉ wr → h.get? b = some o → h'.get? b = some o) : ∀ b o, h.get? b = some o → (∀ vs, o.data ≠ .fields vs) → h'.get? b = some o := fun b o e hd => k b o (fun q => by
  refine hide fun uu kg => ?_
  obtain ⟨uu, o', ws, ho, hd', uu⟩ := F b q
  refine kg ?_
  (first | exact (nne e ho).elim | exact (dd e ho rfl).elim | obtain rfl := some_inj e ho | (rw [e] at ho; cases ho)); exact hd _ hd') e
theorem Sit.wr {wr : List Addr} {h' : Heap} {tk : Nat} (S : Sit C s ρ M) (F : Wr wr s.heap) (hb : ∀ b ∈ wr, C.base.get? b = .none) (k : ∀ b o, b ∉ wr → s.heap.get? b = some o → h'.get? b = some o) : Sit C { s with heap := h', toks := tk } ρ M := by
  have tups := tups_wr F k
  have kn := keepNF F k
  have nsUp : ∀ a m, s.heap.Ns a m → h'.Ns a m := fun a m ⟨o, es, ep, ho, hd, r⟩ => ⟨o, es, ep, kn a o ho (fun vs q => by (first | exact (nne hd q).elim | exact (dd hd q rfl).elim | obtain rfl := some_inj hd q | (rw [hd] at q; cases q))), hd, r⟩
  have cellUp : ∀ c v, s.heap.IsCell c v → h'.IsCell c v := fun c v ⟨o, ho, hd⟩ => ⟨o, kn c o ho (fun vs q => by (first | exact (nne hd q).elim | exact (dd hd q rfl).elim | obtain rfl := some_inj hd q | (rw [hd] at q; cases q))), hd⟩
  refine ⟨fun b o e => k b o (fun q => by (first | exact (nne (hb b q) e).elim | exact (dd (hb b q) e rfl).elim | obtain rfl := some_inj (hb b q) e | (rw [hb b q] at e; cases e))) (S.stays b o e), fun env he => ?_, fun a ds e => ?_, fun a ha => ?_, ?_, fun x c e => ?_, S.inj, fun x d e => ?_, fun b o e => ?_, S.like.up, let ⟨o, e⟩ := S.tab; ⟨o, k _ _ (fun q => (F _ q).1 rfl) e⟩⟩
  · refine hide fun uu kg => ?_
    obtain ⟨hk, L, o, es, n, hf, hbn, ho, hd⟩ := S.frames env he
    refine kg ?_
    exact ⟨hk, L, o, es, n, hf, hbn, kn L o ho (fun vs q => by (first | exact (nne hd q).elim | exact (dd hd q rfl).elim | obtain rfl := some_inj hd q | (rw [hd] at q; cases q))), hd⟩
  · exact ⟨(S.lists a ds e).1, (S.lists a ds e).2.turn (fun vs n e => kn a _ e fun vs q => by cases q) tups fun b o vs e hd hc => k b o (fun q => by
      refine hide fun uu kg => ?_
      obtain ⟨h1, o', vs', e', hd', h2⟩ := F b q
      refine kg ?_
      rw [e] at e'
      cases e'
      rw [hd] at hd'
      cases hd'
      exact hc.elim h1 fun z => z h2) e⟩
  · refine hide fun uu kg => ?_
    obtain ⟨o, ho, h1, h2⟩ := S.own a ha
    refine kg ?_
    exact ⟨o, kn a o ho h2, h1, h2⟩
  · obtain ⟨m, hm⟩ := S.ns
    exact ⟨m, nsUp _ _ hm⟩
  · obtain ⟨v, hv⟩ := S.cells x c e
    exact ⟨v, cellUp _ _ hv⟩
  · obtain ⟨v, hbd, hr⟩ := S.names x d e
    refine ⟨v, ?_, hr.mono tups⟩
    rcases hbd with ⟨hk, m, hm, hv⟩ | ⟨hk, c, hc, hv⟩
    · exact .inl ⟨hk, m, nsUp _ _ hm, hv⟩
    · exact .inr ⟨hk, c, hc, cellUp _ _ hv⟩
  · refine hide fun uu kg => ?_
    obtain ⟨⟨es, n, hd⟩, sl, ho⟩ := S.past b o e
    refine kg ?_
    exact ⟨⟨es, n, hd⟩, sl, kn b _ ho (fun vs q => by rw [show o.data = _ from hd] at q; cases q)⟩
theorem Step.wr {wr own : List Addr} {stk : List Env} {h' : Heap} {tk : Nat} (k : ∀ b o, b ∉ wr → s.heap.get? b = some o → h'.get? b = some o) (F : Wr wr h') : Step (wr ++ own) stk s M { s with heap := h', toks := tk } M := by
  refine ⟨fun b o e uu ho => ⟨o.slots, k b o (fun q => ho (List.mem_append_left _ q)) e, fun uu => rfl⟩, fun b o e => ?_, fun uu h => .inl h, rfl⟩
  by_cases q : b ∈ wr
  · refine hide fun uu kg => ?_
    obtain ⟨uu, o', uu, ho', uu⟩ := F b q
    refine kg ?_
    exact ⟨o', ho'⟩
  · exact ⟨o, k b o q e⟩
theorem Step.wider {own own' : List Addr} {stk : List Env} {M' : LMap} (S : Step own stk s M s' M') (h : ∀ a ∈ own, a ∈ own') : Step own' stk s M s' M' := ⟨fun b o e hM ho => S.keep b o e hM fun q => ho (h b q), S.there, S.fresh, S.rest⟩
theorem Step.narrow {wr own : List Addr} {stk : List Env} {M' : LMap} (S : Step (wr ++ own) stk s M s' M') (h : ∀ a ∈ wr, s.heap.get? a = .none) : Step own stk s M s' M' := ⟨fun b o e hM ho => S.keep b o e hM fun q => by
  rcases List.mem_append.mp q with q | q
  · (first | exact (nne (h b q) e).elim | exact (dd (h b q) e rfl).elim | obtain rfl := some_inj (h b q) e | (rw [h b q] at e; cases e))
  · exact ho q, S.there, S.fresh, S.rest⟩
theorem Step.last {wr own : List Addr} {stk : List Env} {M' : LMap} {h' : Heap} {tk : Nat} (S : Step (wr ++ own) stk s M s' M') (hf : ∀ a ∈ wr, s.heap.get? a = .none) (k : ∀ b o, b ∉ wr → s'.heap.get? b = some o → h'.get? b = some o) : Step own stk s M { s' with heap := h', toks := tk } M' := by
  have nw : ∀ b o, s.heap.get? b = some o → b ∉ wr := fun b o e q => by (first | exact (nne (hf b q) e).elim | exact (dd (hf b q) e rfl).elim | obtain rfl := some_inj (hf b q) e | (rw [hf b q] at e; cases e))
  refine ⟨fun b o e hM ho => ?_, fun b o e => ?_, S.fresh, ?_⟩
  · obtain ⟨sl, e', q⟩ := (S.narrow hf).keep b o e hM ho
    exact ⟨sl, k b _ (nw b o e) e', q⟩
  · obtain ⟨o', e'⟩ := S.there b o e
    exact ⟨o', k b _ (nw b o e) e'⟩
  · have r := S.rest
    rw [r]
/-- the records stand through a tree that does not own them -/
theorem Step.flds {own wr : List Addr} {stk : List Env} {M' : LMap} {base : Heap} (S : Step own stk s M s' M') (L : Lists base s.heap M) (F : FrOk base stk s.heap) (O : OwnOk own s.heap) (W : Wr wr s.heap) : ∀ b ∈ wr, ∀ o, s.heap.get? b = some o → s'.heap.get? b = some o := fun b hb o e => by
  refine hide fun uu kg => ?_
  obtain ⟨hbt, o', vs, ho', hd, uu⟩ := W b hb
  refine kg ?_
  rw [e] at ho'
  cases ho'
  obtain ⟨sl, e', q⟩ := S.keep b o e (L.notRec e (fun xs n z => by (first | exact (nne hd z).elim | exact (dd hd z rfl).elim | obtain rfl := some_inj hd z | (rw [hd] at z; cases z))) hbt) (fun z => by
    refine hide fun uu kg => ?_
    obtain ⟨o', ho', uu, h2⟩ := O b z
    refine kg ?_
    (first | exact (nne e ho').elim | exact (dd e ho' rfl).elim | obtain rfl := some_inj e ho' | (rw [e] at ho'; cases ho')); exact h2 _ hd)
  rw [q (F.notSeq e fun es n z => by rw [hd] at z; cases z)] at e'
  exact e'

/-- an expression that is run over -/
noncomputable def IE (prog : Program) (w : World) (C : Cx) (ρ : Locs) (M : LMap) (e : Expr) (Q : (Expr → Prop) → (LMap → Prop) → List D → LMap → Prop) : Prop :=
  ∀ s, Sit C s ρ M → wpAny (model prog w) C.A (eval e C.env) (fun x s₁ => wpAny (model prog w) C.A (pyIter x) (fun it s₂ => ∃ a wr T Ok St Mid ds M', it = .ref a ∧ Iter prog w C.A C.base a wr T Ok St Mid ds ∧
    Step wr C.stk s M s₂ M' ∧ (∀ b ∈ wr, s.heap.get? b = .none) ∧ Sit C s₂ ρ M' ∧ St 0 s₂.heap ∧ Q T Ok ds M') C.E s₁) C.E s

noncomputable def ForL (prog : Program) (w : World) (C : Cx) (t : Expr) (body : List Stmt) (Ok : LMap → Prop) : List D → Locs → LMap → (Option D → Locs → LMap → Prop) → Prop
  | [], ρ, M, Q => Ok M ∧ Q .none ρ M
  | d :: ds, ρ, M, Q => Ok M ∧ As prog w C ρ M t d fun ρ₁ M₁ => Ss prog w C ρ₁ M₁ body fun o ρ₂ M₂ => match o with
    | some r => Q (some r) ρ₂ M₂
    | .none => ForL prog w C t body Ok ds ρ₂ M₂ Q

/-- how a turn of a loop ends -/
noncomputable def TurnEnd (I : Nat → Shared → Prop) (QF : Flow → Shared → Prop) (n : Nat) : Flow → Shared → Prop := fun f s => match f with
  | .next | .cont => ∃ m, m < n ∧ I m s
  | .brk => QF .next s
  | .ret v => QF (.ret v) s
/-- a loop that passes its raises on -/
theorem for_core {A : Around} {env : Env} {E : Value → Shared → Prop} {QF : Flow → Shared → Prop} {t : Expr} {it : Value} {body : List Stmt} (hp : PassesOwn (model prog w) A env E) (I : Nat → Shared → Prop)
    (turn : ∀ n s, I n s → wpAny (model prog w) A (pyNext it) (fun r s₁ => match r with
      | none => QF .next s₁
      | some v => wpAny (model prog w) A (letOwnedTupleGo t it v) (fun _ s₁' => wpAny (model prog w) A (assign t env v) (fun _ s₂ => wpAny (model prog w) A (execs body env) (TurnEnd I QF n) E s₂) E s₁') E s₁) E s)
    (n : Nat) (h : I n s) : codeAny (model prog w) A (.forLoop t it body [] env) (fun r s' => match r with | .ok f => QF f s' | .error e => cameBackBy (model prog w) A env E e s') s := by
  have up : ∀ {α : Type} {tr : Sem α} {R : α → Shared → Prop} {s : Shared}, wpAny (model prog w) A tr R E s → wpAny (model prog w) A tr R (notedBy (model prog w) A env (cameBackBy (model prog w) A env E)) s := fun h => wpAny_passesOwn hp h
  refine codeAny_forLoop_any I (fun n s hI => up (wpAny_mono (turn n s hI) (fun r s₁ h₁ => ?_) fun uu uu x => x)) n h
  cases r with
  | none => exact wpAny_execs_nil h₁
  | some v => exact up (wpAny_mono h₁ (fun uu s₂ h₂ => up (wpAny_mono h₂ (fun uu s₃ h₃ => up (wpAny_mono h₃ (fun f s₄ h₄ => by cases f <;> exact h₄) fun uu uu x => x)) fun uu uu x => x)) fun uu uu x => x)
theorem sx_for {t iter : Expr} {body : List Stmt} {pos : Pos} {Q : Option D → Locs → LMap → Prop} (O : CxOk G C n) (hp : PassesOwn (model prog w) C.A C.env C.E)
    (h : IE prog w C ρ M iter fun T Ok ds M₁ => T t ∧ ForL prog w C t body Ok ds ρ M₁ Q) (hs : ∀ x, foldedSetIterable iter C.env x = pure x) : Sx prog w C ρ M (.For t iter body [] pos) Q := fun s S => by
  refine wpAny_For (wpAny_mono (h s S) (fun x s₁ h₁ => wpAny_mono h₁ (fun it s₂ h₂ => ?_) fun uu uu x => x) fun uu uu x => x) hs
  refine hide fun uu kg => ?_
  obtain ⟨a, wr, T, Ok, St, Mid, ds, M₂, rfl, I, T₂, hfr, S₂, hSt, hT, hL⟩ := h₂
  refine kg ?_
  have hwb : ∀ b ∈ wr, C.base.get? b = .none := fun b hb => by
    exact none_of fun o e => by have := S.stays b o e; (first | exact (nne (hfr b hb) this).elim | exact (dd (hfr b hb) this rfl).elim | obtain rfl := some_inj (hfr b hb) this | (rw [hfr b hb] at this; cases this))
  refine for_core (QF := PostF C s M Q) hp (fun k s' => ∃ i ρ' M', i + k = ds.length ∧ Step (wr ++ C.own) C.stk s M s' M' ∧ Sit C s' ρ' M' ∧ St i s'.heap ∧ ForL prog w C t body Ok (ds.drop i) ρ' M' Q) (fun k s' hI => ?_) ds.length
    ⟨0, ρ, M₂, by omega, T₂.wider fun a h => List.mem_append_left _ h, S₂, hSt, hL⟩
  refine hide fun uu kg => ?_
  obtain ⟨i, ρ', M', hk, T', S', hSt', hL'⟩ := hI
  refine kg ?_
  cases hd : ds.drop i with
  | nil =>
    rw [hd] at hL'
    have hi : i = ds.length := drop_end hk hd
    subst hi
    refine I.done s' M' _ _ hSt' S'.lists hL'.1 fun h' tk kk => ?_
    have S'' : Sit C { s' with heap := h', toks := tk } ρ' M' := S'.wr (I.flds _ _ hSt') hwb kk
    exact ⟨ρ', M', T'.last hfr kk, S'', hL'.2⟩
  | cons d rest =>
    rw [hd] at hL'
    obtain ⟨hok, hA⟩ := hL'
    obtain ⟨hi, hrest, hlt⟩ := drop_at hd
    refine I.item i d s' M' _ _ hi hSt' S'.lists hok fun v h' tk r hm kk => ?_
    have F' := I.fldm _ _ _ hm
    have S1 : Sit C { s' with heap := h', toks := tk } ρ' M' := S'.wr (I.flds _ _ hSt') hwb kk
    have T1 := T'.trans (Step.wr (own := C.own) (tk := tk) kk F')
    refine I.go t i v _ _ _ hT hm fun h'' hs'' k'' => ?_
    have S2 : Sit C { s' with heap := h'', toks := tk } ρ' M' := S1.wr (tk := tk) F' hwb k''
    have T2 : Step (wr ++ C.own) C.stk s M { s' with heap := h'', toks := tk } M' := T1.trans (Step.wr (s := { s' with heap := h', toks := tk }) (tk := tk) k'' (I.flds _ _ hs''))
    refine (wpAny_mono (hA _ v S2 (r.mono (tups_wr F' k''))) (fun uu s₃ h₃ => ?_) fun uu uu x => x)
    refine hide fun uu kg => ?_
    obtain ⟨ρ₃, M₃, T₃, S₃, hB⟩ := h₃
    refine kg ?_
    refine (wpAny_mono (hB s₃ S₃) (fun f s₄ h₄ => ?_) fun uu uu x => x)
    refine hide fun uu kg => ?_
    obtain ⟨ρ₄, M₄, T₄, S₄, q₄⟩ := h₄
    refine kg ?_
    have TT : Step C.own C.stk { s' with heap := h'', toks := tk } M' s₄ M₄ := T₃.trans T₄
    have TA : Step (wr ++ C.own) C.stk s M s₄ M₄ := T2.trans (TT.wider fun a h => List.mem_append_right _ h)
    cases f with
    | next =>
      refine ⟨ds.length - (i + 1), turn_lt hk hlt, i + 1, ρ₄, M₄, turn_eq hlt, TA, S₄, ?_, by rw [hrest]; exact q₄⟩
      exact I.frame _ _ _ hs'' (TT.flds S2.lists S2.frames S2.own (I.flds _ _ hs'')) (TT.tups S2.own S2.lists S2.frames)
    | ret v =>
      obtain ⟨d, r, q⟩ := q₄
      exact ⟨ρ₄, M₄, TA.narrow hfr, S₄, d, r, q⟩
    | brk => exact q₄.elim
    | cont => exact q₄.elim
end
end Mine

end
section
open PySem PySem.W PyProof.Rows
set_option maxRecDepth 100000
set_option linter.unusedVariables false
namespace Mine

section
variable {prog : Program} {w : World} {C : Cx} {s s₁ s' : Shared} {ρ ρ₁ : Locs} {M M₁ : LMap} {G : Heap → Prop} {n : Nat}

noncomputable def TOk (t : Expr) : Prop := (∃ x p, t = .Name x p) ∨ ∃ es k p, t = .Tuple es k p
theorem tok_name (x : Str) (p : Pos) : TOk (.Name x p) := .inl ⟨x, p, rfl⟩
theorem tok_tuple (es : List Expr) (k : Nat) (p : Pos) : TOk (.Tuple es k p) := .inr ⟨es, k, p, rfl⟩

theorem iter_lst {A : Around} {base : Heap} (hh : A.handled = none) (it a : Addr) (ds : List D) (hne : a ≠ it) (hat : a ≠ tabA) (hit : it ≠ tabA) :
    Iter prog w A base it [it] TOk (fun M => M a = some ds) (fun i h => h.IsListIter it a i) (fun i uu h => h.IsListIter it a (i + 1)) ds where
  flds := fun i h x b hb => by
    rw [List.mem_singleton.mp hb]
    refine hide fun uu kg => ?_
    obtain ⟨o, ho, uu, hd⟩ := x
    refine kg ?_
    exact ⟨hit, o, _, ho, hd, (by intro q t z; first | (simp [rawInt] at z; done) | cases z)⟩
  fldm := fun i v h x b hb => by
    rw [List.mem_singleton.mp hb]
    refine hide fun uu kg => ?_
    obtain ⟨o, ho, uu, hd⟩ := x
    refine kg ?_
    exact ⟨hit, o, _, ho, hd, (by intro q t z; first | (simp [rawInt] at z; done) | cases z)⟩
  frame := fun i h h' x k uu => x.at fun o e => k it (by simp) o e
  item := fun i d s M Q E hi x L hM hQ => by
    obtain ⟨vs, hl, rs⟩ := (L a _ hM).2.lst hat
    obtain ⟨v, hv, r⟩ := rs.get hi
    refine wpAny_pyNext_list_item x hl.list (x := v) (by simpa using hv) fun h' x' hs => ?_
    refine hQ v h' s.toks (r.mono ?_) x' fun b o hb e => (hs.2 b (by simpa using hb)).trans e
    intro c us ⟨n, e⟩
    refine ⟨n, (hs.2 c fun q => ?_).trans e⟩
    refine hide fun uu kg => ?_
    obtain ⟨o, ho, uu, hd⟩ := x
    refine kg ?_
    rw [q, ho] at e
    have := congrArg Obj.data (Option.some.inj e)
    (first | exact (nne hd this).elim | exact (dd hd this rfl).elim | obtain rfl := some_inj hd this | (rw [hd] at this; cases this))
  go := fun t i v s Q E hT x hQ => by
    have hq := hQ s.heap x fun uu uu uu e => e
    rcases hT with ⟨y, p, rfl⟩ | ⟨es, k, p, rfl⟩
    · exact wpAny_pure hq
    · cases v with
      | ref b => exact wpAny_letOwnedTupleGo_listiter x hq
      | _ => exact wpAny_pure hq
  self := fun uu uu uu uu x hQ => wpAny_pyIter_listiter x hQ
  done := fun s M Q E x L hM hQ => by
    obtain ⟨vs, hl, rs⟩ := (L a _ hM).2.lst hat
    refine wpAny_pyNext_list_end hh x hl.list (by simp [rs.length]) fun h' hs => hQ h' s.toks fun b o hb e => hs b o (by simpa using hb) e

theorem wpAny_letOwnedTupleGo_tupiter {A : Around} {E : Value → Shared → Prop} {elts : List Expr} {x1} {pos : Pos} {I l T : Addr} {i : Nat} {Q : Unit → Shared → Prop} (hit : s.heap.IsTupleIter I l i) (hQ : Q () s) :
    wpAny (model prog w) A (letOwnedTupleGo (.Tuple elts x1 pos) (.ref I) (.ref T)) Q E s := by
  refine hide fun uu kg => ?_
  obtain ⟨o, ho, hc, hd⟩ := hit
  refine kg ?_
  unfold letOwnedTupleGo
  refine wpAny_bind (wpAny_load ho ?_)
  rw [hc, hd]
  show wpAny _ A (if (["enumerate", "zip", "dict_itemiterator", "dict_reverseitemiterator", "odict_iterator", "itertools.zip_longest", "itertools.pairwise"].contains "tuple_iterator" && (_ : Bool)) = true then _ else _) Q E s
  refine wp_ff (by rw [show (["enumerate", "zip", "dict_itemiterator", "dict_reverseitemiterator", "odict_iterator", "itertools.zip_longest", "itertools.pairwise"] : List String).contains "tuple_iterator" = false from by decide]; exact Bool.false_ne_true) ?_
  exact wpAny_pure hQ

theorem tupIter_at {h h' : Heap} {a l i} (x : h.IsTupleIter a l i) (e : ∀ o, h.get? a = some o → h'.get? a = some o) : h'.IsTupleIter a l i := let ⟨o, ho, r⟩ := x; ⟨o, e _ ho, r⟩

theorem iter_tup {A : Around} {base : Heap} (hh : A.handled = none) (it a : Addr) (vs : List Value) (ds : List D) (hne : a ≠ it) (hit : it ≠ tabA) :
    Iter prog w A base it [it] TOk (fun uu => True) (fun i h => h.IsTupleIter it a i ∧ IsTp h a vs.toArray ∧ Reps h vs ds) (fun i uu h => h.IsTupleIter it a (i + 1) ∧ IsTp h a vs.toArray ∧ Reps h vs ds) ds where
  flds := fun i h x b hb => by
    rw [List.mem_singleton.mp hb]
    refine hide fun uu kg => ?_
    obtain ⟨⟨o, ho, uu, hd⟩, uu⟩ := x
    refine kg ?_
    exact ⟨hit, o, _, ho, hd, (by intro q t z; first | (simp [rawInt] at z; done) | cases z)⟩
  fldm := fun i v h x b hb => by
    rw [List.mem_singleton.mp hb]
    refine hide fun uu kg => ?_
    obtain ⟨⟨o, ho, uu, hd⟩, uu⟩ := x
    refine kg ?_
    exact ⟨hit, o, _, ho, hd, (by intro q t z; first | (simp [rawInt] at z; done) | cases z)⟩
  frame := fun i h h' x k t => ⟨tupIter_at x.1 fun o e => k it (by simp) o e, t _ _ x.2.1, x.2.2.mono t⟩
  item := fun i d s M Q E hi x L hM hQ => by
    obtain ⟨x, ht, rs⟩ := x
    obtain ⟨v, hv, r⟩ := rs.get hi
    refine wpAny_pyNext_tuple_item x ht.tuple (x := v) (by simpa using hv) fun h' x' hs => ?_
    have tups : TupsStay s.heap h' := by
      intro c us ⟨n, e⟩
      refine ⟨n, (hs.2 c fun q => ?_).trans e⟩
      refine hide fun uu kg => ?_
      obtain ⟨o, ho, uu, hd⟩ := x
      refine kg ?_
      rw [q, ho] at e
      have := congrArg Obj.data (Option.some.inj e)
      (first | exact (nne hd this).elim | exact (dd hd this rfl).elim | obtain rfl := some_inj hd this | (rw [hd] at this; cases this))
    exact hQ v h' s.toks (r.mono tups) ⟨x', tups _ _ ht, rs.mono tups⟩ fun b o hb e => (hs.2 b (by simpa using hb)).trans e
  go := fun t i v s Q E hT x hQ => by
    have hq := hQ s.heap x fun uu uu uu e => e
    rcases hT with ⟨y, p, rfl⟩ | ⟨es, k, p, rfl⟩
    · exact wpAny_pure hq
    · cases v with
      | ref b => exact wpAny_letOwnedTupleGo_tupiter x.1 hq
      | _ => exact wpAny_pure hq
  self := fun uu uu uu uu x hQ => wpAny_pyIter_tupleiter x.1 hQ
  done := fun s M Q E x L hM hQ => by
    obtain ⟨x, ht, rs⟩ := x
    refine wpAny_pyNext_tuple_end hh x ht.tuple (by simp [rs.length]) fun h' hs => hQ h' s.toks fun b o hb e => hs b o (by simpa using hb) e

/-- the ints from a on, by steps of c -/
noncomputable def steps (a c : Int) (k : Nat) : List D := (List.range k).map fun (i : Nat) => .int (a + i * c)
theorem steps_get {a c : Int} {k i : Nat} {d : D} (h : (steps a c k)[i]? = some d) : i < k ∧ d = .int (a + i * c) := by
  unfold steps at h
  rw [List.getElem?_map] at h
  rcases Nat.lt_or_ge i k with hi | hi
  · rw [List.getElem?_range hi] at h
    exact ⟨hi, (Option.some.inj h).symm⟩
  · rw [List.getElem?_eq_none (by simpa using hi)] at h
    cases h
theorem iter_range {A : Around} {base : Heap} (hh : A.handled = none) (it : Addr) (a c : Int) (k : Nat) (hit : it ≠ tabA) :
    Iter prog w A base it [it] TOk (fun uu => True) (fun i h => IsRangeIter h it (a + i * c) ((k : Int) - i) c) (fun i uu h => IsRangeIter h it (a + (i + 1 : Nat) * c) ((k : Int) - (i + 1 : Nat)) c) (steps a c k) where
  flds := fun i h x b hb => by
    rw [List.mem_singleton.mp hb]
    exact ⟨hit, _, _, x, rfl, (by intro q t z; first | (simp [rawInt] at z; done) | cases z)⟩
  fldm := fun i v h x b hb => by
    rw [List.mem_singleton.mp hb]
    exact ⟨hit, _, _, x, rfl, (by intro q t z; first | (simp [rawInt] at z; done) | cases z)⟩
  frame := fun i h h' x k t => k it (by simp) _ x
  item := fun i d s M Q E hi x L hM hQ => by
    obtain ⟨hlt, rfl⟩ := steps_get hi
    refine wpAny_pyNext_range_item x (by omega) fun h' x' hs => ?_
    refine hQ _ h' (s.toks + 1) (.int _ _) ?_ fun b o hb e => (hs.2 b (by simpa using hb)).trans e
    have e1 : a + (i : Int) * c + c = a + ((i + 1 : Nat) : Int) * c := by push_cast; rw [Int.add_mul]; omega
    have e2 : (k : Int) - i - 1 = (k : Int) - ((i + 1 : Nat) : Int) := by push_cast; omega
    rw [← e1, ← e2]
    exact x'
  go := fun t i v s Q E hT x hQ => by
    have hq := hQ s.heap x fun uu uu uu e => e
    rcases hT with ⟨y, p, rfl⟩ | ⟨es, k, p, rfl⟩
    · exact wpAny_pure hq
    · cases v with
      | ref b =>
        unfold letOwnedTupleGo
        refine wpAny_bind (wpAny_load x ?_)
        show wpAny _ A (if (["enumerate", "zip", "dict_itemiterator", "dict_reverseitemiterator", "odict_iterator", "itertools.zip_longest", "itertools.pairwise"].contains "range_iterator" && (_ : Bool)) = true then _ else _) Q E s
        refine wp_ff (by rw [show (["enumerate", "zip", "dict_itemiterator", "dict_reverseitemiterator", "odict_iterator", "itertools.zip_longest", "itertools.pairwise"] : List String).contains "range_iterator" = false from by decide]; exact Bool.false_ne_true) ?_
        exact wpAny_pure hq
      | _ => exact wpAny_pure hq
  self := fun uu uu uu uu x hQ => wpAny_pyIter_rangeiter x hQ
  done := fun s M Q E x L hM hQ => by
    have hl : (steps a c k).length = k := by simp [steps]
    rw [hl] at x
    refine wpAny_pyNext_range_end hh x (by omega) fun h' hs => hQ h' s.toks fun b o hb e => hs b o (by simpa using hb) e

theorem ie_lst {e : Expr} {Q : (Expr → Prop) → (LMap → Prop) → List D → LMap → Prop} (O : CxOk G C n) (h : Ev prog w C ρ M e fun d M₁ => ∃ a ds, d = .lst a ∧ M₁ a = some ds ∧ Q TOk (fun M => M a = some ds) ds M₁) : IE prog w C ρ M e Q := fun s S => by
  refine h.use S fun s₁ v d M₁ T S₁ r q => ?_
  obtain ⟨a, ds, rfl, hM, q⟩ := q
  obtain ⟨rfl, ne⟩ := r.lst_
  obtain ⟨vs, hl, rs⟩ := (S₁.lists a _ hM).2.lst ne
  have hz := get?_size_none s₁.heap
  have hz0 : s.heap.get? s₁.heap.objs.size = .none := by
    exact none_of fun o e => by obtain ⟨o', e'⟩ := T.there _ _ e; (first | exact (nne hz e').elim | exact (dd hz e' rfl).elim | obtain rfl := some_inj hz e' | (rw [hz] at e'; cases e'))
  have hne : a ≠ s₁.heap.objs.size := fun q => by obtain ⟨k, ho⟩ := hl; (first | exact (nb q hz ho).elim | obtain rfl := sb q hz ho | (rw [q, hz] at ho; cases ho))
  have k : ∀ b o, s₁.heap.get? b = some o → (s₁.heap.push { cls := .type "list_iterator", data := .fields #[.ref a, .int 0 0] }).get? b = some o := fun uu uu e => Heap.get?_push_of_some _ e
  refine wpAny_pyIter_list hl.list ?_
  refine ⟨_, [s₁.heap.objs.size], _, _, _, _, ds, M₁, rfl, iter_lst O.handled s₁.heap.objs.size a ds hne ne (S₁.tab.ne hz), ?_, fun b hb => by rw [List.mem_singleton.mp hb]; exact hz0, ?_, ⟨_, Heap.get?_push_size _ rfl, rfl, rfl⟩, q⟩
  · exact (T.trans (Step.ofKeeps (tk := s₁.toks) k)).weaken
  · exact S₁.ev (Step.ofKeeps (tk := s₁.toks) k) (S₁.lists.mono k)
theorem ie_tup {e : Expr} {Q : (Expr → Prop) → (LMap → Prop) → List D → LMap → Prop} (O : CxOk G C n) (h : Ev prog w C ρ M e fun d M₁ => ∃ ds, d = .tup ds ∧ Q TOk (fun uu => True) ds M₁) : IE prog w C ρ M e Q := fun s S => by
  refine h.use S fun s₁ v d M₁ T S₁ r q => ?_
  obtain ⟨ds, rfl, q⟩ := q
  obtain ⟨a, vs, rfl, ht, rs⟩ := r.tup_
  · skip
    have hz := get?_size_none s₁.heap
    have hz0 : s.heap.get? s₁.heap.objs.size = .none := by
      exact none_of fun o e => by obtain ⟨o', e'⟩ := T.there _ _ e; (first | exact (nne hz e').elim | exact (dd hz e' rfl).elim | obtain rfl := some_inj hz e' | (rw [hz] at e'; cases e'))
    have hne : a ≠ s₁.heap.objs.size := fun q => by obtain ⟨k, ho⟩ := ht; (first | exact (nb q hz ho).elim | obtain rfl := sb q hz ho | (rw [q, hz] at ho; cases ho))
    have k : ∀ b o, s₁.heap.get? b = some o → (s₁.heap.push { cls := .type "tuple_iterator", data := .fields #[.ref a, .int 0 0] }).get? b = some o := fun uu uu e => Heap.get?_push_of_some _ e
    refine wpAny_pyIter_tuple ht.tuple ?_
    refine ⟨_, [s₁.heap.objs.size], _, _, _, _, ds, M₁, rfl, iter_tup O.handled s₁.heap.objs.size a vs ds hne (S₁.tab.ne hz), ?_, fun b hb => by rw [List.mem_singleton.mp hb]; exact hz0, ?_, ⟨⟨_, Heap.get?_push_size _ rfl, rfl, rfl⟩, ?_, ?_⟩, q⟩
    · exact (T.trans (Step.ofKeeps (tk := s₁.toks) k)).weaken
    · exact S₁.ev (Step.ofKeeps (tk := s₁.toks) k) (S₁.lists.mono k)
    · obtain ⟨kk, ho⟩ := ht; exact ⟨kk, k _ _ ho⟩
    · exact rs.mono fun uu uu ⟨n, ho⟩ => ⟨n, k _ _ ho⟩

inductive Rng : List D → Int → Int → Int → Prop
  | one (n : Int) : Rng [.int n] 0 n 1
  | two (a b : Int) : Rng [.int a, .int b] a b 1
  | three (a b c : Int) : Rng [.int a, .int b, .int c] a b c
theorem call_rng {A : Around} {E : Value → Shared → Prop} {vs : List Value} {ds : List D} {a b c : Int} {R : Value → Shared → Prop} (rs : Reps s.heap vs ds) (hr : Rng ds a b c) (hc : c ≠ 0) (hp : Builtin.divisionGoesByPylong (b - a) c = false)
    (h : ∀ t u v tk, R (.ref s.heap.objs.size) { s with heap := s.heap.push { cls := .type "range", data := .fields #[.int a t, .int b u, .int c v] }, toks := tk }) : wpAny (model prog w) A (call (.type "range") vs) R E s := by
  cases hr with
  | one n =>
    obtain ⟨v, rfl, r⟩ := rs.one
    obtain ⟨uu, rfl⟩ := r.int_
    exact call_range_1 (h _ _ _ _)
  | two a' b' =>
    obtain ⟨v, v', rfl, r, r'⟩ := rs.two
    obtain ⟨uu, rfl⟩ := r.int_
    obtain ⟨uu, rfl⟩ := r'.int_
    exact call_range_2 (h _ _ _ _)
  | three a' b' c' =>
    refine hide fun uu kg => ?_
    obtain ⟨v, v', v'', rfl, r₁, r₂, r₃⟩ := rs.three
    refine kg ?_
    obtain ⟨uu, rfl⟩ := r₁.int_
    obtain ⟨uu, rfl⟩ := r₂.int_
    obtain ⟨uu, rfl⟩ := r₃.int_
    exact call_range_3 hc (h _ _ _ _) (.inl hp)
theorem ie_range {np pos : Pos} {args : List Expr} {K : Frag} {p : Program} {loose : List Str} {mg mb : Str → Option Value} {Q : (Expr → Prop) → (LMap → Prop) → List D → LMap → Prop} (O : CxOk (GlobB K p loose mg mb) C n) (e : nsIn K mainGlobals (Str.ofString "range") = some none) (hv : bootBuiltins (Str.ofString "range") = some (.type "range"))
    (hx : C.env.kindOf (Str.ofString "range") = some .globalImplicit)
    (he : Heads args C.env) (hp : (backTo pos (starEach args C.env)).any (·.1) = false)
    (h : Evs prog w C ρ M pos args fun ds M₁ => ∃ a b c k, Rng ds a b c ∧ c ≠ 0 ∧ Builtin.divisionGoesByPylong (b - a) c = false ∧ Builtin.Range.small a b c = true ∧ Builtin.Range.rangeSize a b c = (k : Nat) ∧ Q TOk (fun uu => True) (steps a c k) M₁) :
    IE prog w C ρ M (.Call (.Name (Str.ofString "range") np) args [] pos) Q := fun s S => by
  refine Call_Name rfl ((ev_builtin (Q := fun d M₁ => d = .raw (.type "range") ∧ M₁ = M) O e hv (by decide) ⟨rfl, rfl⟩ hx (by decide)).use S fun s₁ v d M₁ T₁ S₁ r₁ q₁ => ?_)
  obtain ⟨rfl, rfl⟩ := q₁
  obtain rfl := r₁.raw_
  refine PyProof.Rows.callWith_type hp (args_use h S₁ (fun s₂ vs ds M₂ T₂ S₂ r₂ q₂ => ?_) he)
  refine hide fun uu kg => ?_
  obtain ⟨a, b, c, k, hr, hc, hpy, hsm, hsz, q⟩ := q₂
  refine kg ?_
  refine call_rng r₂ hr hc hpy fun t u v tk => ?_
  have hR := IsRange.new s₂.heap a b c t u v
  have k1 : ∀ b' o, s₂.heap.get? b' = some o → (s₂.heap.push { cls := .type "range", data := .fields #[.int a t, .int b u, .int c v] }).get? b' = some o := fun uu uu e => Heap.get?_push_of_some _ e
  refine wpAny_pyIter_range (s := { s₂ with heap := s₂.heap.push { cls := .type "range", data := .fields #[.int a t, .int b u, .int c v] }, toks := tk }) hR hsm ?_
  rw [hsz]
  generalize hH : s₂.heap.push { cls := .type "range", data := .fields #[.int a t, .int b u, .int c v] } = H at k1 hR ⊢
  have hz := get?_size_none H
  have T12 := T₁.trans T₂
  have hz0 : s.heap.get? H.objs.size = .none := by
    exact none_of fun o e => by obtain ⟨o', e'⟩ := T12.there _ _ e; (first | exact (nne (k1 _ _ e') hz).elim | exact (dd (k1 _ _ e') hz rfl).elim | obtain rfl := some_inj (k1 _ _ e') hz | (rw [k1 _ _ e'] at hz; cases hz))
  have k2 : ∀ b' o, s₂.heap.get? b' = some o → (H.push { cls := .type "range_iterator", data := .fields #[rawInt a, rawInt (k : Nat), rawInt c] }).get? b' = some o := fun uu uu e => Heap.get?_push_of_some _ (k1 _ _ e)
  refine ⟨_, [H.objs.size], _, _, _, _, steps a c k, M₂, rfl, iter_range O.handled H.objs.size a c k (S.tab.ne hz0), ?_, fun b hb => by rw [List.mem_singleton.mp hb]; exact hz0, ?_, ?_, q⟩
  · exact (T12.trans (Step.ofKeeps (tk := tk) k2)).weaken
  · exact S₂.ev (Step.ofKeeps (tk := tk) k2) (S₂.lists.mono k2)
  · show IsRangeIter _ _ (a + ((0 : Nat) : Int) * c) ((k : Int) - ((0 : Nat) : Int)) c
    rw [show a + ((0 : Nat) : Int) * c = a by simp, show (k : Int) - ((0 : Nat) : Int) = k by simp]
    exact Heap.get?_push_size _ rfl

/-- numbered items -/
noncomputable def enums (ds : List D) : List D := ds.mapIdx fun i d => .tup [.int i, d]
theorem iter_enum {A : Around} {base : Heap} (hh : A.handled = none) (e it a : Addr) (ds : List D) (hne : a ≠ it) (hei : e ≠ it) (hat : a ≠ tabA) (het : e ≠ tabA) (hitt : it ≠ tabA) :
    Iter prog w A base e [e, it] (fun t => ∃ es k p, t = .Tuple es k p) (fun M => M a = some ds) (fun i h => (∃ old, IsEnum h e it i old) ∧ h.IsListIter it a i)
      (fun i v h => ∃ T x, v = .ref T ∧ IsEnumOut h e it ((i : Int) + 1) x T ∧ h.IsListIter it a (i + 1)) (enums ds) where
  flds := fun i h x b hb => by
    refine hide fun uu kg => ?_
    obtain ⟨⟨old, he⟩, o, ho, uu, hd⟩ := x
    refine kg ?_
    rcases List.mem_cons.mp hb with rfl | hb
    · exact ⟨het, _, _, he, rfl, (by intro q t z; first | (simp [rawInt] at z; done) | cases z)⟩
    · rw [List.mem_singleton.mp hb]
      exact ⟨hitt, o, _, ho, hd, (by intro q t z; first | (simp [rawInt] at z; done) | cases z)⟩
  fldm := fun i v h x b hb => by
    refine hide fun uu kg => ?_
    obtain ⟨T, x, uu, he, o, ho, uu, hd⟩ := x
    refine kg ?_
    rcases List.mem_cons.mp hb with rfl | hb
    · exact ⟨het, _, _, he, rfl, (by intro q t z; first | (simp [rawInt] at z; done) | cases z)⟩
    · rw [List.mem_singleton.mp hb]
      exact ⟨hitt, o, _, ho, hd, (by intro q t z; first | (simp [rawInt] at z; done) | cases z)⟩
  frame := fun i h h' x k uu => by
    obtain ⟨⟨old, he⟩, hit⟩ := x
    exact ⟨⟨old, k e (by simp) _ he⟩, hit.at fun o e => k it (by simp) o e⟩
  item := fun i d s M Q E hi x L hM hQ => by
    obtain ⟨⟨old, he⟩, hit⟩ := x
    obtain ⟨vs, hl, rs⟩ := (L a _ hM).2.lst hat
    have hi' : ∃ d', ds[i]? = some d' ∧ d = .tup [.int i, d'] := by
      unfold enums at hi
      rw [List.getElem?_mapIdx] at hi
      obtain ⟨d', h1, h2⟩ := Option.map_eq_some_iff.mp hi
      exact ⟨d', h1, h2.symm⟩
    obtain ⟨d', hd', rfl⟩ := hi'
    obtain ⟨v, hv, r⟩ := rs.get hd'
    refine wpAny_pyNext_enum_item he hit hl.list (x := v) (by simpa using hv) hei fun h' ho hit' hT hsz hk => ?_
    have tups : TupsStay s.heap h' := by
      intro c us ⟨n, e1⟩
      refine ⟨n, hk c _ (fun q => ?_) (fun q => ?_) e1⟩
      · rw [q, he] at e1
        have := congrArg Obj.data (Option.some.inj e1)
        cases this
      · refine hide fun uu kg => ?_
        obtain ⟨o, ho, uu, hd⟩ := hit
        refine kg ?_
        rw [q, ho] at e1
        have := congrArg Obj.data (Option.some.inj e1)
        (first | exact (nne hd this).elim | exact (dd hd this rfl).elim | obtain rfl := some_inj hd this | (rw [hd] at this; cases this))
    exact hQ _ h' (s.toks + 1) (.tup ⟨0, hT⟩ (.cons (.int _ _) (.cons (r.mono tups) .nil))) ⟨_, _, rfl, ho, hit'⟩ fun b o hb e1 => hk b o (fun q => hb (by simp [q])) (fun q => hb (by simp [q])) e1
  go := fun t i v s Q E hT x hQ => by
    obtain ⟨es, k, p, rfl⟩ := hT
    obtain ⟨T, x, rfl, ho, hit⟩ := x
    refine wpAny_letOwnedTupleGo_enum ho fun h' he' hs' => hQ h' ⟨⟨x, by simpa using he'⟩, hit.at fun o y => (hs'.2 it hei.symm).trans y⟩ fun b o hb y => ?_
    exact (hs'.2 b fun e' => hb (by simp [e'])).trans y
  self := fun uu uu uu uu x hQ => by
    obtain ⟨⟨old, he⟩, hit⟩ := x
    exact wpAny_pyIter_enum he hQ
  done := fun s M Q E x L hM hQ => by
    obtain ⟨⟨old, he⟩, hit⟩ := x
    obtain ⟨vs, hl, rs⟩ := (L a _ hM).2.lst hat
    refine wpAny_pyNext_enum_end hh he hit hl.list (by simp [rs.length, enums]) fun h' hs => hQ h' s.toks fun b o hb e1 => hs b o (fun q => hb (by simp [q])) e1
theorem ie_enum {np pos : Pos} {args : List Expr} {K : Frag} {p : Program} {loose : List Str} {mg mb : Str → Option Value} {Q : (Expr → Prop) → (LMap → Prop) → List D → LMap → Prop} (O : CxOk (GlobB K p loose mg mb) C n) (e : nsIn K mainGlobals (Str.ofString "enumerate") = some none) (hv : bootBuiltins (Str.ofString "enumerate") = some (.type "enumerate"))
    (hx : C.env.kindOf (Str.ofString "enumerate") = some .globalImplicit)
    (he : Heads args C.env) (hp : (backTo pos (starEach args C.env)).any (·.1) = false)
    (h : Evs prog w C ρ M pos args fun ds M₁ => ∃ a es, ds = [.lst a] ∧ M₁ a = some es ∧ Q (fun t => ∃ es k p, t = .Tuple es k p) (fun M => M a = some es) (enums es) M₁) :
    IE prog w C ρ M (.Call (.Name (Str.ofString "enumerate") np) args [] pos) Q := fun s S => by
  refine Call_Name rfl ((ev_builtin (Q := fun d M₁ => d = .raw (.type "enumerate") ∧ M₁ = M) O e hv (by decide) ⟨rfl, rfl⟩ hx (by decide)).use S fun s₁ v d M₁ T₁ S₁ r₁ q₁ => ?_)
  obtain ⟨rfl, rfl⟩ := q₁
  obtain rfl := r₁.raw_
  refine PyProof.Rows.callWith_type hp (args_use h S₁ (fun s₂ vs ds M₂ T₂ S₂ r₂ q₂ => ?_) he)
  obtain ⟨a, es, rfl, hM, q⟩ := q₂
  obtain ⟨v, rfl, r⟩ := r₂.one
  obtain ⟨rfl, ne⟩ := r.lst_
  obtain ⟨ws, hl, rs⟩ := (S₂.lists a _ hM).2.lst ne
  have T12 := T₁.trans T₂
  refine call_enumerate_list hl.list fun h' hE hI hsz hk => ?_
  refine wpAny_pyIter_enum hE ?_
  have fresh : ∀ c, s₂.heap.objs.size ≤ c → s.heap.get? c = .none := fun c hc => by
    exact none_of fun o e => by obtain ⟨o', e'⟩ := T12.there _ _ e; exact absurd (Heap.lt_size e') (Nat.not_lt.mpr hc)
  have hne : a ≠ s₂.heap.objs.size := fun q => by obtain ⟨k, ho⟩ := hl; have := Heap.lt_size ho; rw [q] at this; exact Nat.lt_irrefl _ this
  refine ⟨_, [s₂.heap.objs.size + 1, s₂.heap.objs.size], _, _, _, _, enums es, M₂, rfl, iter_enum O.handled (s₂.heap.objs.size + 1) s₂.heap.objs.size a es hne (Nat.succ_ne_self _) ne (S.tab.ne (fresh _ (Nat.le_succ _))) (S.tab.ne (fresh _ (Nat.le_refl _))), ?_, fun b hb => ?_, ?_, ⟨⟨_, hE⟩, hI⟩, q⟩
  · exact (T12.trans (Step.ofKeeps (tk := s₂.toks) hk)).weaken
  · rcases List.mem_cons.mp hb with rfl | hb
    · exact fresh _ (Nat.le_succ _)
    · rw [List.mem_singleton.mp hb]; exact fresh _ (Nat.le_refl _)
  · exact S₂.ev (Step.ofKeeps (tk := s₂.toks) hk) (S₂.lists.mono hk)
end
end Mine

end
section
open PySem PySem.W PyProof.Rows
set_option maxRecDepth 100000
set_option linter.unusedVariables false
namespace Mine

section
variable {prog : Program} {w : World} {C : Cx} {s s₀ s₁ s' : Shared} {ρ ρ₀ ρ₁ ρ' : Locs} {M M₀ M₁ M' : LMap} {G : Heap → Prop} {n : Nat}

/-- a tree that owns what an earlier situation did not know -/
theorem Sit.side {side : List Addr} (S₀ : Sit C s₀ ρ₀ M₀) (hn : ∀ a ∈ side, s₀.heap.get? a = .none) (S : Sit C s ρ M) (T : Step side C.stk s M s' M') (tups : TupsStay s.heap s'.heap) (L : Lists C.base s'.heap M') : Sit C s' ρ M' := by
  have ne : ∀ b o, s₀.heap.get? b = some o → b ∉ side := fun b o e q => by (first | exact (nne (hn b q) e).elim | exact (dd (hn b q) e rfl).elim | obtain rfl := some_inj (hn b q) e | (rw [hn b q] at e; cases e))
  have up : ∀ b o, b ∉ side → s.heap.get? b = some o → (∀ xs n, o.data ≠ .seq xs n) → (∀ vs, o.data ≠ .fields vs) → ∃ sl, s'.heap.get? b = some { o with slots := sl } := fun b o hb e hd hf =>
    let ⟨sl, e', _⟩ := T.keep b o e (S.lists.notDict e hd hf) hb; ⟨sl, e'⟩
  have nsUp : ∀ a m, a ∉ side → s.heap.Ns a m → s'.heap.Ns a m := fun a m hb ⟨o, es, ep, ho, hd, hk, hf⟩ => by
    obtain ⟨sl, e⟩ := up a o hb ho (fun xs n q => by (first | exact (nne hd q).elim | exact (dd hd q rfl).elim | obtain rfl := some_inj hd q | (rw [hd] at q; cases q))) (fun vs q => by (first | exact (nne hd q).elim | exact (dd hd q rfl).elim | obtain rfl := some_inj hd q | (rw [hd] at q; cases q)))
    exact ⟨_, es, ep, e, hd, hk, hf⟩
  have cellUp : ∀ c v, c ∉ side → s.heap.IsCell c v → s'.heap.IsCell c v := fun c v hb ⟨o, ho, hd⟩ => by
    obtain ⟨sl, e⟩ := up c o hb ho (fun xs n q => by (first | exact (nne hd q).elim | exact (dd hd q rfl).elim | obtain rfl := some_inj hd q | (rw [hd] at q; cases q))) (fun vs q => by (first | exact (nne hd q).elim | exact (dd hd q rfl).elim | obtain rfl := some_inj hd q | (rw [hd] at q; cases q)))
    exact ⟨_, e, hd⟩
  have cellNe : ∀ x c, C.env.cells.lookup x = some c → c ∉ side := fun x c e => by
    refine hide fun uu kg => ?_
    obtain ⟨v, o, ho, uu⟩ := S₀.cells x c e
    refine kg ?_
    exact ne c o ho
  have locNe : C.env.locals ∉ side := by
    refine hide fun uu kg => ?_
    obtain ⟨m, o, es, ep, ho, uu⟩ := S₀.ns
    refine kg ?_
    exact ne _ o ho
  refine ⟨fun b o e => ?_, fun env he => ?_, L, fun a ha => ?_, ?_, fun x c e => ?_, S.inj, fun x d e => ?_, fun b o e => ?_, S.like.rest T.rest, S.tab.mono T.there⟩
  · have h1 := S.stays b o e
    obtain ⟨sl, e', q⟩ := T.keep b o h1 (S.lists.notBase e) (ne b o (S₀.stays b o e))
    rw [q fun z => by rw [(S.frames.mem z).1] at e; cases e] at e'
    exact e'
  · refine hide fun uu kg => ?_
    obtain ⟨hk, A, o, es, n, hf, hb, ho, hd⟩ := S.frames env he
    refine kg ?_
    refine hide fun uu kg => ?_
    obtain ⟨uu, A₀, o₀, uu, uu, hf₀, uu, ho₀, uu⟩ := S₀.frames env he
    refine kg ?_
    (first | exact (nne hf hf₀).elim | exact (dd hf hf₀ rfl).elim | obtain rfl := some_inj hf hf₀ | (rw [hf] at hf₀; cases hf₀))
    obtain ⟨sl, e'⟩ := up A o (ne A o₀ ho₀) ho (fun xs m q => by (first | exact (nne hd q).elim | exact (dd hd q rfl).elim | obtain rfl := some_inj hd q | (rw [hd] at q; cases q))) (fun vs q => by (first | exact (nne hd q).elim | exact (dd hd q rfl).elim | obtain rfl := some_inj hd q | (rw [hd] at q; cases q)))
    exact ⟨hk, A, _, es, n, hf, hb, e', hd⟩
  · refine hide fun uu kg => ?_
    obtain ⟨o, ho, h1, h2⟩ := S.own a ha
    refine kg ?_
    obtain ⟨o₀, ho₀, uu⟩ := S₀.own a ha
    obtain ⟨sl, e⟩ := up a o (ne a o₀ ho₀) ho h1 h2
    exact ⟨_, e, h1, h2⟩
  · obtain ⟨m, hm⟩ := S.ns
    exact ⟨m, nsUp _ _ locNe hm⟩
  · obtain ⟨v, hv⟩ := S.cells x c e
    exact ⟨v, cellUp _ _ (cellNe x c e) hv⟩
  · obtain ⟨v, hb, hr⟩ := S.names x d e
    refine ⟨v, ?_, hr.mono tups⟩
    rcases hb with ⟨hk, m, hm, hv⟩ | ⟨hk, c, hc, hv⟩
    · exact .inl ⟨hk, m, nsUp _ _ locNe hm, hv⟩
    · exact .inr ⟨hk, c, hc, cellUp _ _ (cellNe x c hc) hv⟩
  · refine hide fun uu kg => ?_
    obtain ⟨⟨es, n, hd⟩, sl, ho⟩ := S.past b o e
    refine kg ?_
    obtain ⟨uu, sl₀, ho₀⟩ := S₀.past b o e
    obtain ⟨sl', ho'⟩ := up b _ (ne b _ ho₀) ho (fun xs m q => by rw [show o.data = _ from hd] at q; cases q) (fun vs q => by rw [show o.data = _ from hd] at q; cases q)
    exact ⟨⟨es, n, hd⟩, sl', ho'⟩

/-- in a comprehension -/
noncomputable abbrev compCx (C : Cx) (cenv : Env) (past : Was) (X : Array UInt8 → Prop) : Cx := { A := C.A, env := cenv, base := C.base, past, stk := C.stk, own := [], E := fun v s' => ∃ k o, Fly C.base past C.stk X k o v s' }

noncomputable def CompL (prog : Program) (w : World) (G : Heap → Prop) (n : Nat) (C : Cx) (cenv : Env) (X : Array UInt8 → Prop) (ρ' : Locs) (x : Str) (elt : Expr) (Ok : LMap → Prop) : List D → List D → LMap → (List D → LMap → Prop) → Prop
  | [], acc, M, Q => Ok M ∧ Q acc M
  | d :: ds, acc, M, Q => Ok M ∧ ∀ past, CxOk G (compCx C cenv past X) n → Ev prog w (compCx C cenv past X) ((x, d) :: ρ') M elt fun e M' => CompL prog w G n C cenv X ρ' x elt Ok ds (acc ++ [e]) M' Q

theorem codeAny_compLoop_go {A : Around} {R : Result → Shared → Prop} {elt target iter : Expr} {scope : Scope} {pos : Pos} {it acc : Value} {env : Env} (I : Nat → Shared → Prop)
    (turn : ∀ n s, I n s → wpAny (model prog w) A (pyNext it) (fun r s₁ => match r with
      | none => R (.ok .next) s₁
      | some v => wpAny (model prog w) A (letOwnedTupleGo target it v) (fun uu s₁' => wpAny (model prog w) A (assign target env v) (fun uu s₂ => wpAny (model prog w) A (eval elt env) (fun x s₃ =>
          wpAny (model prog w) A (call (.builtin "list.append") [acc, x]) (fun uu s₄ => ∃ m, m < n ∧ I m s₄) (notedBy (model prog w) A env fun e s' => R (.error e) s') s₃)
          (notedBy (model prog w) A env fun e s' => R (.error e) s') s₂) (notedBy (model prog w) A env fun e s' => R (.error e) s') s₁') (notedBy (model prog w) A env fun e s' => R (.error e) s') s₁) (notedBy (model prog w) A env fun e s' => R (.error e) s') s)
    (n : Nat) (h : I n s) : codeAny (model prog w) A (.compLoop (.ListComp elt [⟨target, iter, [], 0⟩] scope pos) 0 it acc env) R s := by
  refine codeAny_loop rfl I (fun n s hI => ?_) n h
  show wpAny _ _ ((compTurn (.ListComp elt [⟨target, iter, [], 0⟩] scope pos) 0 it acc env).onRaise (fun x => do noteFrame x env; theTreesLotGoes x)) _ _ s
  refine wpAny_noted ?_
  rw [compTurn_list1]
  refine wpAny_bind (wpAny_standAt (wpAny_bind (wpAny_mono (turn n s hI) (fun r s₁ h₁ => ?_) fun uu uu h' => h')))
  cases r with
  | none => exact wpAny_pure h₁
  | some v =>
    refine wpAny_bind (wpAny_mono h₁ (fun uu s₁' h₁' => ?_) fun uu uu h' => h')
    exact wpAny_bind (wpAny_mono h₁' (fun uu s₂ h₂ => wpAny_bind (wpAny_bind (wpAny_mono h₂ (fun x s₃ h₃ => wpAny_bind (wpAny_mono h₃
      (fun uu s₄ h₄ => wpAny_pure (wpAny_pure ⟨rfl, h₄⟩)) fun uu uu h' => h')) fun uu uu h' => h'))) fun uu uu h' => h')

theorem ns_ofSlots {h h' : Heap} {a : Addr} {m : Str → Option Value} {o : Obj} {sl : Array (Option Value)} (hn : h.Ns a m) (ho : h.get? a = some o) (ho' : h'.get? a = some { o with slots := sl }) : h'.Ns a m := by
  refine hide fun uu kg => ?_
  obtain ⟨o₁, es, ep, h1, hd, r⟩ := hn
  refine kg ?_
  (first | exact (nne ho h1).elim | exact (dd ho h1 rfl).elim | obtain rfl := some_inj ho h1 | (rw [ho] at h1; cases h1))
  exact ⟨_, es, ep, ho', hd, r⟩

/-- captured names -/
noncomputable def Caught (C : Cx) (cenv : Env) (ρ ρ' : Locs) : Prop := ∀ y d, ρ'.lookup y = some d → ρ.lookup y = some d ∧ (C.env.kindOf y = some .cell ∨ C.env.kindOf y = some .free) ∧ (cenv.kindOf y = some .cell ∨ cenv.kindOf y = some .free) ∧ cenv.cells.lookup y = C.env.cells.lookup y

end
end Mine

end
section
open PySem PySem.W PyProof.Rows
set_option maxRecDepth 100000
set_option linter.unusedVariables false
namespace Mine

section
variable {prog : Program} {w : World} {C : Cx} {s s₀ s₁ s' : Shared} {ρ ρ₀ ρ₁ ρ' : Locs} {M M₀ M₁ M' : LMap} {G : Heap → Prop} {n : Nat}

theorem bindL_not {k : Str → Option NameKind} : ∀ {l : List (Str × Value)} {m : Str → Option Value} {y : Str}, y ∉ l.map (·.1) → bindL k l m y = m y
  | [], m, y, _ => rfl
  | (z, v) :: l, m, y, h => by
    have hz : y ≠ z := fun q => h (by simp [q])
    rw [bindL, bindL_not (fun q => h (List.mem_cons_of_mem _ q))]
    split
    · exact if_neg hz
    · rfl
theorem bindC_not {k : Str → Option NameKind} : ∀ {l : List (Str × Value)} {m : Str → Option Value} {y : Str}, y ∉ l.map (·.1) → bindC k l m y = m y
  | [], m, y, _ => rfl
  | (z, v) :: l, m, y, h => by
    have hz : y ≠ z := fun q => h (by simp [q])
    rw [bindC, bindC_not (fun q => h (List.mem_cons_of_mem _ q))]
    split
    · rfl
    · exact if_neg hz
theorem bindL_at {k : Str → Option NameKind} : ∀ {l : List (Str × Value)} {m : Str → Option Value} {y : Str} {v : Value}, (l.map (·.1)).Nodup → l.lookup y = some v → k y = some .local → bindL k l m y = some v
  | [], _, _, _, _, h, _ => by simp at h
  | (z, x) :: l, m, y, v, hn, h, hk => by
    rw [List.map_cons, List.nodup_cons] at hn
    rw [List.lookup_cons] at h
    by_cases q : y = z
    · subst q
      simp only [beq_self_eq_true] at h
      cases h
      rw [bindL, if_pos hk, bindL_not hn.1]
      exact if_pos rfl
    · have qb : (y == z) = false := by simpa using q
      rw [qb] at h
      rw [bindL]
      exact bindL_at hn.2 h hk
theorem bindC_at {k : Str → Option NameKind} : ∀ {l : List (Str × Value)} {m : Str → Option Value} {y : Str} {v : Value}, (l.map (·.1)).Nodup → l.lookup y = some v → k y = some .cell → bindC k l m y = some v
  | [], _, _, _, _, h, _ => by simp at h
  | (z, x) :: l, m, y, v, hn, h, hk => by
    rw [List.map_cons, List.nodup_cons] at hn
    rw [List.lookup_cons] at h
    by_cases q : y = z
    · subst q
      simp only [beq_self_eq_true] at h
      cases h
      rw [bindC, if_neg (by rw [hk]; decide), bindC_not hn.1]
      exact if_pos rfl
    · have qb : (y == z) = false := by simpa using q
      rw [qb] at h
      rw [bindC]
      exact bindC_at hn.2 h hk

/-- the frame of a def with cells -/
noncomputable abbrev cxCells (Md : Model) (A : Around) (env : Env) (base : Heap) (past : Was) (stk : List Env) (L : Addr) (X : Array UInt8 → Prop) : Cx := { A := A.deeper env, env, base, past, stk := env :: stk, own := L :: env.cells.map (·.2), E := Leaves Md (A.deeper env) env base past stk X }

theorem fn_cells {K : Frag} {f : Addr} {oc : Value} {od : Option Addr} {osl : Array (Option Value)} {name qual : Str} {params : Arguments} {body : List Stmt} {scope : Scope} {dV kV doc pm cdv ct : Value} {an : Option Addr} {xs : List Str} {ds : List D} {Q : D → LMap → Prop} {X : Array UInt8 → Prop}
    (hK : K.lookup f = some ⟨oc, od, .func (fnOf name qual params body scope dV kV doc pm an cdv ct), osl⟩) (hcd : codeIn K cdv qual = true)
    (hG : ∀ base, G base → K.In base ∧ base.NoLimit)
    (hbind : ∀ (s : Shared) (vs : List Value), vs.length = ds.length → BindsTo s (fnOf name qual params body scope dV kV doc pm an cdv ct) ⟨vs, []⟩ (xs.zip vs))
    (hx : ∀ n, (xs.all fun x => scope.names.lookup x == some .local || (scope.names.lookup x == some .cell && ((cellsFrom n scope.names []).lookup x).isSome)) = true) (hnd : (xs.map id).Nodup)
    (hcl : ((cellsFrom 0 scope.names []).map (·.1)).Nodup)
    (hbody : ∀ A base past stk L, let C : Cx := cxCells (model prog w) A (envOfC qual scope L f cdv) base past stk L X; let Q0 : Option D → Locs → LMap → Prop := KRet Q; CxOk G C n → Ss prog w C (xs.zip ds) M body Q0)
    (hco : scope.isCoroutine = false := by rfl) (hgen : scope.isGenerator = false := by rfl) (hk : scope.kind = .function := by rfl) : FnX prog w G (.ref f) (n + 1) ds M Q X := by
  intro A stk base past s vs E hfr hd hu hh hGb B F L ht R hp hlk hE
  obtain ⟨X', hlim⟩ := hG base hGb
  have X'' : K.In s.heap := X'.keeps B
  have hzl : ∀ y ∈ xs.zip vs, scope.names.lookup y.1 = some .local ∨ (scope.names.lookup y.1 = some .cell ∧ ((cellsFrom (s.heap.objs.size + 1) scope.names []).lookup y.1).isSome = true) := fun y hy => by
    have hm := (List.of_mem_zip (show (y.1, y.2) ∈ xs.zip vs from hy)).1
    have := List.all_eq_true.mp (hx (s.heap.objs.size + 1)) y.1 hm
    simpa using this
  refine wpAny_call (codeAny_call_function (fd := fnOf name qual params body scope dV kV doc pm an cdv ct) (body := body) (by omega) (X'' _ _ hK) rfl hco hgen rfl (codeRec_of X'' hcd) (hbind s vs R.length _ _ _ _ (wpAny_newFunctionEnv_cells hk hzl fun env' he s' x => ?_)))
  subst he
  refine ⟨(hlim.keeps B).keeps x.toInCall.keep, codeAny_func ?_⟩
  obtain ⟨h₁, tk, rfl, uu⟩ := x.done
  have hk₁ := x.toInCall.keep
  have hns := x.toInCall.ns
  have hL : s.heap.get? s.heap.objs.size = .none := get?_size_none _
  have fresh : ∀ c, s.heap.objs.size ≤ c → s.heap.get? c = .none := fun c hc => by
    exact none_of fun o e => by exact absurd (Heap.lt_size e) (Nat.not_lt.mpr hc)
  have ownFresh : ∀ a ∈ (s.heap.objs.size :: (cellsFrom (s.heap.objs.size + 1) scope.names []).map (·.2)), s.heap.get? a = .none := fun a ha => by
    rcases List.mem_cons.mp ha with rfl | ha
    · exact hL
    · obtain ⟨p, hp, rfl⟩ := List.mem_map.mp ha
      exact fresh _ (Nat.le_of_lt (x.above p.1 p.2 hp))
  have ownCell : ∀ p ∈ cellsFrom (s.heap.objs.size + 1) scope.names [], ∃ v, h₁.IsCell p.2 v := fun p hp => ⟨_, x.cell p.1 p.2 (lookup_of_mem_nodup (cellsFrom_names scope.names 0 (s.heap.objs.size + 1) [] [] rfl ▸ hcl) hp)⟩
  have bn : ∀ a, s.heap.get? a = .none → base.get? a = .none := fun a ha => by
    exact none_of fun o e => by (first | exact (nne (B a o e) ha).elim | exact (dd (B a o e) ha rfl).elim | obtain rfl := some_inj (B a o e) ha | (rw [B a o e] at ha; cases ha))
  have pn : ∀ a, s.heap.get? a = .none → past.of a = .none := fun a ha => by
    exact none_of fun o q => by
      obtain ⟨uu, sl, e⟩ := hp _ _ q
      (first | exact (nne ha e).elim | exact (dd ha e rfl).elim | obtain rfl := some_inj ha e | (rw [ha] at e; cases e))
  refine hide fun uu kg => ?_
  obtain ⟨oL, es, ep, hoL, hdL, hks, hfs⟩ := id hns
  refine kg ?_
  have K1 : CxOk G (cxCells (model prog w) A (envOfC qual scope s.heap.objs.size f cdv) base past stk s.heap.objs.size X) n := by
    refine ⟨deeper_frames hfr, ?_, ?_, hh, hGb, fun a ha => bn a (ownFresh a ha), fun a ha => pn a (ownFresh a ha), hk, rfl, rfl⟩
    · show A.depth + 1 + n < recursionLimit
      omega
    · show A.units + 3 + 10 * n < cLine
      omega
  have tups : TupsStay s.heap h₁ := fun a vs ⟨n, ho⟩ => ⟨n, hk₁ a _ ho⟩
  have S1 : Sit (cxCells (model prog w) A (envOfC qual scope s.heap.objs.size f cdv) base past stk s.heap.objs.size X) { s with heap := h₁, toks := tk } (xs.zip ds) M := by
    refine ⟨fun b o e => hk₁ b o (B b o e), fun env he => ?_, L.mono hk₁, fun a ha => ?_, ⟨_, hns⟩, (fun y c e => ⟨_, x.cell y c e⟩), (fun y z c e e' => ?_), fun y d e => ?_, fun b o e => ⟨(hp b o e).1, (hp b o e).2.imp fun sl z => hk₁ _ _ z⟩, hlk.up, ht.mono fun b o e => ⟨o, hk₁ b o e⟩⟩
    · rcases List.mem_cons.mp he with rfl | he
      · exact ⟨by show scope.kind ≠ .module; rw [hk]; decide, _, oL, es, ep, rfl, bn _ hL, hoL, hdL⟩
      · refine hide fun uu kg => ?_
        obtain ⟨q1, L', o, es', n', q2, q3, q4, q5⟩ := F env he
        refine kg ?_
        exact ⟨q1, L', o, es', n', q2, q3, hk₁ _ _ q4, q5⟩
    · rcases List.mem_cons.mp ha with rfl | ha
      · exact ⟨oL, hoL, (fun xs n z => by (first | exact (nne hdL z).elim | exact (dd hdL z rfl).elim | obtain rfl := some_inj hdL z | (rw [hdL] at z; cases z))), fun vs z => by (first | exact (nne hdL z).elim | exact (dd hdL z rfl).elim | obtain rfl := some_inj hdL z | (rw [hdL] at z; cases z))⟩
      · obtain ⟨p, hp, rfl⟩ := List.mem_map.mp ha
        refine hide fun uu kg => ?_
        obtain ⟨v, o, ho, hdc⟩ := ownCell p hp
        refine kg ?_
        exact ⟨o, ho, (fun xs n z => by (first | exact (nne hdc z).elim | exact (dd hdc z rfl).elim | obtain rfl := some_inj hdc z | (rw [hdc] at z; cases z))), fun vs z => by (first | exact (nne hdc z).elim | exact (dd hdc z rfl).elim | obtain rfl := some_inj hdc z | (rw [hdc] at z; cases z))⟩
    · by_cases q : y = z
      · exact q
      · have m1 := mem_of_lookup e
        have m2 := mem_of_lookup e'
        have hpw : (cellsFrom (s.heap.objs.size + 1) scope.names []).Pairwise fun a b => a.2 ≠ b.2 := x.apart
        have : ∀ (l : List (Str × Addr)), l.Pairwise (fun a b => a.2 ≠ b.2) → (y, c) ∈ l → (z, c) ∈ l → y = z := by
          intro l
          induction l with
          | nil => intro _ h; cases h
          | cons a l ih =>
            intro hp h1 h2
            rw [List.pairwise_cons] at hp
            cases h1 with
            | head =>
              cases h2 with
              | head => rfl
              | tail _ h2 => exact absurd rfl (hp.1 (z, c) h2)
            | tail _ h1 =>
              cases h2 with
              | head => exact absurd rfl (hp.1 (y, c) h1)
              | tail _ h2 => exact ih hp.2 h1 h2
        exact this _ hpw m1 m2
    · obtain ⟨v, hv, r⟩ := zip_lookup R e
      rcases hzl (y, v) (mem_of_lookup hv) with hl | ⟨hl, hc⟩
      · exact ⟨v, .inl ⟨hl, _, hns, bindL_at (zip_keys xs vs hnd) hv hl⟩, r.mono tups⟩
      · obtain ⟨c, hc⟩ := Option.isSome_iff_exists.mp hc
        refine ⟨v, .inr ⟨.inl hl, c, hc, ?_⟩, r.mono tups⟩
        have := x.cell y c hc
        rw [bindC_at (zip_keys xs vs hnd) hv hl] at this
        exact this
  refine wpAny_mono (hbody A base past stk _ K1 _ S1) (fun fl s' P => ?_) fun e s' h' => ?_
  · refine hide fun uu kg => ?_
    obtain ⟨ρ', M', T, S', q⟩ := P
    refine kg ?_
    have T' : Step [] stk s M s' M' := T.leave hk₁ (fun a ha => ownFresh a ha) rfl (.head _)
    cases fl with
    | next => obtain ⟨M'', k, q⟩ := q; exact ⟨.none, M'', T'.sub k, S'.lists.sub k, .none, q⟩
    | ret v => obtain ⟨d, r, M'', k, q⟩ := q; exact ⟨d, M'', T'.sub k, S'.lists.sub k, r, q⟩
    | brk => exact q.elim
    | cont => exact q.elim
  · exact wpAny_mono h' (fun uu s'' F => hE _ _ F) fun uu uu x => x.elim
theorem takes_cells {X : Array UInt8 → Prop} {A : Around} {env : Env} {base : Heap} {past : Was} {stk : List Env} {L : Addr} (O : CxOk G (cxCells (model prog w) A env base past stk L X) n) (hf : env.frame = some L) : Takes (cxCells (model prog w) A env base past stk L X) X :=
  fun k o v s' F => Fly.leaves O.frames hf F
end
end Mine

end
section
open PySem PySem.W PyProof.Rows
set_option maxRecDepth 100000
set_option linter.unusedVariables false
namespace Mine

section
variable {prog : Program} {w : World} {C : Cx} {s s₀ s₁ s' s'' : Shared} {ρ ρ₀ ρ₁ ρ' : Locs} {M M₀ M₁ M' M'' : LMap} {G : Heap → Prop} {n : Nat}

/-- in a comprehension that does not raise -/
noncomputable abbrev nrCx (C : Cx) (cenv : Env) : Cx := { A := C.A, env := cenv, base := C.base, past := ⟨fun uu => .none, C.past.sh⟩, stk := C.stk, own := [], E := fun uu uu => False }

structure CF (G : Heap → Prop) (n : Nat) (C : Cx) (cenv : Env) (s₀ : Shared) (ρ : Locs) (M₀ : LMap) (Da Lc : Addr) : Prop where
  sit : Sit C s₀ ρ M₀
  ok : CxOk G C n
  freshD : s₀.heap.get? Da = .none
  freshC : s₀.heap.get? Lc = .none
  ne : Da ≠ Lc
  locals : cenv.locals = Lc
  kind : cenv.scope.kind = .function
  globals : cenv.globals = C.env.globals
  builtins : cenv.builtins = C.env.builtins
structure CC (C : Cx) (cenv : Env) (ρ ρ' : Locs) : Prop where
  cells : ∀ y c, cenv.cells.lookup y = some c → C.env.cells.lookup y = some c
  caught : Caught C cenv ρ ρ'

structure CS (C : Cx) (cenv : Env) (s₀ : Shared) (ρ : Locs) (M₀ : LMap) (W : List Addr) (Da Lc : Addr) (ρm : Locs) (acc : List D) (s' : Shared) (M' : LMap) : Prop where
  freshW : ∀ b ∈ W, s₀.heap.get? b = .none
  step : Step (W ++ [Da, Lc]) C.stk s₀ M₀ s' M'
  sit : Sit C s' ρ M'
  noD : M' Da = .none
  list : ∃ vs : List Value, s'.heap.PlainList Da vs.toArray ∧ Reps s'.heap vs acc
  ns : ∃ m, s'.heap.Ns Lc m ∧ ∀ y d, ρm.lookup y = some d → cenv.kindOf y = some .local ∧ ∃ v, m y = some v ∧ Rep s'.heap v d

variable {cenv : Env} {W wr : List Addr} {Da Lc : Addr} {ρm : Locs} {acc : List D}

theorem CF.okc (F : CF G n C cenv s₀ ρ M₀ Da Lc) : CxOk G (nrCx C cenv) n := ⟨F.ok.frames, F.ok.depth, F.ok.units, F.ok.handled, F.ok.glob, fun uu z => (nomatch z), fun uu z => (nomatch z), F.kind, F.globals.trans F.ok.globals, F.builtins.trans F.ok.builtins⟩
theorem CF.side (F : CF G n C cenv s₀ ρ M₀ Da Lc) : ∀ b ∈ [Da, Lc], s₀.heap.get? b = .none := fun b hb => by
  rcases List.mem_cons.mp hb with rfl | hb
  · exact F.freshD
  · rw [List.mem_singleton.mp hb]; exact F.freshC
theorem CF.basen (F : CF G n C cenv s₀ ρ M₀ Da Lc) {b : Addr} (h : s₀.heap.get? b = .none) : C.base.get? b = .none := by
  exact none_of fun o e => by have := F.sit.stays b o e; (first | exact (nne h this).elim | exact (dd h this rfl).elim | obtain rfl := some_inj h this | (rw [h] at this; cases this))
theorem CF.frsn (F : CF G n C cenv s₀ ρ M₀ Da Lc) {b : Addr} (h : s₀.heap.get? b = .none) : b ∉ frs C.stk := fun q => by
  refine hide fun uu kg => ?_
  obtain ⟨uu, o, es, k, ho, uu⟩ := F.sit.frames.mem q
  refine kg ?_
  (first | exact (nne h ho).elim | exact (dd h ho rfl).elim | obtain rfl := some_inj h ho | (rw [h] at ho; cases ho))

theorem CS.ctx (F : CF G n C cenv s₀ ρ M₀ Da Lc) (Fc : CC C cenv ρ ρ') (S : CS C cenv s₀ ρ M₀ W Da Lc ρm acc s' M') : Sit (nrCx C cenv) s' (ρm ++ ρ') M' := by
  obtain ⟨m, hn, hm⟩ := S.ns
  refine ⟨S.sit.stays, S.sit.frames, S.sit.lists, ownOk_nil _, ⟨m, by show s'.heap.Ns cenv.locals m; rw [F.locals]; exact hn⟩, fun y c e => S.sit.cells y c (Fc.cells y c e), fun y z c e e' => S.sit.inj y z c (Fc.cells y c e) (Fc.cells z c e'), fun y d hy => ?_, (fun uu uu e => nomatch e), S.sit.like, S.sit.tab⟩
  rw [List.lookup_append] at hy
  cases q : ρm.lookup y with
  | some d' =>
    rw [q] at hy
    cases hy
    refine hide fun uu kg => ?_
    obtain ⟨hk, v, hv, r⟩ := hm y d q
    refine kg ?_
    exact ⟨v, .inl ⟨hk, m, by show s'.heap.Ns cenv.locals m; rw [F.locals]; exact hn, hv⟩, r⟩
  | none =>
    rw [q] at hy
    refine hide fun uu kg => ?_
    obtain ⟨h1, h2, h3, h4⟩ := Fc.caught y d hy
    refine kg ?_
    obtain ⟨v', hb, r'⟩ := S.sit.names y d h1
    rcases hb with ⟨hk', _⟩ | ⟨_, c, hc, hv⟩
    · rcases h2 with h2 | h2 <;> rw [h2] at hk' <;> cases hk'
    · exact ⟨v', .inr ⟨h3, c, by show cenv.cells.lookup y = _; rw [h4]; exact hc, hv⟩, r'⟩

/-- a tree that knows neither the list nor the comprehension's names -/
theorem CS.past (F : CF G n C cenv s₀ ρ M₀ Da Lc) (S : CS C cenv s₀ ρ M₀ W Da Lc ρm acc s' M') {side : List Addr} (T : Step side C.stk s' M' s'' M'') (L : Lists C.base s''.heap M'') (tu : TupsStay s'.heap s''.heap) (hs : ∀ b ∈ side, s₀.heap.get? b = .none) (hd : Da ∉ side) (hc : Lc ∉ side) :
    CS C cenv s₀ ρ M₀ (side ++ W) Da Lc ρm acc s'' M'' := by
  refine hide fun uu kg => ?_
  obtain ⟨vs, ⟨j, hp⟩, rs⟩ := S.list
  refine kg ?_
  obtain ⟨m, hn, hm⟩ := S.ns
  refine hide fun uu kg => ?_
  obtain ⟨oN, es, ep, hoN, hdN, hkN, hfN⟩ := id hn
  refine kg ?_
  obtain ⟨slD, eD, qD⟩ := T.keep Da _ hp S.noD hd
  obtain ⟨slC, eC, uu⟩ := T.keep Lc oN hoN (S.sit.lists.notDict hoN (fun xs n q => by (first | exact (nne hdN q).elim | exact (dd hdN q rfl).elim | obtain rfl := some_inj hdN q | (rw [hdN] at q; cases q))) fun vs q => by (first | exact (nne hdN q).elim | exact (dd hdN q rfl).elim | obtain rfl := some_inj hdN q | (rw [hdN] at q; cases q))) hc
  refine ⟨fun b hb => ?_, ?_, Sit.side F.sit hs S.sit T tu L, ?_, ⟨vs, ⟨j, by rw [qD (F.frsn F.freshD)] at eD; exact eD⟩, rs.mono tu⟩, ⟨m, ns_ofSlots hn hoN eC, fun y d hy => ?_⟩⟩
  · rcases List.mem_append.mp hb with q | q
    · exact hs b q
    · exact S.freshW b q
  · exact (S.step.wider fun a h => by rcases List.mem_append.mp h with q | q <;> simp [q]).trans (T.wider fun a h => by simp [h])
  · exact none_of fun es z => by
      rcases T.fresh Da (by rw [z]; exact fun q => nomatch q) with h | h
      · exact absurd S.noD h
      · (first | exact (nne hp h).elim | exact (dd hp h rfl).elim | obtain rfl := some_inj hp h | (rw [hp] at h; cases h))
  · refine hide fun uu kg => ?_
    obtain ⟨hk, v, hv, r⟩ := hm y d hy
    refine kg ?_
    exact ⟨hk, v, hv, r.mono tu⟩
theorem CS.lessW (S : CS C cenv s₀ ρ M₀ W Da Lc ρm acc s' M') {W' : List Addr} (h : ∀ b ∈ W, b ∈ W') (hf : ∀ b ∈ W', s₀.heap.get? b = .none) : CS C cenv s₀ ρ M₀ W' Da Lc ρm acc s' M' :=
  ⟨hf, S.step.wider fun a h' => by rcases List.mem_append.mp h' with q | q; exact List.mem_append_left _ (h a q); exact List.mem_append_right _ q, S.sit, S.noD, S.list, S.ns⟩
theorem CS.ev (F : CF G n C cenv s₀ ρ M₀ Da Lc) (S : CS C cenv s₀ ρ M₀ W Da Lc ρm acc s' M') (T : Step [] C.stk s' M' s'' M'') (L : Lists C.base s''.heap M'') : CS C cenv s₀ ρ M₀ W Da Lc ρm acc s'' M'' :=
  CS.past F S T L (T.tups (ownOk_nil _) S.sit.lists S.sit.frames) (fun uu z => nomatch z) (fun z => nomatch z) (fun z => nomatch z)
theorem CS.notFld (S : CS C cenv s₀ ρ M₀ W Da Lc ρm acc s' M') (K : Wr wr s'.heap) : Da ∉ wr ∧ Lc ∉ wr := by
  refine hide fun uu kg => ?_
  obtain ⟨vs, ⟨j, hp⟩, rs⟩ := S.list
  refine kg ?_
  refine hide fun uu kg => ?_
  obtain ⟨m, ⟨oN, es, ep, hoN, hdN, uu⟩, uu⟩ := S.ns
  refine kg ?_
  refine ⟨fun q => ?_, fun q => ?_⟩
  · refine hide fun uu kg => ?_
    obtain ⟨uu, o, ws, ho, hd, uu⟩ := K Da q
    refine kg ?_
    (first | exact (nne hp ho).elim | exact (dd hp ho rfl).elim | obtain rfl := some_inj hp ho | (rw [hp] at ho; cases ho)); cases hd
  · refine hide fun uu kg => ?_
    obtain ⟨uu, o, ws, ho, hd, uu⟩ := K Lc q
    refine kg ?_
    (first | exact (nne hoN ho).elim | exact (dd hoN ho rfl).elim | obtain rfl := some_inj hoN ho | (rw [hoN] at ho; cases ho)); (first | exact (nne hd hdN).elim | exact (dd hd hdN rfl).elim | obtain rfl := some_inj hd hdN | (rw [hd] at hdN; cases hdN))
/-- a step of an iterator -/
theorem CS.turn (F : CF G n C cenv s₀ ρ M₀ Da Lc) (S : CS C cenv s₀ ρ M₀ W Da Lc ρm acc s' M') {h' : Heap} {tk : Nat} (K : Wr wr s'.heap) (hw : ∀ b ∈ wr, b ∈ W) (k : ∀ b o, b ∉ wr → s'.heap.get? b = some o → h'.get? b = some o) (K' : Wr wr h') :
    CS C cenv s₀ ρ M₀ W Da Lc ρm acc { s' with heap := h', toks := tk } M' := by
  obtain ⟨h1, h2⟩ := S.notFld K
  have T : Step wr C.stk s' M' { s' with heap := h', toks := tk } M' := by have := Step.wr (own := []) (stk := C.stk) (M := M') (tk := tk) k K'; rwa [List.append_nil] at this
  have S' : Sit C { s' with heap := h', toks := tk } ρ M' := S.sit.wr K (fun b hb => F.basen (S.freshW b (hw b hb))) k
  exact (CS.past F S T S'.lists (tups_wr K k) (fun b hb => S.freshW b (hw b hb)) h1 h2).lessW (fun b hb => by rcases List.mem_append.mp hb with q | q; exact hw b q; exact q) S.freshW
/-- .. its last -/
theorem CS.turn_last (F : CF G n C cenv s₀ ρ M₀ Da Lc) (S : CS C cenv s₀ ρ M₀ W Da Lc ρm acc s' M') {h' : Heap} {tk : Nat} (K : Wr wr s'.heap) (hw : ∀ b ∈ wr, b ∈ W) (k : ∀ b o, b ∉ wr → s'.heap.get? b = some o → h'.get? b = some o) :
    CS C cenv s₀ ρ M₀ W Da Lc ρm acc { s' with heap := h', toks := tk } M' := by
  obtain ⟨h1, h2⟩ := S.notFld K
  have S' : Sit C { s' with heap := h', toks := tk } ρ M' := S.sit.wr K (fun b hb => F.basen (S.freshW b (hw b hb))) k
  have tu := tups_wr K k
  refine hide fun uu kg => ?_
  obtain ⟨vs, ⟨j, hp⟩, rs⟩ := S.list
  refine kg ?_
  refine hide fun uu kg => ?_
  obtain ⟨m, ⟨oN, es, ep, hoN, hdN, rr⟩, hm⟩ := S.ns
  refine kg ?_
  refine ⟨S.freshW, ?_, S', S.noD, ⟨vs, ⟨j, k _ _ h1 hp⟩, rs.mono tu⟩, ⟨m, ⟨oN, es, ep, k _ _ h2 hoN, hdN, rr⟩, fun y d hy => ?_⟩⟩
  · have T' : Step (W ++ [Da, Lc]) C.stk s₀ M₀ s' M' := S.step
    have nw : ∀ b o, s₀.heap.get? b = some o → b ∉ wr := fun b o e q => by (first | exact (nne (S.freshW b (hw b q)) e).elim | exact (dd (S.freshW b (hw b q)) e rfl).elim | obtain rfl := some_inj (S.freshW b (hw b q)) e | (rw [S.freshW b (hw b q)] at e; cases e))
    refine ⟨fun b o e hM ho => ?_, fun b o e => ?_, T'.fresh, ?_⟩
    · obtain ⟨sl, e', q⟩ := T'.keep b o e hM ho
      exact ⟨sl, k b _ (nw b o e) e', q⟩
    · obtain ⟨o', e'⟩ := T'.there b o e
      exact ⟨o', k b _ (nw b o e) e'⟩
    · have r := T'.rest
      rw [r]
  · refine hide fun uu kg => ?_
    obtain ⟨hk, v, hv, r⟩ := hm y d hy
    refine kg ?_
    exact ⟨hk, v, hv, r.mono tu⟩

/-- a name of the comprehension's own -/
theorem CS.store (F : CF G n C cenv s₀ ρ M₀ Da Lc) (S : CS C cenv s₀ ρ M₀ W Da Lc ρm acc s' M') {x : Str} {px : Pos} {v : Value} {d : D} {E : Value → Shared → Prop} {R : Unit → Shared → Prop} (hx : cenv.kindOf x = some .local) (r : Rep s'.heap v d)
    (h : ∀ s₃, CS C cenv s₀ ρ M₀ W Da Lc ((x, d) :: ρm) acc s₃ M' → (∀ b o, s'.heap.get? b = some o → (∀ es n, o.data ≠ .dict es n) → s₃.heap.get? b = some o) → R () s₃) : wpAny (model prog w) C.A (assign (.Name x px) cenv v) R E s' := by
  refine hide fun uu kg => ?_
  obtain ⟨vs, ⟨j, hp⟩, rs⟩ := S.list
  refine kg ?_
  obtain ⟨m, hns, hm⟩ := S.ns
  have hns' : s'.heap.Ns cenv.locals m := by rw [F.locals]; exact hns
  refine wpAny_assign_Name (wpAny_storeName_local hx hns' (fun h3 hn3 hs3 => ?_) (by rw [F.kind]; rfl))
  rw [F.locals] at hn3 hs3
  have nDict : ∀ b o, s'.heap.get? b = some o → (∀ es n, o.data ≠ .dict es n) → h3.get? b = some o := fun b o e hdd => (hs3.2 b fun q => by
    refine hide fun uu kg => ?_
    obtain ⟨o', es, ep, ho', hd', uu⟩ := hns
    refine kg ?_
    (first | exact (nb q ho' e).elim | obtain rfl := sb q ho' e | (rw [q, ho'] at e; cases e)); exact hdd _ _ hd').trans e
  have tu3 : TupsStay s'.heap h3 := fun b us ⟨j, e⟩ => ⟨j, nDict b _ e fun es n q => by cases q⟩
  have L3 : Lists C.base h3 M' := fun b es e => by
    exact ⟨(S.sit.lists b es e).1, (S.sit.lists b es e).2.turn (fun vs n e => nDict b _ e fun es n q => by cases q) tu3 fun c o vs e hdd uu => nDict c o e fun es n q => by (first | exact (nne hdd q).elim | exact (dd hdd q rfl).elim | obtain rfl := some_inj hdd q | (rw [hdd] at q; cases q))⟩
  have T3 : Step [Da, Lc] C.stk s' M' { s' with heap := h3, toks := s'.toks + 1 } M' := by
    refine hide fun uu kg => ?_
    obtain ⟨oN, uu, uu, hoN, uu⟩ := hn3
    refine kg ?_
    refine ⟨fun b o e uu hb => ⟨o.slots, (hs3.2 b fun q => hb (by rw [q]; simp)).trans e, fun uu => rfl⟩, fun b o e => ?_, fun uu h => .inl h, rfl⟩
    by_cases q : b = Lc
    · exact ⟨oN, by rw [q]; exact hoN⟩
    · exact ⟨o, (hs3.2 b q).trans e⟩
  refine h _ ⟨S.freshW, S.step.trans (T3.wider fun a h => List.mem_append_right _ h), Sit.side F.sit F.side S.sit T3 tu3 L3, S.noD, ⟨vs, ⟨j, nDict _ _ hp fun es n q => by cases q⟩, rs.mono tu3⟩, ⟨_, hn3, fun y e hy => ?_⟩⟩ nDict
  rw [List.lookup_cons] at hy
  by_cases q : y = x
  · subst q
    simp only [beq_self_eq_true] at hy
    cases hy
    exact ⟨hx, v, if_pos rfl, r.mono tu3⟩
  · have qb : (y == x) = false := by simpa using q
    rw [qb] at hy
    refine hide fun uu kg => ?_
    obtain ⟨hk, v', hv, r'⟩ := hm y e hy
    refine kg ?_
    exact ⟨hk, v', (if_neg q).trans hv, r'.mono tu3⟩
/-- the element goes to the list -/
theorem CS.append (F : CF G n C cenv s₀ ρ M₀ Da Lc) (S : CS C cenv s₀ ρ M₀ W Da Lc ρm acc s' M') {y : Value} {e : D} {E : Value → Shared → Prop} {R : Value → Shared → Prop} (r : Rep s'.heap y e) (hsz : acc.length ≤ sizeLine)
    (h : ∀ s₃, CS C cenv s₀ ρ M₀ W Da Lc ρm (acc ++ [e]) s₃ M' → (∀ b o, s'.heap.get? b = some o → (∀ vs n, o ≠ lstO vs n) → s₃.heap.get? b = some o) → R .none s₃) : wpAny (model prog w) C.A (call (.builtin "list.append") [.ref Da, y]) R E s' := by
  obtain ⟨vs, hp, rs⟩ := S.list
  obtain ⟨m, hns, hm⟩ := S.ns
  refine wpAny_list_append_plain hp (fun h6 hp6 hs6 => ?_) (by rw [List.size_toArray, rs.length]; exact hsz)
  have nL : ∀ b o, s'.heap.get? b = some o → (∀ vs n, o ≠ lstO vs n) → h6.get? b = some o := fun b o e hdd => (hs6.2 b fun q => by
    obtain ⟨j, hp⟩ := hp
    (first | exact (nb q hp e).elim | obtain rfl := sb q hp e | (rw [q, hp] at e; cases e)); exact hdd _ _ rfl).trans e
  have tu6 : TupsStay s'.heap h6 := fun b us ⟨j, e⟩ => ⟨j, nL b _ e fun vs n q => by
    have := congrArg Obj.cls q
    exact absurd this (show ¬ (Value.type "tuple" = Value.type "list") by decide)⟩
  have T6 : Step [Da, Lc] C.stk s' M' { s' with heap := h6, toks := s'.toks } M' := by
    obtain ⟨j6, hp6'⟩ := hp6
    refine ⟨fun b o e uu hb => ⟨o.slots, (hs6.2 b fun q => hb (by rw [q]; simp)).trans e, fun uu => rfl⟩, fun b o e => ?_, fun uu h => .inl h, rfl⟩
    by_cases q : b = Da
    · exact ⟨_, by rw [q]; exact hp6'⟩
    · exact ⟨o, (hs6.2 b q).trans e⟩
  have L6 : Lists C.base h6 M' := fun b es e => by
    exact ⟨(S.sit.lists b es e).1, (S.sit.lists b es e).2.turn (fun vs n z => (hs6.2 b fun q => by (first | exact (nb q S.noD e).elim | obtain rfl := sb q S.noD e | (rw [q, S.noD] at e; cases e))).trans z) tu6 fun c o vs z hdd uu => nL c o z fun us n q => by (first | exact (nne q hdd).elim | exact (dd q hdd rfl).elim | obtain rfl := some_inj q hdd | (rw [q] at hdd; cases hdd))⟩
  have hp6n : h6.PlainList Da (vs ++ [y]).toArray := by rw [show vs.toArray.push y = (vs ++ [y]).toArray by simp] at hp6; exact hp6
  refine hide fun uu kg => ?_
  obtain ⟨oN, es, ep, hoN, hdN, rr⟩ := hns
  refine kg ?_
  have hn6 : h6.get? Lc = some oN := nL _ _ hoN (fun us n q => by (first | exact (nne q hdN).elim | exact (dd q hdN rfl).elim | obtain rfl := some_inj q hdN | (rw [q] at hdN; cases hdN)))
  refine h _ ⟨S.freshW, S.step.trans (T6.wider fun a h => List.mem_append_right _ h), Sit.side F.sit F.side S.sit T6 tu6 L6, S.noD, ⟨_, hp6n, (rs.mono tu6).append (.cons (r.mono tu6) .nil)⟩, ⟨m, ⟨oN, es, ep, hn6, hdN, rr⟩, fun z d hz => ?_⟩⟩ nL
  refine hide fun uu kg => ?_
  obtain ⟨hk, v', hv, r'⟩ := hm z d hz
  refine kg ?_
  exact ⟨hk, v', hv, r'.mono tu6⟩
theorem CS.forget (S : CS C cenv s₀ ρ M₀ W Da Lc ρm acc s' M') {ρn : Locs} (h : ∀ y d, ρn.lookup y = some d → ρm.lookup y = some d) : CS C cenv s₀ ρ M₀ W Da Lc ρn acc s' M' :=
  ⟨S.freshW, S.step, S.sit, S.noD, S.list, let ⟨m, hn, hm⟩ := S.ns; ⟨m, hn, fun y d hy => hm y d (h y d hy)⟩⟩
end
end Mine

end
section
open PySem PySem.W PyProof.Rows
set_option maxRecDepth 100000
set_option linter.unusedVariables false
namespace Mine

section
variable {prog : Program} {w : World} {A : Around} {E : Value → Shared → Prop} {R : Result → Shared → Prop} {s : Shared}

theorem codeAny_compStart_two {elt : Expr} {g1 : Comprehension} {target iter : Expr} {scope pos it acc env}
    (h0 : codeAny (model prog w) A (.compLoop (.ListComp elt [g1, ⟨target, iter, [], 0⟩] scope pos) 1 it acc env) R s)
    (h : wpAny (model prog w) A (pyIter it) (fun it' s' => codeAny (model prog w) A (.compLoop (.ListComp elt [g1, ⟨target, iter, [], 0⟩] scope pos) 1 it' acc env) R s')
      (notedBy (model prog w) A env fun x s' => R (.error x) s') s) :
    codeAny (model prog w) A (.compStart (.ListComp elt [g1, ⟨target, iter, [], 0⟩] scope pos) 1 it acc env) R s := by
  refine codeAny_of_tree ?_
  show wpAny _ _ ((compStart (.ListComp elt [g1, ⟨target, iter, [], 0⟩] scope pos) 1 it acc env).onRaise (fun x => do noteFrame x env; standAt theWindowsPlace)) _ _ s
  refine wpAny_notedAt ?_
  unfold compStart
  show wpAny _ _ (ask >>= _) _ _ s
  refine wpAny_bind (wpAny_askSetting (wpAny_ite ?_))
  split
  · first
      | exact wpAny_bind (wpAny_pure (wpAny_pure (And.intro rfl h0)))
      | exact wpAny_pure (And.intro rfl h0)
  · first
      | exact wpAny_bind (wpAny_rule (wpAny_bind (wpAny_standAt (wpAny_bind (wpAny_mono h (fun it' s' h' => wpAny_pure (And.intro rfl h')) fun uu uu x => x)))))
      | (refine wpAny_bind (wpAny_rule ?_); show wpAny _ _ (standAt iter.pos >>= _) _ _ s; exact wpAny_bind (wpAny_standAt (wpAny_bind (wpAny_mono h (fun it' s' h' => wpAny_pure (And.intro rfl h')) fun uu uu x => x))))

theorem compTurn_inner (elt target iter : Expr) (g1 : Comprehension) (scope : Scope) (pos : Pos) (it acc : Value) (env : Env) :
    compTurn (.ListComp elt [g1, ⟨target, iter, [], 0⟩] scope pos) 1 it acc env = (standAt iter.pos >>= fun uu => pyNext it >>= fun r => match r with
      | none => pure (.done .next)
      | some v => letOwnedTupleGo target it v >>= fun uu => assign target env v >>= fun uu =>
        (eval elt env >>= fun x => call (.builtin "list.append") [acc, x] >>= fun uu => pure ()) >>= fun uu =>
          again (.compLoop (.ListComp elt [g1, ⟨target, iter, [], 0⟩] scope pos) 1 it acc env)) := by rfl
theorem codeAny_compLoop_inner {elt target iter : Expr} {g1 : Comprehension} {scope : Scope} {pos : Pos} {it acc : Value} {env : Env} (I : Nat → Shared → Prop)
    (turn : ∀ n s, I n s → wpAny (model prog w) A (pyNext it) (fun r s₁ => match r with
      | none => R (.ok .next) s₁
      | some v => wpAny (model prog w) A (letOwnedTupleGo target it v) (fun uu s₁' => wpAny (model prog w) A (assign target env v) (fun uu s₂ => wpAny (model prog w) A (eval elt env) (fun x s₃ =>
          wpAny (model prog w) A (call (.builtin "list.append") [acc, x]) (fun uu s₄ => ∃ m, m < n ∧ I m s₄) (notedBy (model prog w) A env fun e s' => R (.error e) s') s₃)
          (notedBy (model prog w) A env fun e s' => R (.error e) s') s₂) (notedBy (model prog w) A env fun e s' => R (.error e) s') s₁') (notedBy (model prog w) A env fun e s' => R (.error e) s') s₁) (notedBy (model prog w) A env fun e s' => R (.error e) s') s)
    (n : Nat) (h : I n s) : codeAny (model prog w) A (.compLoop (.ListComp elt [g1, ⟨target, iter, [], 0⟩] scope pos) 1 it acc env) R s := by
  refine codeAny_loop rfl I (fun n s hI => ?_) n h
  show wpAny _ _ ((compTurn (.ListComp elt [g1, ⟨target, iter, [], 0⟩] scope pos) 1 it acc env).onRaise (fun x => do noteFrame x env; theTreesLotGoes x)) _ _ s
  refine wpAny_noted ?_
  rw [compTurn_inner]
  refine wpAny_bind (wpAny_standAt (wpAny_bind (wpAny_mono (turn n s hI) (fun r s₁ h₁ => ?_) fun uu uu h' => h')))
  cases r with
  | none => exact wpAny_pure h₁
  | some v =>
    refine wpAny_bind (wpAny_mono h₁ (fun uu s₁' h₁' => ?_) fun uu uu h' => h')
    exact wpAny_bind (wpAny_mono h₁' (fun uu s₂ h₂ => wpAny_bind (wpAny_bind (wpAny_mono h₂ (fun x s₃ h₃ => wpAny_bind (wpAny_mono h₃
      (fun uu s₄ h₄ => wpAny_pure (wpAny_pure ⟨rfl, h₄⟩)) fun uu uu h' => h')) fun uu uu h' => h'))) fun uu uu h' => h')
theorem compTurn_outer (elt target iter : Expr) (t2 i2 : Expr) (scope : Scope) (pos : Pos) (it acc : Value) (env : Env) :
    compTurn (.ListComp elt [⟨target, iter, [], 0⟩, ⟨t2, i2, [], 0⟩] scope pos) 0 it acc env = (standAt iter.pos >>= fun uu => pyNext it >>= fun r => match r with
      | none => pure (.done .next)
      | some v => letOwnedTupleGo target it v >>= fun uu => assign target env v >>= fun uu =>
        eval i2 env >>= fun x => standAt i2.pos >>= fun uu => foldedSetIterable i2 env x >>= fun x => holding [x] (pyIter x) >>= fun it2 => runOwn (.compStart (.ListComp elt [⟨target, iter, [], 0⟩, ⟨t2, i2, [], 0⟩] scope pos) 1 it2 acc env) env >>= fun uu =>
          again (.compLoop (.ListComp elt [⟨target, iter, [], 0⟩, ⟨t2, i2, [], 0⟩] scope pos) 0 it acc env)) := by rfl
theorem codeAny_compLoop_outer {elt target iter t2 i2 : Expr} {scope : Scope} {pos : Pos} {it acc : Value} {env : Env} (hs : ∀ x, foldedSetIterable i2 env x = pure x) (I : Nat → Shared → Prop)
    (turn : ∀ n s, I n s → wpAny (model prog w) A (pyNext it) (fun r s₁ => match r with
      | none => R (.ok .next) s₁
      | some v => wpAny (model prog w) A (letOwnedTupleGo target it v) (fun uu s₁' => wpAny (model prog w) A (assign target env v) (fun uu s₂ => wpAny (model prog w) A (eval i2 env) (fun x s₃ =>
          wpAny (model prog w) A (pyIter x) (fun it2 s₄ => codeAny (model prog w) A (.compStart (.ListComp elt [⟨target, iter, [], 0⟩, ⟨t2, i2, [], 0⟩] scope pos) 1 it2 acc env)
            (fun r s₅ => match r with | .ok _ => ∃ m, m < n ∧ I m s₅ | .error e => cameBackBy (model prog w) A env (notedBy (model prog w) A env fun e s' => R (.error e) s') e s₅) s₄) (notedBy (model prog w) A env fun e s' => R (.error e) s') s₃)
          (notedBy (model prog w) A env fun e s' => R (.error e) s') s₂) (notedBy (model prog w) A env fun e s' => R (.error e) s') s₁') (notedBy (model prog w) A env fun e s' => R (.error e) s') s₁) (notedBy (model prog w) A env fun e s' => R (.error e) s') s)
    (n : Nat) (h : I n s) : codeAny (model prog w) A (.compLoop (.ListComp elt [⟨target, iter, [], 0⟩, ⟨t2, i2, [], 0⟩] scope pos) 0 it acc env) R s := by
  refine codeAny_loop rfl I (fun n s hI => ?_) n h
  show wpAny _ _ ((compTurn (.ListComp elt [⟨target, iter, [], 0⟩, ⟨t2, i2, [], 0⟩] scope pos) 0 it acc env).onRaise (fun x => do noteFrame x env; theTreesLotGoes x)) _ _ s
  refine wpAny_noted ?_
  rw [compTurn_outer]
  refine wpAny_bind (wpAny_standAt (wpAny_bind (wpAny_mono (turn n s hI) (fun r s₁ h₁ => ?_) fun uu uu h' => h')))
  cases r with
  | none => exact wpAny_pure h₁
  | some v =>
    refine wpAny_bind (wpAny_mono h₁ (fun uu s₁' h₁' => ?_) fun uu uu h' => h')
    refine wpAny_bind (wpAny_mono h₁' (fun uu s₂ h₂ => ?_) fun uu uu h' => h')
    refine wpAny_bind (wpAny_mono h₂ (fun x s₃ h₃ => ?_) fun uu uu h' => h')
    refine wpAny_bind (wpAny_standAt (wpAny_bind (wpAny_of_eq (hs x) (wpAny_bind (wpAny_holding (wpAny_mono h₃ (fun it2 s₄ h₄ => ?_) fun uu uu h' => h'))))))
    exact wpAny_bind (wpAny_runOwn (codeAny_mono h₄ fun r s₅ h₅ => by
      cases r with
      | ok f => exact wpAny_pure ⟨rfl, h₅⟩
      | error e => exact h₅))
end

section
variable {prog : Program} {w : World} {C : Cx} {s s₀ s₁ s' s'' : Shared} {ρ ρ₀ ρ₁ ρ' : Locs} {M M₀ M₁ M' M'' : LMap} {G : Heap → Prop} {n : Nat}

noncomputable def Comp1L (prog : Program) (w : World) (C' : Cx) (ρm : Locs) (x : Str) (elt : Expr) (Ok : LMap → Prop) : List D → List D → LMap → (List D → LMap → Prop) → Prop
  | [], acc, M, Q => Ok M ∧ Q acc M
  | d :: ds, acc, M, Q => Ok M ∧ acc.length ≤ sizeLine ∧ Ev prog w C' ((x, d) :: ρm) M elt fun e M' => Comp1L prog w C' ρm x elt Ok ds (acc ++ [e]) M' Q
noncomputable def Comp2L (prog : Program) (w : World) (C' : Cx) (ρ' : Locs) (xa xb x : Str) (px : Pos) (i2 elt : Expr) (Ok : LMap → Prop) : List D → List D → LMap → (List D → LMap → Prop) → Prop
  | [], acc, M, Q => Ok M ∧ Q acc M
  | d :: ds, acc, M, Q => Ok M ∧ ∃ da db, d = .tup [da, db] ∧ IE prog w C' ((xb, db) :: (xa, da) :: ρ') M i2 fun T₂ Ok₂ es M₂ => T₂ (.Name x px) ∧ Comp1L prog w C' ((xb, db) :: (xa, da) :: ρ') x elt Ok₂ es acc M₂ fun acc' M₃ => Comp2L prog w C' ρ' xa xb x px i2 elt Ok ds acc' M₃ Q

theorem Step.thereNone {own : List Addr} {stk : List Env} (T : Step own stk s M s' M') {b : Addr} (h : s'.heap.get? b = .none) : s.heap.get? b = .none := by
  exact none_of fun o q => by obtain ⟨o', e'⟩ := T.there b o q; (first | exact (nne h e').elim | exact (dd h e' rfl).elim | obtain rfl := some_inj h e' | (rw [h] at e'; cases e'))

variable {cenv : Env} {W wr : List Addr} {Da Lc : Addr} {ρm : Locs} {acc : List D}
/-- the inner loop -/
theorem CS.fld (S5 : CS C cenv s₀ ρ M₀ W Da Lc ρm acc s' M') {s₆ s₇ : Shared} {M₆ : LMap} {b : Addr} {o : Obj} {vs : Array Value} (e3 : s'.heap.get? b = some o) (T6' : Step [] C.stk s' M' s₆ M₆) (hdd : o.data = .fields vs) (ht : b ≠ tabA) (kl : ∀ b o, s₆.heap.get? b = some o → (∀ vs n, o ≠ lstO vs n) → s₇.heap.get? b = some o) : s₇.heap.get? b = some o := by
  obtain ⟨sl, e5, q5'⟩ := T6'.keep b o e3 (S5.sit.lists.notRec e3 (fun xs n q => dd hdd q rfl) ht) (fun z => nomatch z)
  rw [q5' (S5.sit.frames.notSeq e3 fun es n q => dd hdd q rfl)] at e5
  exact kl b o e5 fun vs' n q => by rw [q] at hdd; cases hdd
theorem inner_loop {elt iter : Expr} {g1 : Comprehension} {x : Str} {px : Pos} {scope : Scope} {pos : Pos} {a : Addr} {T : Expr → Prop} {Ok : LMap → Prop} {St : Nat → Heap → Prop} {Mid : Nat → Value → Heap → Prop} {es : List D} {Q : List D → LMap → Prop} {R : Result → Shared → Prop}
    (F : CF G n C cenv s₀ ρ M₀ Da Lc) (Fc : CC C cenv ρ ρ') (hx : cenv.kindOf x = some .local) (hρ : ρm.lookup x = .none) (I : Iter prog w C.A C.base a wr T Ok St Mid es) (hT : T (.Name x px)) (hw : ∀ b ∈ wr, b ∈ W) (S : CS C cenv s₀ ρ M₀ W Da Lc ρm acc s' M') (hSt : St 0 s'.heap)
    (hL : Comp1L prog w (nrCx C cenv) (ρm ++ ρ') x elt Ok es acc M' Q)
    (hR : ∀ s'' M'' acc', CS C cenv s₀ ρ M₀ W Da Lc ρm acc' s'' M'' → Q acc' M'' → (∀ (b : Addr) (o : Obj) (vs : Array Value), b ≠ tabA → b ∉ wr → s'.heap.get? b = some o → o.data = .fields vs → s''.heap.get? b = some o) → TupsStay s'.heap s''.heap → R (.ok .next) s'') :
    codeAny (model prog w) C.A (.compLoop (.ListComp elt [g1, ⟨.Name x px, iter, [], 0⟩] scope pos) 1 (.ref a) (.ref Da) cenv) R s' := by
  refine codeAny_compLoop_inner (fun k s₂ => ∃ i M₂ acc₂, i + k = es.length ∧ CS C cenv s₀ ρ M₀ W Da Lc ρm acc₂ s₂ M₂ ∧ St i s₂.heap ∧ Comp1L prog w (nrCx C cenv) (ρm ++ ρ') x elt Ok (es.drop i) acc₂ M₂ Q ∧ (∀ (b : Addr) (o : Obj) (vs : Array Value), b ≠ tabA → b ∉ wr → s'.heap.get? b = some o → o.data = .fields vs → s₂.heap.get? b = some o) ∧ TupsStay s'.heap s₂.heap) (fun k s₂ hI => ?_) es.length
    ⟨0, M', acc, by omega, S, hSt, hL, fun uu uu uu uu uu e uu => e, fun uu uu e => e⟩
  refine hide fun uu kg => ?_
  obtain ⟨i, M₂, acc₂, hk, S₂, hSt₂, hL₂, hKf, hTu⟩ := hI
  refine kg ?_
  have F0 := I.flds _ _ hSt₂
  cases hd : es.drop i with
  | nil =>
    rw [hd] at hL₂
    have hi : i = es.length := drop_end hk hd
    subst hi
    refine I.done s₂ M₂ _ _ hSt₂ S₂.sit.lists hL₂.1 fun h' tk kk => ?_
    exact hR _ M₂ acc₂ (S₂.turn_last F F0 hw kk) hL₂.2 (fun b o vs ht hb e hd => kk b o hb (hKf b o vs ht hb e hd)) (fun b vs e => tups_wr F0 kk _ _ (hTu b vs e))
  | cons d rest =>
    rw [hd] at hL₂
    obtain ⟨hok, hsz, hE⟩ := hL₂
    obtain ⟨hi, hrest, hlt⟩ := drop_at hd
    refine I.item i d s₂ M₂ _ _ hi hSt₂ S₂.sit.lists hok fun v h' tk r hm kk => ?_
    have F1 := I.fldm _ _ _ hm
    have S3 := S₂.turn F (tk := tk) F0 hw kk F1
    refine I.go _ i v _ _ _ hT hm fun h'' hs'' k'' => ?_
    have F2 := I.flds _ _ hs''
    have S4 := S3.turn F (tk := tk) F1 hw k'' F2
    have tu := tups_wr F1 k''
    refine S4.store F hx (r.mono tu) fun s₅ S5 kn => ?_
    have hE' : Ev prog w (nrCx C cenv) (((x, d) :: ρm) ++ ρ') M₂ elt _ := hE
    refine wpAny_mono (hE' s₅ (S5.ctx F Fc)) (fun y s₆ P => ?_) fun uu uu x => x.elim
    refine hide fun uu kg => ?_
    obtain ⟨e, M₆, T6, L6, r6, q6⟩ := P
    refine kg ?_
    have T6' : Step [] C.stk s₅ M₂ s₆ M₆ := T6
    have S6 := CS.ev F S5 T6' L6
    refine S6.append F r6 hsz fun s₇ S7 kl => ?_
    have S7' := S7.forget (ρn := ρm) fun y d hy => by
      rw [List.lookup_cons]
      have : (y == x) = false := by
        cases q : y == x with
        | false => rfl
        | true => rw [show y = x from eq_of_beq q, hρ] at hy; cases hy
      rw [this]; exact hy
    have keepFld : ∀ (b : Addr) (o : Obj) (vs : Array Value), b ≠ tabA → h''.get? b = some o → o.data = .fields vs → s₇.heap.get? b = some o := fun b o vs ht e hdd =>
      S5.fld (kn b o e fun es n q => dd hdd q rfl) T6' hdd ht kl
    have tuAll : TupsStay h'' s₇.heap := fun b us e => by
      obtain ⟨j, e⟩ := e
      have e3 := kn b _ e fun es n q => by cases q
      obtain ⟨j2, e6⟩ := T6'.tups (ownOk_nil _) S5.sit.lists S5.sit.frames b us ⟨j, e3⟩
      exact ⟨j2, kl b _ e6 fun vs n q => absurd (congrArg Obj.cls q) (show ¬ (Value.type "tuple" = Value.type "list") by decide)⟩
    refine ⟨es.length - (i + 1), turn_lt hk hlt, i + 1, M₆, acc₂ ++ [e], turn_eq hlt, S7', I.frame _ _ _ hs'' (fun b hb o e => ?_) tuAll, by rw [hrest]; exact q6, fun b o vs ht hb e hdd => keepFld b o vs ht (k'' b o hb (kk b o hb (hKf b o vs ht hb e hdd))) hdd, fun b vs e => tuAll b vs (tu b vs (tups_wr F0 kk _ _ (hTu b vs e)))⟩
    refine hide fun uu kg => ?_
    obtain ⟨hbt, o', ws, ho, hdd, uu⟩ := F2 b hb
    refine kg ?_
    (first | exact (nne e ho).elim | exact (dd e ho rfl).elim | obtain rfl := some_inj e ho | (rw [e] at ho; cases ho))
    exact keepFld b o ws hbt e hdd

theorem Step.tupsFresh {side : List Addr} {stk : List Env} {base : Heap} (T : Step side stk s M s' M') (L : Lists base s.heap M) (Fr : FrOk base stk s.heap) (h : ∀ b ∈ side, s.heap.get? b = .none) : TupsStay s.heap s'.heap := by
  intro a vs ht
  obtain ⟨n, ho⟩ := id ht
  obtain ⟨sl, e, q⟩ := T.keep a _ ho (L.notTup ht) (fun q => by (first | exact (nne (h a q) ho).elim | exact (dd (h a q) ho rfl).elim | obtain rfl := some_inj (h a q) ho | (rw [h a q] at ho; cases ho)))
  rw [q (Fr.notSeq ho fun es n z => by cases z)] at e
  exact ⟨n, e⟩
theorem Step.fldFresh {side : List Addr} {stk : List Env} {base : Heap} (T : Step side stk s M s' M') (L : Lists base s.heap M) (Fr : FrOk base stk s.heap) (h : ∀ b ∈ side, s.heap.get? b = .none) {b : Addr} {o : Obj} {vs : Array Value} (ht : b ≠ tabA) (e : s.heap.get? b = some o) (hd : o.data = .fields vs) : s'.heap.get? b = some o := by
  obtain ⟨sl, e', q⟩ := T.keep b o e (L.notRec e (fun xs n q => by (first | exact (nne hd q).elim | exact (dd hd q rfl).elim | obtain rfl := some_inj hd q | (rw [hd] at q; cases q))) ht) (fun q => by (first | exact (nne (h b q) e).elim | exact (dd (h b q) e rfl).elim | obtain rfl := some_inj (h b q) e | (rw [h b q] at e; cases e)))
  rw [q (Fr.notSeq e fun es n q => by rw [hd] at q; cases q)] at e'
  exact e'

/-- the outer loop -/
theorem outer_loop {elt iter i2 : Expr} {xa xb x : Str} {pa pb px pt : Pos} {kt : Nat} {scope : Scope} {pos : Pos} {a : Addr} {T : Expr → Prop} {Ok : LMap → Prop} {St : Nat → Heap → Prop} {Mid : Nat → Value → Heap → Prop} {ds : List D} {Q : List D → LMap → Prop} {R : Result → Shared → Prop}
    (F : CF G n C cenv s₀ ρ M₀ Da Lc) (Fc : CC C cenv ρ ρ') (hxa : cenv.kindOf xa = some .local) (hxb : cenv.kindOf xb = some .local) (hx : cenv.kindOf x = some .local) (nab : xa ≠ xb) (nxa : x ≠ xa) (nxb : x ≠ xb)
    (I : Iter prog w C.A C.base a wr T Ok St Mid ds) (hT : T (.Tuple [.Name xa pa, .Name xb pb] kt pt)) (hw : ∀ b ∈ wr, b ∈ W) (S : CS C cenv s₀ ρ M₀ W Da Lc [] acc s' M') (hSt : St 0 s'.heap)
    (hL : Comp2L prog w (nrCx C cenv) ρ' xa xb x px i2 elt Ok ds acc M' Q) (hs : ∀ x, foldedSetIterable i2 cenv x = pure x)
    (hR : ∀ s'' M'' acc' W', CS C cenv s₀ ρ M₀ W' Da Lc [] acc' s'' M'' → Q acc' M'' → R (.ok .next) s'') :
    codeAny (model prog w) C.A (.compLoop (.ListComp elt [⟨.Tuple [.Name xa pa, .Name xb pb] kt pt, iter, [], 0⟩, ⟨.Name x px, i2, [], 0⟩] scope pos) 0 (.ref a) (.ref Da) cenv) R s' := by
  refine codeAny_compLoop_outer hs (fun k s₂ => ∃ i M₂ acc₂ W₂, i + k = ds.length ∧ CS C cenv s₀ ρ M₀ W₂ Da Lc [] acc₂ s₂ M₂ ∧ (∀ b ∈ wr, b ∈ W₂) ∧ St i s₂.heap ∧ Comp2L prog w (nrCx C cenv) ρ' xa xb x px i2 elt Ok (ds.drop i) acc₂ M₂ Q) (fun k s₂ hI => ?_) ds.length
    ⟨0, M', acc, W, by omega, S, hw, hSt, hL⟩
  refine hide fun uu kg => ?_
  obtain ⟨i, M₂, acc₂, W₂, hk, S₂, hw₂, hSt₂, hL₂⟩ := hI
  refine kg ?_
  have F0 := I.flds _ _ hSt₂
  cases hd : ds.drop i with
  | nil =>
    rw [hd] at hL₂
    have hi : i = ds.length := drop_end hk hd
    subst hi
    refine I.done s₂ M₂ _ _ hSt₂ S₂.sit.lists hL₂.1 fun h' tk kk => ?_
    exact hR _ M₂ acc₂ W₂ (S₂.turn_last F F0 hw₂ kk) hL₂.2
  | cons d rest =>
    rw [hd] at hL₂
    obtain ⟨hok, da, db, rfl, hE⟩ := hL₂
    have hi : ds[i]? = some (.tup [da, db]) := by
      have := congrArg (·[0]?) hd
      simpa using this
    have hrest : ds.drop (i + 1) = rest := by rw [← List.drop_drop, hd]; rfl
    have hlt : i < ds.length := by
      rcases Nat.lt_or_ge i ds.length with h | h
      · exact h
      · (first | exact (nne (List.getElem?_eq_none h) hi).elim | exact (dd (List.getElem?_eq_none h) hi rfl).elim | obtain rfl := some_inj (List.getElem?_eq_none h) hi | (rw [List.getElem?_eq_none h] at hi; cases hi))
    refine I.item i _ s₂ M₂ _ _ hi hSt₂ S₂.sit.lists hok fun v h' tk r hm kk => ?_
    have F1 := I.fldm _ _ _ hm
    have S3 := S₂.turn F (tk := tk) F0 hw₂ kk F1
    refine I.go _ i v _ _ _ hT hm fun h'' hs'' k'' => ?_
    have F2 := I.flds _ _ hs''
    have S4 := S3.turn F (tk := tk) F1 hw₂ k'' F2
    have r2 : Rep h'' v (.tup [da, db]) := r.mono (tups_wr F1 k'')
    obtain ⟨t, vs, rfl, ht, rs⟩ := r2.tup_
    obtain ⟨va, vb, rfl, ra, rb⟩ := rs.two
    refine wpAny_assign_Tuple F.ok.handled (s := { s₂ with heap := h'', toks := tk }) ht.tuple rfl rfl fun h3 ex => ?_
    have k3 : ∀ b o, h''.get? b = some o → h3.get? b = some o := fun b o e => ex b o (Nat.ne_of_lt (Heap.lt_size e)) e
    have S5 : CS C cenv s₀ ρ M₀ W₂ Da Lc [] acc₂ { s₂ with heap := h3, toks := tk } M₂ := CS.ev F S4 (Step.ofKeeps (s := { s₂ with heap := h'', toks := tk }) (tk := tk) k3) (S4.sit.lists.mono k3)
    have tu3 : TupsStay h'' h3 := fun b us ⟨j, e⟩ => ⟨j, k3 b _ e⟩
    show wpAny _ _ (assignInOrder [assign (.Name xa pa) cenv, assign (.Name xb pb) cenv] [va, vb]) _ _ _
    unfold assignInOrder
    refine wpAny_bind (wpAny_holding (S5.store F hxa (ra.mono tu3) fun s₆ S6 kn6 => ?_))
    unfold assignInOrder
    have tu6 : TupsStay h3 s₆.heap := fun b us ⟨j, e⟩ => ⟨j, kn6 b _ e fun es n q => by cases q⟩
    refine wpAny_bind (wpAny_holding (S6.store F hxb ((rb.mono tu3).mono tu6) fun s₇ S7 kn7 => ?_))
    unfold assignInOrder
    refine wpAny_pure ?_
    have tu7 : TupsStay s₆.heap s₇.heap := fun b us ⟨j, e⟩ => ⟨j, kn7 b _ e fun es n q => by cases q⟩
    have kf7 : ∀ (b : Addr) (o : Obj) (vs : Array Value), h''.get? b = some o → o.data = .fields vs → s₇.heap.get? b = some o := fun b o vs e hdd => kn7 b o (kn6 b o (k3 b o e) fun es n q => by (first | exact (nne hdd q).elim | exact (dd hdd q rfl).elim | obtain rfl := some_inj hdd q | (rw [hdd] at q; cases q))) fun es n q => by (first | exact (nne hdd q).elim | exact (dd hdd q rfl).elim | obtain rfl := some_inj hdd q | (rw [hdd] at q; cases q))
    refine wpAny_mono (hE s₇ (S7.ctx F Fc)) (fun xv s₈ h₈ => wpAny_mono h₈ (fun it2 s₉ h₉ => ?_) fun uu uu x => x.elim) fun uu uu x => x.elim
    refine hide fun uu kg => ?_
    obtain ⟨a₂, wr₂, T₂, Ok₂, St₂, Mid₂, es, M₉, rfl, I₂, T9, hfr9, S9s, hSt9, hT9, hL9⟩ := h₉
    refine kg ?_
    have T9' : Step wr₂ C.stk s₇ M₂ s₉ M₉ := T9
    have tu9 := T9'.tupsFresh S7.sit.lists S7.sit.frames hfr9
    have ex7 : (∃ o, s₇.heap.get? Da = some o) ∧ ∃ o, s₇.heap.get? Lc = some o := by
      refine hide fun uu kg => ?_
      obtain ⟨uu, ⟨j, hp⟩, uu⟩ := S7.list
      refine kg ?_
      refine hide fun uu kg => ?_
      obtain ⟨uu, ⟨oN, uu, uu, hoN, uu⟩, uu⟩ := S7.ns
      refine kg ?_
      exact ⟨⟨_, hp⟩, ⟨_, hoN⟩⟩
    have S9 : CS C cenv s₀ ρ M₀ (wr₂ ++ W₂) Da Lc _ acc₂ s₉ M₉ := CS.past F S7 T9' S9s.lists tu9 (fun b hb => S7.step.thereNone (hfr9 b hb)) (fun q => by obtain ⟨o, e⟩ := ex7.1; (first | exact (nne (hfr9 _ q) e).elim | exact (dd (hfr9 _ q) e rfl).elim | obtain rfl := some_inj (hfr9 _ q) e | (rw [hfr9 _ q] at e; cases e))) (fun q => by obtain ⟨o, e⟩ := ex7.2; (first | exact (nne (hfr9 _ q) e).elim | exact (dd (hfr9 _ q) e rfl).elim | obtain rfl := some_inj (hfr9 _ q) e | (rw [hfr9 _ q] at e; cases e)))
    have core : codeAny (model prog w) C.A (.compLoop (.ListComp elt [⟨.Tuple [.Name xa pa, .Name xb pb] kt pt, iter, [], 0⟩, ⟨.Name x px, i2, [], 0⟩] scope pos) 1 (.ref a₂) (.ref Da) cenv) (fun r s₅ => match r with | .ok _ => ∃ m, m < k ∧ ∃ i M₂ acc₂ W₂, i + m = ds.length ∧ CS C cenv s₀ ρ M₀ W₂ Da Lc [] acc₂ s₅ M₂ ∧ (∀ b ∈ wr, b ∈ W₂) ∧ St i s₅.heap ∧ Comp2L prog w (nrCx C cenv) ρ' xa xb x px i2 elt Ok (ds.drop i) acc₂ M₂ Q | .error e => cameBackBy (model prog w) C.A cenv (notedBy (model prog w) C.A cenv fun e s' => R (.error e) s') e s₅) s₉ := by
      refine inner_loop F Fc hx (ρm := [(xb, db), (xa, da)]) ?_ I₂ hT9 (fun b hb => List.mem_append_left _ hb) S9 hSt9 hL9 fun s₁₀ M₁₀ acc' S10 q10 kf10 tu10 => ?_
      · rw [List.lookup_cons, show (x == xb) = false by simpa using nxb, List.lookup_cons, show (x == xa) = false by simpa using nxa]
        rfl
      · refine ⟨ds.length - (i + 1), turn_lt hk hlt, i + 1, M₁₀, acc', wr₂ ++ W₂, turn_eq hlt, S10.forget fun y d e => (nomatch e), fun b hb => List.mem_append_right _ (hw₂ b hb), I.frame _ _ _ hs'' (fun b hb o e => ?_) (fun b us e => tu10 _ _ (tu9 _ _ (tu7 _ _ (tu6 _ _ (tu3 _ _ e))))), by rw [hrest]; exact q10⟩
        refine hide fun uu kg => ?_
        obtain ⟨hbt, o', ws, ho, hdd, uu⟩ := F2 b hb
        refine kg ?_
        (first | exact (nne e ho).elim | exact (dd e ho rfl).elim | obtain rfl := some_inj e ho | (rw [e] at ho; cases ho))
        have e7 := kf7 b o ws e hdd
        have nb : b ∉ wr₂ := fun q => by (first | exact (nne (hfr9 b q) e7).elim | exact (dd (hfr9 b q) e7 rfl).elim | obtain rfl := some_inj (hfr9 b q) e7 | (rw [hfr9 b q] at e7; cases e7))
        exact kf10 b o ws hbt nb (T9'.fldFresh S7.sit.lists S7.sit.frames hfr9 hbt e7 hdd) hdd
    exact codeAny_compStart_two core (I₂.self 0 s₉ _ _ hSt9 core)

/-- the list as it stands at the end -/
theorem CS.close {Q : D → LMap → Prop} (F : CF G n C cenv s₀ ρ M₀ Da Lc) (S' : CS C cenv s₀ ρ M₀ W Da Lc [] acc s' M') (q : ∀ a, M' a = .none → Q (.lst a) (upd M' a acc)) : compPost (model prog w) C.A C.E none (Post C s₀ M₀ Q) (.ref Da) Lc (.ok .next) s' := by
  refine hide fun uu kg => ?_
  obtain ⟨vs, ⟨j, hp⟩, rs⟩ := S'.list
  refine kg ?_
  obtain ⟨m, hn, uu⟩ := S'.ns
  refine ⟨m, hn, fun h'' hsb => ?_⟩
  refine hide fun uu kg => ?_
  obtain ⟨o', es, ep, ho', hd', rr⟩ := id hn
  refine kg ?_
  have nL : ∀ b o, s'.heap.get? b = some o → (∀ es n, o.data ≠ .dict es n) → h''.get? b = some o := fun b o e hdd => (hsb.2 b fun q => by (first | exact (nb q ho' e).elim | obtain rfl := sb q ho' e | (rw [q, ho'] at e; cases e)); exact hdd _ _ hd').trans e
  have tups : TupsStay s'.heap h'' := fun b us ⟨j, e⟩ => ⟨j, nL b _ e fun es n q => by cases q⟩
  have hsd : ∀ b ∈ W ++ [Da, Lc], s₀.heap.get? b = .none := fun b hb => by
    rcases List.mem_append.mp hb with q | q
    · exact S'.freshW b q
    · exact F.side b q
  have TT : Step [] C.stk s₀ M₀ { s' with heap := h'', toks := s'.toks } M' := (S'.step.wider (own' := (W ++ [Da, Lc]) ++ []) fun a h => by simpa using h).last hsd (fun b o hb e => (hsb.2 b fun q => hb (by rw [q]; simp)).trans e)
  have hDt : Da ≠ tabA := F.sit.tab.ne F.freshD
  refine ⟨.lst Da, upd M' Da acc, ⟨TT.keep, TT.there, fun b hb => ?_, TT.rest⟩, fun b es e => ?_, .lst _ hDt, q Da S'.noD⟩
  · by_cases z : b = Da
    · subst z; exact .inr F.freshD
    · rw [upd_ne z] at hb; exact TT.fresh b hb
  · by_cases z : b = Da
    · subst z
      (first | exact (nne (upd_same _ _ _) e).elim | exact (dd (upd_same _ _ _) e rfl).elim | obtain rfl := some_inj (upd_same _ _ _) e | (rw [upd_same] at e; cases e))
      exact ⟨F.basen F.freshD, .inl ⟨hDt, vs, ⟨j, nL _ _ hp fun es n q => by cases q⟩, rs.mono tups⟩⟩
    · rw [upd_ne z] at e
      exact ⟨(S'.sit.lists b es e).1, (S'.sit.lists b es e).2.turn (fun vs n e => nL _ _ e fun es n q => by cases q) tups fun c o vs e hdd uu => nL c o e fun es n q => by (first | exact (nne hdd q).elim | exact (dd hdd q rfl).elim | obtain rfl := some_inj hdd q | (rw [hdd] at q; cases q))⟩
/-- a comprehension is entered -/
theorem comp_enter {elt iter target : Expr} {rest : List Comprehension} {scope : Scope} {pos : Pos} {cl : List (Str × Addr)} {H : (LMap → Prop) → List D → LMap → Prop} {use : Option (Value → Sem Unit)} {Q' : Value → Shared → Prop} (ρ' : Locs) (O : CxOk G C n)
    (hclos : closureFor scope C.env = pure cl) (hcell : ∀ y ∈ scope.names, y.2 ≠ .cell) (hkind : scope.kind = .function)
    (hnames : ∀ y ∈ scope.names, y.2 = .local → scope.names.lookup y.1 = some .local)
    (hcl : ∀ y c, cl.lookup y = some c → C.env.cells.lookup y = some c) (hρ : ∀ L, Caught C (compEnvC scope cl L C.env) ρ ρ')
    (h : IE prog w C ρ M iter fun T Ok ds M₁ => T target ∧ H Ok ds M₁)
    (hs : ∀ x, foldedSetIterable iter C.env x = pure x) (S : Sit C s ρ M)
    (run : ∀ (a Da Lc : Addr) (wr : List Addr) (T : Expr → Prop) (Ok : LMap → Prop) (St : Nat → Heap → Prop) (Mid : Nat → Value → Heap → Prop) (ds : List D) (M₂ : LMap) (s₄ : Shared), Iter prog w C.A C.base a wr T Ok St Mid ds → T target → H Ok ds M₂ → CF G n C (compEnvC scope cl Lc C.env) s ρ M Da Lc → CC C (compEnvC scope cl Lc C.env) ρ ρ' →
      CS C (compEnvC scope cl Lc C.env) s ρ M wr Da Lc [] [] s₄ M₂ → St 0 s₄.heap → codeAny (model prog w) C.A (.compLoop (.ListComp elt (⟨target, iter, [], 0⟩ :: rest) scope pos) 0 (.ref a) (.ref Da) (compEnvC scope cl Lc C.env)) (compPost (model prog w) C.A C.E use Q' (.ref Da) Lc) s₄) :
    wpAny (model prog w) C.A (comprehension (.ListComp elt (⟨target, iter, [], 0⟩ :: rest) scope pos) scope C.env (firstIterPos (⟨target, iter, [], 0⟩ :: rest) pos) (newList []) (firstAsync (⟨target, iter, [], 0⟩ :: rest)) (firstIter (⟨target, iter, [], 0⟩ :: rest) C.env) use) Q' C.E s := by
  refine wpAny_comprehension_free (use := use) rfl hs hclos hkind hnames (wpAny_mono (h s S) (fun xv s₁ h₁ => wpAny_mono h₁ (fun it s₂ h₂ => ?_) fun uu uu e => e) fun uu uu e => e)
  refine hide fun uu kg => ?_
  obtain ⟨a, wr, T, Ok, St, Mid, ds, M₂, rfl, I, T₂, hfr, S₂, hSt, hT, hL⟩ := h₂
  refine kg ?_
  refine wpAny_newObj_type (wpAny_newFunctionEnv hcell (by intro y hy; simp at hy) (fun h₁ hns₁ hsb₁ => ?_) hkind)
  dsimp only at hns₁ hsb₁ ⊢
  generalize hH2 : s₂.heap.push { cls := .type "list", dict := none, data := .seq ([] : List Value).toArray } = H2 at hns₁ hsb₁ ⊢
  have hC : H2.objs.size = s₂.heap.objs.size + 1 := by rw [← hH2, Heap.size_push]
  generalize hDd : s₂.heap.objs.size = Da at hC
  generalize hCc : H2.objs.size = Lc at hC hns₁ hsb₁ ⊢
  have hDC : Da ≠ Lc := by rw [hC]; exact Nat.ne_of_lt (Nat.lt_succ_self _)
  have lt2 : ∀ b o, s₂.heap.get? b = some o → b < Da := fun b o e => hDd ▸ Heap.lt_size e
  have nD : s₂.heap.get? Da = .none := by rw [← hDd]; exact get?_size_none _
  have nC : s₂.heap.get? Lc = .none := by
    exact none_of fun o e => by have := lt2 _ _ e; rw [hC] at this; exact absurd this (Nat.not_lt.mpr (Nat.le_succ _))
  have old : ∀ b o, s₂.heap.get? b = some o → h₁.get? b = some o := fun b o e => hsb₁.extBut b o (fun q => by (first | exact (nb q nC e).elim | obtain rfl := sb q nC e | (rw [q, nC] at e; cases e))) (Heap.get?_push_of_some _ (hH2 ▸ Heap.get?_push_of_some _ e))
  have hacc : h₁.PlainList Da #[] := ⟨_, hsb₁.extBut _ _ hDC (Heap.get?_push_of_some _ (hH2 ▸ (hDd ▸ Heap.get?_push_size _ rfl)))⟩
  have T4 : Step (wr ++ [Da, Lc]) C.stk s M { s₂ with heap := h₁, toks := s₂.toks + ([] : List (Str × Value)).length } M₂ := (T₂.wider fun a h => List.mem_append_left _ h).trans (Step.ofKeeps old)
  have S4 : Sit C { s₂ with heap := h₁, toks := s₂.toks + ([] : List (Str × Value)).length } ρ M₂ := S₂.ev (Step.ofKeeps old) (S₂.lists.mono old)
  have hSt4 : St 0 h₁ := I.frame _ _ _ hSt (fun b uu o e => old b o e) (fun b vs ⟨k, e⟩ => ⟨k, old b _ e⟩)
  generalize hs4 : ({ s₂ with heap := h₁, toks := s₂.toks + ([] : List (Str × Value)).length } : Shared) = s₄ at T4 S4 ⊢
  have hh4 : s₄.heap = h₁ := by rw [← hs4]
  rw [← hh4] at hacc hns₁ hSt4
  have F : CF G n C (compEnvC scope cl Lc C.env) s ρ M Da Lc := ⟨S, O, T₂.thereNone nD, T₂.thereNone nC, hDC, rfl, (by show (relabel scope C.env).kind = _; exact hkind), rfl, rfl⟩
  have CS4 : CS C (compEnvC scope cl Lc C.env) s ρ M wr Da Lc [] [] s₄ M₂ := ⟨hfr, T4, S4, S₂.lists.fresh nD, ⟨[], hacc, .nil⟩, ⟨_, hns₁, fun y d e => (nomatch e)⟩⟩
  have core := run a Da Lc wr T Ok St Mid ds M₂ s₄ I hT hL F ⟨hcl, hρ Lc⟩ CS4 hSt4
  exact codeAny_compStart_list (target := target) (ifs := []) (rest := rest) core (I.self 0 s₄ (fun it' s' => codeAny (model prog w) C.A (.compLoop (.ListComp elt (⟨target, iter, [], 0⟩ :: rest) scope pos) 0 it' (.ref Da) (compEnvC scope cl Lc C.env)) (compPost (model prog w) C.A C.E use Q' (.ref Da) Lc) s') _ hSt4 core)
theorem ev_comp2 {elt iter i2 : Expr} {xa xb x : Str} {pa pb px pt : Pos} {kt : Nat} {scope : Scope} {pos : Pos} {cl : List (Str × Addr)} {Q : D → LMap → Prop} (ρ' : Locs) (O : CxOk G C n)
    (hclos : closureFor scope C.env = pure cl) (hcell : ∀ y ∈ scope.names, y.2 ≠ .cell) (hkind : scope.kind = .function)
    (hnames : ∀ y ∈ scope.names, y.2 = .local → scope.names.lookup y.1 = some .local) (hxa : scope.names.lookup xa = some .local) (hxb : scope.names.lookup xb = some .local) (hx : scope.names.lookup x = some .local) (nab : xa ≠ xb) (nxa : x ≠ xa) (nxb : x ≠ xb)
    (hcl : ∀ y c, cl.lookup y = some c → C.env.cells.lookup y = some c) (hρ : ∀ L, Caught C (compEnvC scope cl L C.env) ρ ρ')
    (h : IE prog w C ρ M iter fun T Ok ds M₁ => T (.Tuple [.Name xa pa, .Name xb pb] kt pt) ∧ ∀ L, CxOk G (nrCx C (compEnvC scope cl L C.env)) n → Comp2L prog w (nrCx C (compEnvC scope cl L C.env)) ρ' xa xb x px i2 elt Ok ds [] M₁ fun acc M₂ => ∀ a, M₂ a = .none → Q (.lst a) (upd M₂ a acc))
    (hs : ∀ x, foldedSetIterable iter C.env x = pure x) (hs2 : ∀ L x, foldedSetIterable i2 (compEnvC scope cl L C.env) x = pure x) : Ev prog w C ρ M (.ListComp elt [⟨.Tuple [.Name xa pa, .Name xb pb] kt pt, iter, [], 0⟩, ⟨.Name x px, i2, [], 0⟩] scope pos) Q := fun s S => by
  rw [eval_ListComp]
  refine comp_enter ρ' O hclos hcell hkind hnames hcl hρ h hs S fun a Da Lc wr T Ok St Mid ds M₂ s₄ I hT hL F Fc CS4 hSt4 => ?_
  exact outer_loop F Fc (lookup_relabel_local hxa) (lookup_relabel_local hxb) (lookup_relabel_local hx) nab nxa nxb I hT (fun b hb => hb) CS4 hSt4 (hL Lc F.okc) (hs2 Lc) fun s' M' acc W' S' q => S'.close F q

/-- the one loop of a comprehension whose elements may raise -/
theorem comp_loop {elt iter : Expr} {x : Str} {px : Pos} {scope : Scope} {pos : Pos} {a : Addr} {T : Expr → Prop} {Ok : LMap → Prop} {St : Nat → Heap → Prop} {Mid : Nat → Value → Heap → Prop} {ds : List D} {X : Array UInt8 → Prop} {Q : List D → LMap → Prop} {R : Result → Shared → Prop}
    (F : CF G n C cenv s₀ ρ M₀ Da Lc) (Fc : CC C cenv ρ ρ') (hx : cenv.kindOf x = some .local) (I : Iter prog w C.A C.base a wr T Ok St Mid ds) (hT : T (.Name x px)) (S : CS C cenv s₀ ρ M₀ wr Da Lc [] [] s' M') (hSt : St 0 s'.heap) (hlen : ds.length ≤ sizeLine)
    (thrown : ∀ past, (∃ o, past.of Lc = some o ∧ ∃ (h : Heap) (m : Str → Option Value), h.Ns Lc m ∧ h.get? Lc = some o) → past.sh = C.past.sh → (∀ b ob, C.past.of b = some ob → past.of b = some ob ∧ b ≠ Lc) → ∀ v s', (∃ k o, Fly C.base past C.stk X k o v s') → notedBy (model prog w) C.A cenv (fun e s' => R (.error e) s') v s')
    (hL : CompL prog w G n C cenv X ρ' x elt Ok ds [] M' Q) (hR : ∀ s'' M'' acc', CS C cenv s₀ ρ M₀ wr Da Lc [] acc' s'' M'' → Q acc' M'' → R (.ok .next) s'') :
    codeAny (model prog w) C.A (.compLoop (.ListComp elt [⟨.Name x px, iter, [], 0⟩] scope pos) 0 (.ref a) (.ref Da) cenv) R s' := by
  refine codeAny_compLoop_go (fun k s₂ => ∃ i M₂ acc₂, i + k = ds.length ∧ acc₂.length = i ∧ CS C cenv s₀ ρ M₀ wr Da Lc [] acc₂ s₂ M₂ ∧ St i s₂.heap ∧ CompL prog w G n C cenv X ρ' x elt Ok (ds.drop i) acc₂ M₂ Q) (fun k s₂ hI => ?_) ds.length ⟨0, M', [], by omega, rfl, S, hSt, hL⟩
  refine hide fun uu kg => ?_
  obtain ⟨i, M₂, acc₂, hk, hal, S₂, hSt₂, hL₂⟩ := hI
  refine kg ?_
  have F0 := I.flds _ _ hSt₂
  cases hd : ds.drop i with
  | nil =>
    rw [hd] at hL₂
    have hi : i = ds.length := drop_end hk hd
    rw [hi] at hSt₂
    exact I.done s₂ M₂ _ _ hSt₂ S₂.sit.lists hL₂.1 fun h' tk kk => hR _ M₂ acc₂ (S₂.turn_last F F0 (fun uu h => h) kk) hL₂.2
  | cons d rest =>
    rw [hd] at hL₂
    obtain ⟨hok, hE⟩ := hL₂
    obtain ⟨hi, hrest, hlt⟩ := drop_at hd
    refine I.item i d s₂ M₂ _ _ hi hSt₂ S₂.sit.lists hok fun v h' tk r hm kk => ?_
    have F1 := I.fldm _ _ _ hm
    have S3 := S₂.turn F (tk := tk) F0 (fun uu h => h) kk F1
    refine I.go _ i v _ _ _ hT hm fun h'' hs'' k'' => ?_
    have F2 := I.flds _ _ hs''
    have S4 := S3.turn F (tk := tk) F1 (fun uu h => h) k'' F2
    refine S4.store F hx (r.mono (tups_wr F1 k'')) fun s₅ S5 kn => ?_
    have Sn := S5.ctx F Fc
    refine hide fun uu kg => ?_
    obtain ⟨m, hns, uu⟩ := S5.ns
    obtain ⟨oN, esN, epN, hoN, hdN, rrN⟩ := id hns
    refine kg ?_
    have hpC : C.past.of Lc = .none := none_of fun o e => by obtain ⟨uu, sl, ho⟩ := F.sit.past _ o e; exact nne F.freshC ho
    let past : Was := ⟨fun b => if b = Lc then some oN else C.past.of b, C.past.sh⟩
    have hpL : past.of Lc = some oN := if_pos rfl
    have hle : ∀ b ob, C.past.of b = some ob → past.of b = some ob ∧ b ≠ Lc := fun b ob e => by
      have : b ≠ Lc := fun q => nb q hpC e
      exact ⟨(if_neg this).trans e, this⟩
    have hP : Past past s₅.heap := fun b ob e => by
      by_cases q : b = Lc
      · obtain rfl := sb q hpL e
        rw [q]
        exact ⟨⟨esN, epN, hdN⟩, oN.slots, hoN⟩
      · exact S5.sit.past b ob ((if_neg q).symm.trans e)
    have Oc : CxOk G (compCx C cenv past X) n := ⟨F.ok.frames, F.ok.depth, F.ok.units, F.ok.handled, F.ok.glob, fun uu z => (nomatch z), fun uu z => (nomatch z), F.kind, F.globals.trans F.ok.globals, F.builtins.trans F.ok.builtins⟩
    have Sc : Sit (compCx C cenv past X) s₅ ((x, d) :: ρ') M₂ := ⟨Sn.stays, Sn.frames, Sn.lists, Sn.own, Sn.ns, Sn.cells, Sn.inj, Sn.names, hP, S5.sit.like, Sn.tab⟩
    refine wpAny_mono (hE past Oc s₅ Sc) (fun y s₆ P => ?_) fun v s' Fy => thrown past ⟨oN, hpL, _, m, hns, hoN⟩ rfl hle v s' Fy
    refine hide fun uu kg => ?_
    obtain ⟨e, M₆, T6, L6, r6, q6⟩ := P
    refine kg ?_
    have T6' : Step [] C.stk s₅ M₂ s₆ M₆ := T6
    have S6 := CS.ev F S5 T6' L6
    refine S6.append F r6 (by omega) fun s₇ S7 kl => ?_
    have S7' := S7.forget (ρn := []) fun y d hy => nomatch hy
    have keepFld : ∀ (b : Addr) (o : Obj) (vs : Array Value), b ≠ tabA → h''.get? b = some o → o.data = .fields vs → s₇.heap.get? b = some o := fun b o vs ht e hdd =>
      S5.fld (kn b o e fun es n q => dd hdd q rfl) T6' hdd ht kl
    have tuAll : TupsStay h'' s₇.heap := fun b us e => by
      obtain ⟨j, e⟩ := e
      obtain ⟨j2, e6⟩ := T6'.tups (ownOk_nil _) S5.sit.lists S5.sit.frames b us ⟨j, kn b _ e fun es n q => by cases q⟩
      exact ⟨j2, kl b _ e6 fun vs n q => absurd (congrArg Obj.cls q) (show ¬ (Value.type "tuple" = Value.type "list") by decide)⟩
    refine ⟨ds.length - (i + 1), turn_lt hk hlt, i + 1, M₆, acc₂ ++ [e], turn_eq hlt, by rw [List.length_append, hal]; rfl, S7', I.frame _ _ _ hs'' (fun b hb o e => ?_) tuAll, by rw [hrest]; exact q6⟩
    obtain ⟨hbt, o', ws, ho, hdd, uu⟩ := F2 b hb
    obtain rfl := some_inj e ho
    exact keepFld b o ws hbt e hdd
theorem comp_core {elt iter : Expr} {x : Str} {px : Pos} {scope : Scope} {pos : Pos} {cl : List (Str × Addr)} {Q : D → LMap → Prop} (X : Array UInt8 → Prop) (ρ' : Locs) (O : CxOk G C n) (hX : Takes C X ∧ (∃ Lf outer, C.stk = C.env :: outer ∧ C.env.frame = some Lf) ∨ ∀ b, ¬ X b)
    (hclos : closureFor scope C.env = pure cl) (hcell : ∀ y ∈ scope.names, y.2 ≠ .cell) (hkind : scope.kind = .function)
    (hnames : ∀ y ∈ scope.names, y.2 = .local → scope.names.lookup y.1 = some .local) (hx : scope.names.lookup x = some .local)
    (hcl : ∀ y c, cl.lookup y = some c → C.env.cells.lookup y = some c) (hρ : ∀ L, Caught C (compEnvC scope cl L C.env) ρ ρ')
    (h : IE prog w C ρ M iter fun T Ok ds M₁ => T (.Name x px) ∧ ds.length ≤ sizeLine ∧ ∀ L, CompL prog w G n C (compEnvC scope cl L C.env) X ρ' x elt Ok ds [] M₁ fun acc M₂ => ∀ a, M₂ a = .none → Q (.lst a) (upd M₂ a acc))
    (hs : ∀ x, foldedSetIterable iter C.env x = pure x) {use : Option (Value → Sem Unit)} {Q' : Value → Shared → Prop}
    (kp : ∀ acc L r s', s.heap.get? L = .none → compPost (model prog w) C.A C.E none (Post C s M Q) acc L r s' → compPost (model prog w) C.A C.E use Q' acc L r s') (S : Sit C s ρ M) :
    wpAny (model prog w) C.A (comprehension (.ListComp elt [⟨.Name x px, iter, [], 0⟩] scope pos) scope C.env (firstIterPos [⟨.Name x px, iter, [], 0⟩] pos) (newList []) (firstAsync [⟨.Name x px, iter, [], 0⟩]) (firstIter [⟨.Name x px, iter, [], 0⟩] C.env) use) Q' C.E s := by
  refine comp_enter (H := fun Ok ds M₁ => ds.length ≤ sizeLine ∧ ∀ L, CompL prog w G n C (compEnvC scope cl L C.env) X ρ' x elt Ok ds [] M₁ fun acc M₂ => ∀ a, M₂ a = .none → Q (.lst a) (upd M₂ a acc)) ρ' O hclos hcell hkind hnames hcl hρ h hs S fun a Da Lc wr T Ok St Mid ds M₂ s₄ I hT hL F Fc CS4 hSt4 => ?_
  refine codeAny_mono ?_ fun r s' h' => kp _ _ r s' F.freshC h'
  refine comp_loop F Fc (lookup_relabel_local hx) I hT CS4 hSt4 hL.1 ?_ (hL.2 Lc) fun s' M' acc S' q => S'.close F q
  -- the raise on its way
  intro past hpast hsh hle v s' hF
  have hbC := F.basen F.freshC
  have hfC := F.frsn F.freshC
  rcases hX with ⟨hTk, Lf, outer, hstk, hfe⟩ | hno
  · refine hide fun uu kg => ?_
    obtain ⟨o, hpo, h, m, hnm, hho⟩ := hpast
    obtain ⟨k, ok, F⟩ := hF
    refine kg ?_
    rw [hstk] at F
    refine F.note (by rw [O.frames, hstk]) hfe (show (compEnvC scope cl Lc C.env).frame = some Lf from hfe) fun h' N => ?_
    rw [← hstk] at N
    obtain ⟨uu, sl, hg⟩ := N.was Lc o hpo
    refine ⟨m, ns_ofSlots hnm hho hg, fun h'' hsb cenv' uu => ?_⟩
    have N' := N.less hbC ⟨o, hpo⟩ hfC hsh.symm hle hsb
    unfold PySem.passOn
    refine hide fun uu kg => ?_
    obtain ⟨e, rfl, uu, uu, oe, vs, he, hd, hm⟩ := id N'.is
    refine kg ?_
    rcases hm with ⟨z, _⟩ | ⟨Tt, oT, ts, h1, _⟩
    · exact z.elim
    refine wpAny_bind (wpAny_field he hd h1 ?_)
    refine wp_ff (show ¬ ((Value.ref Tt == Value.none) = true) from Bool.false_ne_true) ?_
    refine wpAny_bind (N'.setFlight fun h3 F3 => wpAny_throw ?_)
    exact hTk _ _ _ _ F3
  · obtain ⟨k, ok, F⟩ := hF
    exact (F.no hno).elim
theorem ev_comp {elt iter : Expr} {x : Str} {px : Pos} {scope : Scope} {pos : Pos} {cl : List (Str × Addr)} {Q : D → LMap → Prop} (X : Array UInt8 → Prop) (ρ' : Locs) (O : CxOk G C n) (hX : Takes C X ∧ (∃ Lf outer, C.stk = C.env :: outer ∧ C.env.frame = some Lf) ∨ ∀ b, ¬ X b)
    (hclos : closureFor scope C.env = pure cl) (hcell : ∀ y ∈ scope.names, y.2 ≠ .cell) (hkind : scope.kind = .function)
    (hnames : ∀ y ∈ scope.names, y.2 = .local → scope.names.lookup y.1 = some .local) (hx : scope.names.lookup x = some .local)
    (hcl : ∀ y c, cl.lookup y = some c → C.env.cells.lookup y = some c) (hρ : ∀ L, Caught C (compEnvC scope cl L C.env) ρ ρ')
    (h : IE prog w C ρ M iter fun T Ok ds M₁ => T (.Name x px) ∧ ds.length ≤ sizeLine ∧ ∀ L, CompL prog w G n C (compEnvC scope cl L C.env) X ρ' x elt Ok ds [] M₁ fun acc M₂ => ∀ a, M₂ a = .none → Q (.lst a) (upd M₂ a acc))
    (hs : ∀ x, foldedSetIterable iter C.env x = pure x) : Ev prog w C ρ M (.ListComp elt [⟨.Name x px, iter, [], 0⟩] scope pos) Q := fun s S => by
  rw [eval_ListComp]
  exact comp_core X ρ' O hX hclos hcell hkind hnames hx hcl hρ h hs (fun uu uu uu uu uu e => e) S

/-- a dict that an earlier situation did not know turns, or goes -/
theorem Sit.drop {L : Addr} {o : Obj} {es : Array DictEntry} {k : Nat} {h' : Heap} (S₀ : Sit C s₀ ρ₀ M₀) (hn : s₀.heap.get? L = .none) (S : Sit C s ρ M) (e : s.heap.get? L = some o) (hd : o.data = .dict es k) (hs : Heap.SameBut L s.heap h') : Sit C { s with heap := h' } ρ M := by
  have ne : ∀ b o, s₀.heap.get? b = some o → b ≠ L := fun b o e q => by (first | exact (nb q hn e).elim | obtain rfl := sb q hn e | (rw [q, hn] at e; cases e))
  have keep : ∀ b ob, b ≠ L → s.heap.get? b = some ob → h'.get? b = some ob := fun b ob hb z => (hs.2 b hb).trans z
  have kd : ∀ b ob, s.heap.get? b = some ob → (∀ es k, ob.data ≠ .dict es k) → h'.get? b = some ob := fun b ob z hn => keep b ob (fun y => by
    rw [y, e] at z
    exact hn es k ((congrArg Obj.data (Option.some.inj z)).symm.trans hd)) z
  have tu : TupsStay s.heap h' := fun b us ⟨j, z⟩ => ⟨j, kd b _ z fun es n q => by cases q⟩
  have cellNe : ∀ x c, C.env.cells.lookup x = some c → c ≠ L := fun x c e => by
    refine hide fun uu kg => ?_
    obtain ⟨v, o, ho, uu⟩ := S₀.cells x c e
    refine kg ?_
    exact ne c o ho
  have locNe : C.env.locals ≠ L := by
    refine hide fun uu kg => ?_
    obtain ⟨m, o, es, ep, ho, uu⟩ := S₀.ns
    refine kg ?_
    exact ne _ o ho
  have nsUp : ∀ a m, a ≠ L → s.heap.Ns a m → h'.Ns a m := fun a m hb ⟨o, es, ep, ho, r⟩ => ⟨o, es, ep, keep a o hb ho, r⟩
  have cellUp : ∀ c v, c ≠ L → s.heap.IsCell c v → h'.IsCell c v := fun c v hb ⟨o, ho, r⟩ => ⟨o, keep c o hb ho, r⟩
  refine ⟨fun b ob z => keep b ob (ne b ob (S₀.stays b ob z)) (S.stays b ob z), fun env he => ?_, ?_, fun a ha => ?_, ?_, fun x c e => ?_, S.inj, fun x d e => ?_, fun b ob z => ?_, S.like.up, ?_⟩
  · refine hide fun uu kg => ?_
    obtain ⟨hk, A, o, es, n, hf, hb, ho, hd⟩ := S.frames env he
    refine kg ?_
    refine hide fun uu kg => ?_
    obtain ⟨uu, A₀, o₀, uu, uu, hf₀, uu, ho₀, uu⟩ := S₀.frames env he
    refine kg ?_
    (first | exact (nne hf hf₀).elim | exact (dd hf hf₀ rfl).elim | obtain rfl := some_inj hf hf₀ | (rw [hf] at hf₀; cases hf₀))
    exact ⟨hk, A, o, es, n, hf, hb, keep A o (ne A o₀ ho₀) ho, hd⟩
  · exact fun b es' z => ⟨(S.lists b es' z).1, (S.lists b es' z).2.turn (fun vs n z => kd b _ z fun es n q => by cases q) tu fun c oc vs z hdd uu => kd c oc z fun es n q => by (first | exact (nne hdd q).elim | exact (dd hdd q rfl).elim | obtain rfl := some_inj hdd q | (rw [hdd] at q; cases q))⟩
  · refine hide fun uu kg => ?_
    obtain ⟨o, ho, h1, h2⟩ := S.own a ha
    refine kg ?_
    obtain ⟨o₀, ho₀, uu⟩ := S₀.own a ha
    exact ⟨o, keep a o (ne a o₀ ho₀) ho, h1, h2⟩
  · obtain ⟨m, hm⟩ := S.ns
    exact ⟨m, nsUp _ _ locNe hm⟩
  · obtain ⟨v, hv⟩ := S.cells x c e
    exact ⟨v, cellUp _ _ (cellNe x c e) hv⟩
  · obtain ⟨v, hb, hr⟩ := S.names x d e
    refine ⟨v, ?_, hr.mono tu⟩
    rcases hb with ⟨hk, m, hm, hv⟩ | ⟨hk, c, hc, hv⟩
    · exact .inl ⟨hk, m, nsUp _ _ locNe hm, hv⟩
    · exact .inr ⟨hk, c, hc, cellUp _ _ (cellNe x c hc) hv⟩
  · obtain ⟨h1, sl, ho⟩ := S.past b ob z
    obtain ⟨uu, sl₀, ho₀⟩ := S₀.past b ob z
    exact ⟨h1, sl, keep b _ (ne b _ ho₀) ho⟩
  · obtain ⟨ot, ht⟩ := S.tab
    obtain ⟨ot₀, ht₀⟩ := S₀.tab
    exact ⟨ot, keep _ _ (ne _ _ ht₀) ht⟩

/-- the list is stored ahead of the letting go of the comprehension's names -/
theorem comp_store {t : Expr} {Q : D → LMap → Prop} {R : Locs → LMap → Prop} (S : Sit C s ρ M) (hQ : ∀ d M', Q d M' → As prog w C ρ M' t d R) :
    ∀ acc L r s', s.heap.get? L = .none → compPost (model prog w) C.A C.E none (Post C s M Q) acc L r s' → compPost (model prog w) C.A C.E (some (assign t C.env)) (fun uu s'' => ∃ ρ' M', Step C.own C.stk s M s'' M' ∧ Sit C s'' ρ' M' ∧ R ρ' M') acc L r s' := fun acc L r s' hL P => by
  cases r with
  | error x => exact P
  | ok f =>
    obtain ⟨m, hns, hp⟩ := P
    refine hide fun uu kg => ?_
    obtain ⟨d, M', T, Ls, r, q⟩ := hp s'.heap (Heap.SameBut.refl _ _)
    refine kg ?_
    have S' : Sit C s' ρ M' := S.ev T Ls
    refine wpAny_mono (hQ d M' q s' acc S' r) (fun uu s₂ P => ?_) fun uu uu x => x
    refine hide fun uu kg => ?_
    obtain ⟨ρ₂, M₂, T₂, S₂, hR⟩ := P
    refine kg ?_
    have hown : L ∉ C.own := fun z => by
      obtain ⟨o, ho, uu⟩ := S.own L z
      (first | exact (nne hL ho).elim | exact (dd hL ho rfl).elim | obtain rfl := some_inj hL ho | (rw [hL] at ho; cases ho))
    have hfr : L ∉ frs C.stk := fun z => by
      refine hide fun uu kg => ?_
      obtain ⟨uu, o, es, k, ho, uu⟩ := S.frames.mem z
      refine kg ?_
      (first | exact (nne hL ho).elim | exact (dd hL ho rfl).elim | obtain rfl := some_inj hL ho | (rw [hL] at ho; cases ho))
    refine hide fun uu kg => ?_
    obtain ⟨o, es, ep, ho, hd, hrest⟩ := id hns
    refine kg ?_
    obtain ⟨sl, e, q'⟩ := T₂.keep L o ho (S'.lists.notDict ho (fun xs n z => by (first | exact (nne hd z).elim | exact (dd hd z rfl).elim | obtain rfl := some_inj hd z | (rw [hd] at z; cases z))) fun vs z => by (first | exact (nne hd z).elim | exact (dd hd z rfl).elim | obtain rfl := some_inj hd z | (rw [hd] at z; cases z))) hown
    rw [q' hfr] at e
    refine ⟨m, ⟨o, es, ep, e, hd, hrest⟩, fun h' hs => ?_⟩
    have TT : Step C.own C.stk s M s₂ M₂ := T.weaken.trans T₂
    have ne : ∀ b o, s.heap.get? b = some o → b ≠ L := fun b o e q => by (first | exact (nb q hL e).elim | obtain rfl := sb q hL e | (rw [q, hL] at e; cases e))
    refine ⟨ρ₂, M₂, ⟨fun b ob z hb ho' => ?_, fun b ob z => ?_, TT.fresh, by rw [TT.rest]⟩, Sit.drop S hL S₂ e hd hs, hR⟩
    · obtain ⟨sl, e', q⟩ := TT.keep b ob z hb ho'
      exact ⟨sl, (hs.2 b (ne b ob z)).trans e', q⟩
    · obtain ⟨o', e'⟩ := TT.there b ob z
      exact ⟨o', (hs.2 b (ne b ob z)).trans e'⟩

/-- the list is stored where the comprehension ends -/
theorem sx_assign_comp {elt iter : Expr} {x y : Str} {px py : Pos} {scope : Scope} {pos apos : Pos} {cl : List (Str × Addr)} {R : Option D → Locs → LMap → Prop} (X : Array UInt8 → Prop) (ρ' : Locs) (O : CxOk G C n) (hX : Takes C X ∧ (∃ Lf outer, C.stk = C.env :: outer ∧ C.env.frame = some Lf) ∨ ∀ b, ¬ X b)
    (hclos : closureFor scope C.env = pure cl) (hcell : ∀ y ∈ scope.names, y.2 ≠ .cell) (hkind : scope.kind = .function)
    (hnames : ∀ y ∈ scope.names, y.2 = .local → scope.names.lookup y.1 = some .local) (hx : scope.names.lookup x = some .local)
    (hcl : ∀ y c, cl.lookup y = some c → C.env.cells.lookup y = some c) (hρ : ∀ L, Caught C (compEnvC scope cl L C.env) ρ ρ')
    (h : IE prog w C ρ M iter fun T Ok ds M₁ => T (.Name x px) ∧ ds.length ≤ sizeLine ∧ ∀ L, CompL prog w G n C (compEnvC scope cl L C.env) X ρ' x elt Ok ds [] M₁ fun acc M₂ => ∀ a, M₂ a = .none → As prog w C ρ (upd M₂ a acc) (.Name y py) (.lst a) (R .none))
    (hs : ∀ x, foldedSetIterable iter C.env x = pure x) (hsw : swapsWith (.ListComp elt [⟨.Name x px, iter, [], 0⟩] scope pos) (some (.Name y py)) apos.line C.env = pure true) : Sx prog w C ρ M (.Assign [.Name y py] (.ListComp elt [⟨.Name x px, iter, [], 0⟩] scope pos) apos) R := fun s S => by
  rw [exec_Assign_Name_used _ _ _ _ hsw]
  refine wpAny_bind (wpAny_standAt (wpAny_bind ?_))
  unfold evalThenUse
  refine wpAny_bind (wpAny_mono (comp_core (Q := fun d M' => As prog w C ρ M' (.Name y py) d (R .none)) X ρ' O hX hclos hcell hkind hnames hx hcl hρ h hs (comp_store S fun d M' h => h) S) (fun v s₂ P => wpAny_pure (wpAny_pure ?_)) fun uu uu x => x)
  exact P
end
end Mine

end
section
open PySem PySem.W PyProof.Rows
open PyProof.Rows.TI (gone gone_get gone_none gone_some)
set_option maxRecDepth 100000
set_option linter.unusedVariables false
namespace Mine

section
variable {prog : Program} {w : World} {C : Cx} {s s₀ s₁ s' s'' : Shared} {ρ ρ₀ ρ₁ ρ' : Locs} {M M₀ M₁ M' M'' : LMap} {G : Heap → Prop} {n : Nat}

/-- targets in order -/
noncomputable def Ass (prog : Program) (w : World) (C : Cx) : List Expr → List D → Locs → LMap → (Locs → LMap → Prop) → Prop
  | [], [], ρ, M, R => R ρ M
  | t :: ts, d :: ds, ρ, M, R => As prog w C ρ M t d fun ρ₁ M₁ => Ass prog w C ts ds ρ₁ M₁ R
  | _, _, _, _, _ => False
noncomputable abbrev KAss (prog : Program) (w : World) (C : Cx) (ts : List Expr) (ds : List D) (R : Locs → LMap → Prop) : Locs → LMap → Prop := fun ρ₁ M₁ => Ass prog w C ts ds ρ₁ M₁ R
theorem ass_nil {R : Locs → LMap → Prop} (h : R ρ M) : Ass prog w C [] [] ρ M R := h
theorem ass_cons {t : Expr} {ts : List Expr} {d : D} {ds : List D} {R : Locs → LMap → Prop} (h : As prog w C ρ M t d (KAss prog w C ts ds R)) : Ass prog w C (t :: ts) (d :: ds) ρ M R := h
theorem ass_run {R : Locs → LMap → Prop} (ts : List Expr) : ∀ (ds : List D) (vs : List Value) (ρ : Locs) (M : LMap) (s : Shared), Ass prog w C ts ds ρ M R → Sit C s ρ M → Reps s.heap vs ds →
    wpAny (model prog w) C.A (assignInOrder (ts.map fun t => assign t C.env) vs) (fun uu s' => ∃ ρ' M', Step C.own C.stk s M s' M' ∧ Sit C s' ρ' M' ∧ R ρ' M') C.E s := by
  induction ts with
  | nil =>
    intro ds vs ρ M s h S rs
    cases ds with
    | nil => obtain rfl := rs.nil_; exact assignInOrder_nil ⟨ρ, M, Step.refl _ _ _ _, S, h⟩
    | cons d ds => exact h.elim
  | cons t ts ih =>
    intro ds vs ρ M s h S rs
    cases ds with
    | nil => exact h.elim
    | cons d ds =>
      obtain ⟨uu, uu, rfl, r, rs⟩ := rs.cons_
      · skip
        refine assignInOrder_cons (wpAny_mono (h s _ S r) (fun uu s₁ h₁ => ?_) fun uu uu x => x)
        refine hide fun uu kg => ?_
        obtain ⟨ρ₁, M₁, T₁, S₁, h₁⟩ := h₁
        refine kg ?_
        refine wpAny_mono (ih _ _ _ _ _ h₁ S₁ (rs.mono (T₁.tups S.own S.lists S.frames))) (fun uu s₂ h₂ => ?_) fun uu uu x => x
        refine hide fun uu kg => ?_
        obtain ⟨ρ₂, M₂, T₂, S₂, h₂⟩ := h₂
        refine kg ?_
        exact ⟨ρ₂, M₂, T₁.trans T₂, S₂, h₂⟩
theorem as_tuple {ts : List Expr} {k : Nat} {pos : Pos} {ds : List D} {R : Locs → LMap → Prop} (O : CxOk G C n) (h : Ass prog w C ts ds ρ M R) (hl : ts.length = ds.length) (he : (assignEach ts C.env).map (·.2) = ts.map fun t => assign t C.env) (hs : (assignEach ts C.env).findIdx? (·.1) = none) :
    As prog w C ρ M (.Tuple ts k pos) (.tup ds) R := fun s v S r => by
  obtain ⟨t, vs, rfl, ht, rs⟩ := r.tup_
  · skip
    have hn : (assignEach ts C.env).length = vs.toArray.size := by
      have := congrArg List.length he
      simp at this
      simp [this, hl, rs.length]
    refine wpAny_assign_Tuple O.handled ht.tuple hn hs fun h3 ex => ?_
    have k3 : ∀ b o, s.heap.get? b = some o → h3.get? b = some o := fun b o e => ex b o (Nat.ne_of_lt (Heap.lt_size e)) e
    have T3 : Step [] C.stk s M { s with heap := h3, toks := s.toks } M := Step.ofKeeps k3
    have S3 : Sit C { s with heap := h3, toks := s.toks } ρ M := S.ev T3 (S.lists.mono k3)
    rw [he]
    refine wpAny_mono (ass_run _ _ _ _ _ _ h S3 (rs.mono fun b us ⟨j, e⟩ => ⟨j, k3 b _ e⟩)) (fun uu s₂ h₂ => ?_) fun uu uu x => x
    refine hide fun uu kg => ?_
    obtain ⟨ρ₂, M₂, T₂, S₂, h₂⟩ := h₂
    refine kg ?_
    exact ⟨ρ₂, M₂, T3.weaken.trans T₂, S₂, h₂⟩

/-- a callable that neither reads nor writes watched lists -/
noncomputable def FnP (prog : Program) (w : World) (G : Heap → Prop) (f : Value) (n : Nat) (ds : List D) (Q : D → Prop) (X : Array UInt8 → Prop) : Prop := FnX prog w G f n ds (fun uu => .none) (fun d uu => Q d) X
noncomputable def Up (G : Heap → Prop) : Prop := ∀ base base', G base → (∀ b o, base.get? b = some o → base'.get? b = some o) → G base'
theorem Fly.smaller {base base' : Heap} {past : Was} {stk : List Env} {X : Array UInt8 → Prop} {k : Value} {o : Prop} {v : Value} (F : Fly base' past stk X k o v s) (up : ∀ b o, base.get? b = some o → base'.get? b = some o) : Fly base past stk X k o v s := by
  have none : ∀ b, base'.get? b = .none → base.get? b = .none := fun b h => by
    exact none_of fun o e => by (first | exact (nne (up b o e) h).elim | exact (dd (up b o e) h rfl).elim | obtain rfl := some_inj (up b o e) h | (rw [up b o e] at h; cases h))
  refine hide fun uu kg => ?_
  obtain ⟨e, rfl, hen, P, oe, vs, he, hd, hm⟩ := F.is
  refine kg ?_
  refine ⟨fun b o e => F.stays b o (up b o e), fun env he => ?_, F.was, F.like, e, rfl, none e hen, P, oe, vs, he, hd, ?_⟩
  · refine hide fun uu kg => ?_
    obtain ⟨hk, L, o, es, n, hf, hb, ho, hd⟩ := F.frames env he
    refine kg ?_
    exact ⟨hk, L, o, es, n, hf, none L hb, ho, hd⟩
  · rcases hm with h | ⟨T, oT, ts, h1, hnT, r⟩
    · exact .inl h
    · exact .inr ⟨T, oT, ts, h1, none T hnT, r⟩
theorem FnP.at {f : Value} {ds : List D} {P : D → Prop} {Q : D → LMap → Prop} {X : Array UInt8 → Prop} (up : Up G) (h : FnP prog w G f n ds P X) (q : ∀ d, P d → Q d M) : FnX prog w G f n ds M Q X := by
  intro A stk base past s vs E hfr hd hu hh hG B F L ht R hp hlk hE
  have hup : ∀ b o, base.get? b = some o → (gone s.heap (frs stk)).get? b = some o := fun b o e => by
    have : b ∉ frs stk := fun q => by (first | exact (nne (F.mem q).1 e).elim | exact (dd (F.mem q).1 e rfl).elim | obtain rfl := some_inj (F.mem q).1 e | (rw [(F.mem q).1] at e; cases e))
    rw [gone_get this]; exact B b o e
  refine wpAny_mono (h A stk (gone s.heap (frs stk)) past s vs E hfr hd hu hh (up _ _ hG hup) (fun b o e => (gone_some e).2) (fun env he => ?_) (fun a ds e => nomatch e) ht R hp hlk fun v s' F' => hE v s' (F'.smaller hup)) (fun v s' P => ?_) fun uu uu x => x
  · refine hide fun uu kg => ?_
    obtain ⟨hk, L, o, es, n, hf, hb, ho, hd⟩ := F env he
    refine kg ?_
    exact ⟨hk, L, o, es, n, hf, gone_none (List.mem_filterMap.mpr ⟨env, he, hf⟩), ho, hd⟩
  · refine hide fun uu kg => ?_
    obtain ⟨d, M', T, L', r, p⟩ := P
    refine kg ?_
    have L0 : Lists base s.heap (fun uu => .none) := fun a ds e => nomatch e
    have tu := T.tups (ownOk_nil _) L0 F
    have ex : ∀ b o, s.heap.get? b = some o → (∀ es n, o.data ≠ .dict es n) → s'.heap.get? b = some o := fun b o e hd => by
      obtain ⟨sl, e', q'⟩ := T.keep b o e rfl (fun z => nomatch z)
      rw [q' (F.notSeq e hd)] at e'
      exact e'
    refine ⟨d, M, ⟨fun b o e uu ho => T.keep b o e rfl ho, T.there, fun a h => .inl h, T.rest⟩, fun a es e => ?_, r, q d p⟩
    exact ⟨(L a es e).1, (L a es e).2.turn (fun vs n z => ex a _ z fun es n q => by cases q) tu fun c o vs z hd uu => ex c o z fun es n q => by (first | exact (nne hd q).elim | exact (dd hd q rfl).elim | obtain rfl := some_inj hd q | (rw [hd] at q; cases q))⟩
theorem FnP.fnAt {f : Value} {ds : List D} {P : D → Prop} {Q : D → LMap → Prop} (up : Up G) (h : FnP prog w G f n ds P fun uu => False) (q : ∀ d, P d → Q d M) : Fn prog w G f n ds M Q := (h.at up q).fn fun uu x => x
theorem FnP.fnEq {f : Value} {ds : List D} {e : D} {Q : D → LMap → Prop} (up : Up G) (h : FnP prog w G f n ds (fun d => d = e) fun uu => False) (q : Q e M) : Fn prog w G f n ds M Q := h.fnAt up fun d hd => hd.symm ▸ q
theorem up_glob {K : Frag} {p : Program} {loose : List Str} {mg mb : Str → Option Value} : Up (GlobB K p loose mg mb) := fun base base' h k => ⟨fun a o e => k a o (h.kin a o e), h.top.keeps k⟩
/-- a callable that makes a list and touches no other -/
noncomputable def FnL (prog : Program) (w : World) (G : Heap → Prop) (f : Value) (n : Nat) (ds : List D) (Q : List D → Prop) (X : Array UInt8 → Prop) : Prop := FnX prog w G f n ds (fun uu => .none) (fun d N => ∃ c es, d = .lst c ∧ N c = some es ∧ Q es) X
theorem FnL.at {f : Value} {ds : List D} {P : List D → Prop} {Q : D → LMap → Prop} {X : Array UInt8 → Prop} (up : Up G) (h : FnL prog w G f n ds P X) (q : ∀ c es, M c = .none → P es → Q (.lst c) (upd M c es)) : FnX prog w G f n ds M Q X := by
  intro A stk base past s vs E hfr hd hu hh hG B F L ht R hp hlk hE
  have hup : ∀ b o, base.get? b = some o → (gone s.heap (frs stk)).get? b = some o := fun b o e => by
    have : b ∉ frs stk := fun q => by (first | exact (nne (F.mem q).1 e).elim | exact (dd (F.mem q).1 e rfl).elim | obtain rfl := some_inj (F.mem q).1 e | (rw [(F.mem q).1] at e; cases e))
    rw [gone_get this]; exact B b o e
  refine wpAny_mono (h A stk (gone s.heap (frs stk)) past s vs E hfr hd hu hh (up _ _ hG hup) (fun b o e => (gone_some e).2) (fun env he => ?_) (fun a ds e => nomatch e) ht R hp hlk fun v s' F' => hE v s' (F'.smaller hup)) (fun v s' P => ?_) fun uu uu x => x
  · refine hide fun uu kg => ?_
    obtain ⟨hk, L, o, es, n, hf, hb, ho, hd⟩ := F env he
    refine kg ?_
    exact ⟨hk, L, o, es, n, hf, gone_none (List.mem_filterMap.mpr ⟨env, he, hf⟩), ho, hd⟩
  · refine hide fun uu kg => ?_
    obtain ⟨d, N, T, L', r, c, es, rfl, hN, p⟩ := P
    refine kg ?_
    have L0 : Lists base s.heap (fun uu => .none) := fun a ds e => nomatch e
    have tu := T.tups (ownOk_nil _) L0 F
    have ex : ∀ b o, s.heap.get? b = some o → (∀ es n, o.data ≠ .dict es n) → s'.heap.get? b = some o := fun b o e hd => by
      obtain ⟨sl, e', q'⟩ := T.keep b o e rfl (fun z => nomatch z)
      rw [q' (F.notSeq e hd)] at e'
      exact e'
    have hc0 : s.heap.get? c = .none := by
      rcases T.fresh c (by rw [hN]; exact fun z => nomatch z) with h | h
      · exact absurd rfl h
      · exact h
    have hMc : M c = .none := L.fresh hc0
    refine ⟨.lst c, upd M c es, ⟨fun b o e uu ho => T.keep b o e rfl ho, T.there, fun a h => ?_, T.rest⟩, fun a fs e => ?_, r, q c es hMc p⟩
    · by_cases z : a = c
      · subst z; exact .inr hc0
      · rw [upd_ne z] at h; exact .inl h
    · by_cases z : a = c
      · subst z
        (first | exact (nne (upd_same _ _ _) e).elim | exact (dd (upd_same _ _ _) e rfl).elim | obtain rfl := some_inj (upd_same _ _ _) e | (rw [upd_same] at e; cases e))
        obtain ⟨hb, x⟩ := L' a _ hN
        refine ⟨?_, x⟩
        exact none_of fun o e => by (first | exact (nne (hup a o e) hb).elim | exact (dd (hup a o e) hb rfl).elim | obtain rfl := some_inj (hup a o e) hb | (rw [hup a o e] at hb; cases hb))
      · rw [upd_ne z] at e
        exact ⟨(L a fs e).1, (L a fs e).2.turn (fun vs n z => ex a _ z fun es n q => by cases q) tu fun c o vs z hd uu => ex c o z fun es n q => by (first | exact (nne hd q).elim | exact (dd hd q rfl).elim | obtain rfl := some_inj hd q | (rw [hd] at q; cases q))⟩
theorem FnL.fnAt {f : Value} {ds : List D} {P : List D → Prop} {Q : D → LMap → Prop} (up : Up G) (h : FnL prog w G f n ds P fun uu => False) (q : ∀ c es, M c = .none → P es → Q (.lst c) (upd M c es)) : Fn prog w G f n ds M Q := (h.at up q).fn fun uu x => x
end
theorem ite_tt {A B : Prop} (h : A) : if (true = true) then A else B := by rw [if_pos rfl]; exact h
theorem ite_ff {A B : Prop} (h : B) : if (false = true) then A else B := by rw [if_neg (by decide)]; exact h
theorem ite_t {c : Bool} {A B : Prop} (hc : c = true) (h : A) : if (c = true) then A else B := by rw [if_pos hc]; exact h
theorem ite_f {c : Bool} {A B : Prop} (hc : c = false) (h : B) : if (c = true) then A else B := by rw [if_neg (by rw [hc]; decide)]; exact h
theorem seq0 (d : D) (ds : List D) : seqIndex? 0 (d :: ds).length = some 0 := by simp [seqIndex?]
theorem len_and {a : Nat} {P : Prop} (h : a ≤ sizeLine) (p : P) : a ≤ sizeLine ∧ P := ⟨h, p⟩
theorem vs1 {P : List Value → Prop} (k : ∀ v, P [v]) : ∀ vs : List Value, vs.length = 1 → P vs := fun vs h => by
  cases vs with
  | nil => cases h
  | cons v r => cases r with
    | nil => exact k v
    | cons _ _ => cases h
theorem vs2 {P : List Value → Prop} (k : ∀ v w, P [v, w]) : ∀ vs : List Value, vs.length = 2 → P vs := fun vs h => by
  cases vs with
  | nil => cases h
  | cons v r => exact vs1 (P := fun r => P (v :: r)) (k v) r (Nat.succ.inj h)
theorem vs3 {P : List Value → Prop} (k : ∀ v w u, P [v, w, u]) : ∀ vs : List Value, vs.length = 3 → P vs := fun vs h => by
  cases vs with
  | nil => cases h
  | cons v r => exact vs2 (P := fun r => P (v :: r)) (k v) r (Nat.succ.inj h)
end Mine

end
section
open PySem PySem.W PyProof.Rows
set_option maxRecDepth 100000
set_option linter.unusedVariables false
namespace Mine

section
variable {prog : Program} {w : World} {C C' : Cx} {s s₀ s₁ s' s'' : Shared} {ρ ρ₀ ρ₁ ρ' ρm : Locs} {M M₀ M₁ M' M'' : LMap} {G : Heap → Prop} {n : Nat}

theorem IE.mono {e : Expr} {Q Q' : (Expr → Prop) → (LMap → Prop) → List D → LMap → Prop} (h : IE prog w C ρ M e Q) (k : ∀ T Ok ds M, Q T Ok ds M → Q' T Ok ds M) : IE prog w C ρ M e Q' := fun s S =>
  wpAny_mono (h s S) (fun x s₁ h₁ => wpAny_mono h₁ (fun it s₂ h₂ => by
    refine hide fun uu kg => ?_
    obtain ⟨a, wr, T, Ok, St, Mid, ds, M', h1, h2, h3, h4, h5, h6, h7⟩ := h₂
    refine kg ?_
    exact ⟨a, wr, T, Ok, St, Mid, ds, M', h1, h2, h3, h4, h5, h6, k _ _ _ _ h7⟩) fun uu uu x => x) fun uu uu x => x
theorem Comp1L.mono {x : Str} {elt : Expr} {Ok : LMap → Prop} {Q Q' : List D → LMap → Prop} (k : ∀ acc M, Q acc M → Q' acc M) : ∀ {ds : List D} {acc : List D} {M : LMap}, Comp1L prog w C' ρm x elt Ok ds acc M Q → Comp1L prog w C' ρm x elt Ok ds acc M Q'
  | [], _, _, h => ⟨h.1, k _ _ h.2⟩
  | _ :: _, _, _, h => ⟨h.1, h.2.1, h.2.2.mono fun uu uu h' => Comp1L.mono k h'⟩

theorem drop_cons {α : Type} {l : List α} {i : Nat} {d : α} {rest : List α} (h : l.drop i = d :: rest) : l[i]? = some d ∧ l.drop (i + 1) = rest ∧ i < l.length := by
  have h1 : l[i]? = some d := by
    have := congrArg (·[0]?) h
    simpa using this
  refine ⟨h1, by rw [← List.drop_drop, h]; rfl, ?_⟩
  rcases Nat.lt_or_ge i l.length with h2 | h2
  · exact h2
  · (first | exact (nne (List.getElem?_eq_none h2) h1).elim | exact (dd (List.getElem?_eq_none h2) h1 rfl).elim | obtain rfl := some_inj (List.getElem?_eq_none h2) h1 | (rw [List.getElem?_eq_none h2] at h1; cases h1))
theorem drop_nil {α : Type} {l : List α} {i : Nat} (hi : i ≤ l.length) (h : l.drop i = []) : i = l.length := by
  have := congrArg List.length h
  simp at this
  omega

theorem comp1_ind {x : Str} {elt : Expr} {Ok : LMap → Prop} {Q : List D → LMap → Prop} (J : Nat → List D → LMap → Prop) {es : List D} {acc : List D} {M : LMap}
    (step : ∀ i e acc M, es[i]? = some e → i < es.length → J i acc M → Ok M ∧ acc.length ≤ sizeLine ∧ Ev prog w C' ((x, e) :: ρm) M elt fun y M' => J (i + 1) (acc ++ [y]) M')
    (fin : ∀ acc M, J es.length acc M → Ok M ∧ Q acc M) (h0 : J 0 acc M) : Comp1L prog w C' ρm x elt Ok es acc M Q := by
  have : ∀ (k i : Nat) acc M, i + k = es.length → J i acc M → Comp1L prog w C' ρm x elt Ok (es.drop i) acc M Q := by
    intro k
    induction k with
    | zero =>
      intro i acc M hi h
      have : i = es.length := by omega
      subst this
      rw [List.drop_length]
      exact fin acc M h
    | succ k ih =>
      intro i acc M hi h
      cases hd : es.drop i with
      | nil => have := drop_nil (by omega) hd; omega
      | cons d rest =>
        obtain ⟨h1, h2, h3⟩ := drop_cons hd
        obtain ⟨a1, a2, a3⟩ := step i d acc M h1 h3 h
        refine ⟨a1, a2, a3.mono fun y M' h' => ?_⟩
        rw [← h2]
        exact ih (i + 1) _ _ (by omega) h'
  simpa using this es.length 0 acc M (by omega) h0
theorem comp2_ind {xa xb x : Str} {px : Pos} {i2 elt : Expr} {Ok : LMap → Prop} {Q : List D → LMap → Prop} (J : Nat → List D → LMap → Prop) {es : List D} {acc : List D} {M : LMap}
    (step : ∀ i e acc M, es[i]? = some e → i < es.length → J i acc M → Ok M ∧ ∃ da db, e = .tup [da, db] ∧ IE prog w C' ((xb, db) :: (xa, da) :: ρ') M i2 fun T₂ Ok₂ fs M₂ => T₂ (.Name x px) ∧ Comp1L prog w C' ((xb, db) :: (xa, da) :: ρ') x elt Ok₂ fs acc M₂ fun acc' M₃ => J (i + 1) acc' M₃)
    (fin : ∀ acc M, J es.length acc M → Ok M ∧ Q acc M) (h0 : J 0 acc M) : Comp2L prog w C' ρ' xa xb x px i2 elt Ok es acc M Q := by
  have : ∀ (k i : Nat) acc M, i + k = es.length → J i acc M → Comp2L prog w C' ρ' xa xb x px i2 elt Ok (es.drop i) acc M Q := by
    intro k
    induction k with
    | zero =>
      intro i acc M hi h
      have : i = es.length := by omega
      subst this
      rw [List.drop_length]
      exact fin acc M h
    | succ k ih =>
      intro i acc M hi h
      cases hd : es.drop i with
      | nil => have := drop_nil (by omega) hd; omega
      | cons d rest =>
        obtain ⟨h1, h2, h3⟩ := drop_cons hd
        refine hide fun uu kg => ?_
        obtain ⟨a1, da, db, a2, a3⟩ := step i d acc M h1 h3 h
        refine kg ?_
        refine ⟨a1, da, db, a2, a3.mono fun T Ok₂ fs M' h' => ⟨h'.1, h'.2.mono fun acc' M₃ h'' => ?_⟩⟩
        rw [← h2]
        exact ih (i + 1) _ _ (by omega) h''
  simpa using this es.length 0 acc M (by omega) h0
theorem comp_ind {cenv : Env} {X : Array UInt8 → Prop} {x : Str} {elt : Expr} {Ok : LMap → Prop} {Q : List D → LMap → Prop} (J : Nat → List D → LMap → Prop) {es : List D} {acc : List D} {M : LMap}
    (step : ∀ i e acc M past, CxOk G (compCx C cenv past X) n → es[i]? = some e → i < es.length → J i acc M → Ev prog w (compCx C cenv past X) ((x, e) :: ρ') M elt fun y M' => J (i + 1) (acc ++ [y]) M')
    (ok : ∀ i acc M, J i acc M → Ok M) (fin : ∀ acc M, J es.length acc M → Q acc M) (h0 : J 0 acc M) : CompL prog w G n C cenv X ρ' x elt Ok es acc M Q := by
  have : ∀ (k i : Nat) acc M, i + k = es.length → J i acc M → CompL prog w G n C cenv X ρ' x elt Ok (es.drop i) acc M Q := by
    intro k
    induction k with
    | zero =>
      intro i acc M hi h
      have : i = es.length := by omega
      subst this
      rw [List.drop_length]
      exact ⟨ok _ _ _ h, fin acc M h⟩
    | succ k ih =>
      intro i acc M hi h
      cases hd : es.drop i with
      | nil => have := drop_nil (by omega) hd; omega
      | cons d rest =>
        obtain ⟨h1, h2, h3⟩ := drop_cons hd
        refine ⟨ok _ _ _ h, fun past Oc => (step i d acc M past Oc h1 h3 h).mono fun y M' h' => ?_⟩
        rw [← h2]
        exact ih (i + 1) _ _ (by omega) h'
  simpa using this es.length 0 acc M (by omega) h0
theorem As.mono {t : Expr} {d : D} {R R' : Locs → LMap → Prop} (h : As prog w C ρ M t d R) (k : ∀ ρ M, R ρ M → R' ρ M) : As prog w C ρ M t d R' := fun s v S r =>
  wpAny_mono (h s v S r) (fun uu uu ⟨ρ', M', a, b, c⟩ => ⟨ρ', M', a, b, k _ _ c⟩) fun uu uu x => x
theorem Ss.mono {ss : List Stmt} {Q Q' : Option D → Locs → LMap → Prop} (h : Ss prog w C ρ M ss Q) (k : ∀ o ρ M, Q o ρ M → Q' o ρ M) : Ss prog w C ρ M ss Q' := fun s S =>
  wpAny_mono (h s S) (fun f uu P => by
    refine hide fun uu kg => ?_
    obtain ⟨ρ', M', a, b, c⟩ := P
    refine kg ?_
    refine ⟨ρ', M', a, b, ?_⟩
    cases f with
    | next => exact k _ _ _ c
    | ret v => obtain ⟨d, r, c⟩ := c; exact ⟨d, r, k _ _ _ c⟩
    | brk => exact c
    | cont => exact c) fun uu uu x => x
theorem for_ind {t : Expr} {body : List Stmt} {Ok : LMap → Prop} {Q : Option D → Locs → LMap → Prop} (J : Nat → Locs → LMap → Prop) {es : List D} {ρ : Locs} {M : LMap}
    (step : ∀ i e ρ M, es[i]? = some e → i < es.length → J i ρ M → As prog w C ρ M t e fun ρ₁ M₁ => Ss prog w C ρ₁ M₁ body fun o ρ₂ M₂ => match o with | some r => Q (some r) ρ₂ M₂ | .none => J (i + 1) ρ₂ M₂)
    (ok : ∀ i ρ M, J i ρ M → Ok M) (fin : ∀ ρ M, J es.length ρ M → Q .none ρ M) (h0 : J 0 ρ M) : ForL prog w C t body Ok es ρ M Q := by
  have : ∀ (k i : Nat) ρ M, i + k = es.length → J i ρ M → ForL prog w C t body Ok (es.drop i) ρ M Q := by
    intro k
    induction k with
    | zero =>
      intro i ρ M hi h
      have : i = es.length := by omega
      subst this
      rw [List.drop_length]
      exact ⟨ok _ _ _ h, fin ρ M h⟩
    | succ k ih =>
      intro i ρ M hi h
      cases hd : es.drop i with
      | nil => have := drop_nil (by omega) hd; omega
      | cons d rest =>
        obtain ⟨h1, h2, h3⟩ := drop_cons hd
        refine ⟨ok _ _ _ h, (step i d ρ M h1 h3 h).mono fun ρ₁ M₁ hB => hB.mono fun o ρ₂ M₂ h' => ?_⟩
        cases o with
        | some r => exact h'
        | none => rw [← h2]; exact ih (i + 1) _ _ (by omega) h'
  simpa using this es.length 0 ρ M (by omega) h0
end
end Mine

end
section
open PySem PySem.W PyProof.Rows
set_option maxRecDepth 100000
set_option linter.unusedVariables false
namespace Mine

section
variable {prog : Program} {w : World} {A : Around} {E : Value → Shared → Prop} {s : Shared}

/-- an iterator's bare step -/
structure Nx (prog : Program) (w : World) (A : Around) (it : Addr) (fp : List Addr) (vs : List Value) (St : Nat → Heap → Prop) : Prop where
  item : ∀ i v (s : Shared) (Q : Value → Shared → Prop) (E : Value → Shared → Prop), vs[i]? = some v → St i s.heap → (∀ h', St (i + 1) h' → Heap.SameBut it s.heap h' → Q v { s with heap := h' }) → wpAny (model prog w) A (Builtin.SmallTypes.nextOf (.ref it)) Q E s
  stop : ∀ (s : Shared) (Q : Value → Shared → Prop) (E : Value → Shared → Prop), St vs.length s.heap → (∀ h' e, Heap.ExtBut it s.heap h' → (∃ o, h'.get? e = some o ∧ o.cls = .type "StopIteration") → E (.ref e) { s with heap := h' }) → wpAny (model prog w) A (Builtin.SmallTypes.nextOf (.ref it)) Q E s
  keep : ∀ i h h', St i h → (∀ b ∈ fp, ∀ o, h.get? b = some o → h'.get? b = some o) → St i h'

theorem nx_tup (hh : A.handled = none) (it t : Addr) (vs : List Value) (hne : t ≠ it) : Nx prog w A it [it, t] vs (fun i h => h.IsTupleIter it t i ∧ IsTp h t vs.toArray) where
  item := fun i v s Q E hv x hQ => by
    obtain ⟨hit, n, ht⟩ := x
    refine hide fun uu kg => ?_
    obtain ⟨o, ho, hc, hd⟩ := id hit
    refine kg ?_
    unfold Builtin.SmallTypes.nextOf
    refine wpAny_bind (wpAny_callSpecial?_slot (name := Str.ofString "__next__") hit.typeIs F.slot_tuple_iterator_next
      (wpAny_call_entry F.slot_tuple_iterator_next hit.typeIs F.entry_tuple_iterator_next ?_ (F.args_tuple_iterator_next_1 _)))
    show wpAny _ _ (field (.ref it) 0 >>= _) _ _ s
    refine wpAny_bind (wpAny_field ho hd (x := .ref t) rfl ?_)
    show wpAny _ _ (if (Value.ref t == Value.none) = true then _ else _) _ _ s
    refine wp_ff (show ¬ ((Value.ref t == Value.none) = true) from Bool.false_ne_true) ?_
    show wpAny _ _ (field (.ref it) 1 >>= _) _ _ s
    refine wpAny_bind (wpAny_field ho hd (x := .int i 0) rfl ?_)
    show wpAny _ _ (seqItems? (.ref t) >>= _) _ _ s
    refine wpAny_bind (wpAny_seqItems ht rfl ?_)
    have hv' : vs.toArray[i]? = some v := by simpa using hv
    simp only [Int.toNat_natCast, hv']
    refine wpAny_bind (wpAny_setField ho hd (by simp) (wpAny_pure ⟨v, rfl, wpAny_pure (hQ _ ⟨?_, n, ?_⟩ (Heap.SameBut.update ..))⟩))
    · exact ⟨_, Heap.get?_update_self _ ho (Obj.isFreed_of_fields (Obj.data_mapFields hd _)), (Obj.cls_mapFields ..).trans hc, by
        rw [Obj.data_mapFields hd]; simp [rawInt]⟩
    · exact (Heap.get?_update_other _ _ hne.symm).trans ht
  stop := fun s Q E x hE => by
    obtain ⟨hit, n, ht⟩ := x
    refine hide fun uu kg => ?_
    obtain ⟨o, ho, hc, hd⟩ := id hit
    refine kg ?_
    unfold Builtin.SmallTypes.nextOf
    refine wpAny_bind (wpAny_callSpecial?_slot (name := Str.ofString "__next__") hit.typeIs F.slot_tuple_iterator_next
      (wpAny_call_entry F.slot_tuple_iterator_next hit.typeIs F.entry_tuple_iterator_next ?_ (F.args_tuple_iterator_next_1 _)))
    show wpAny _ _ (field (.ref it) 0 >>= _) _ _ s
    refine wpAny_bind (wpAny_field ho hd (x := .ref t) rfl ?_)
    show wpAny _ _ (if (Value.ref t == Value.none) = true then _ else _) _ _ s
    refine wp_ff (show ¬ ((Value.ref t == Value.none) = true) from Bool.false_ne_true) ?_
    show wpAny _ _ (field (.ref it) 1 >>= _) _ _ s
    refine wpAny_bind (wpAny_field ho hd (x := .int vs.length 0) rfl ?_)
    show wpAny _ _ (seqItems? (.ref t) >>= _) _ _ s
    refine wpAny_bind (wpAny_seqItems ht rfl ?_)
    have hv' : vs.toArray[vs.length]? = none := by simp
    simp only [Int.toNat_natCast, hv']
    refine wpAny_bind (wpAny_rule (wpAny_bind (wpAny_setField ho hd (by simp) ?_)))
    show wpAny _ _ (newExc (.type "StopIteration") [] >>= _) _ _ _
    refine wpAny_bind ?_
    simp only [newExc, newTuple]
    refine wpAny_bind (wpAny_newObj_type ?_ (by size_fits))
    refine wpAny_bind (m := firstArgMember _ _) (wpAny_of_eq (a := Value.none) (by first | rfl | (simp only [firstArgMember]; rfl)) ?_)
    refine wpAny_newObj_type ?_ (by size_fits)
    simp only [raiseNew]
    refine wpAny_bind (wpAny_handled ?_)
    first | rw [show A.in1.handled = none from hh] | rw [hh]
    refine wpAny_bind (wpAny_pure (wpAny_throw ?_))
    exact hE _ _ (((Heap.SameBut.update ..).extBut.push _).push _) ⟨_, Heap.get?_push_size _ rfl, rfl⟩
  keep := fun i h h' x k => by
    refine hide fun uu kg => ?_
    obtain ⟨⟨o, ho, hc, hd⟩, n, ht⟩ := x
    refine kg ?_
    exact ⟨⟨o, k it (by simp) o ho, hc, hd⟩, n, k t (by simp) _ ht⟩

/-- the records of a zip of two: apart from one another and from what is read -/
structure ZNe (z TI TO i1 i2 : Addr) (f1 f2 : List Addr) : Prop where
  TIz : TI ≠ z
  TOz : TO ≠ z
  i1z : i1 ≠ z
  i2z : i2 ≠ z
  TITO : TI ≠ TO
  TIi1 : TI ≠ i1
  TIi2 : TI ≠ i2
  TOi1 : TO ≠ i1
  TOi2 : TO ≠ i2
  i12 : i1 ≠ i2
  f1z : z ∉ f1
  f1TO : TO ∉ f1
  f1i2 : i2 ∉ f1
  f2z : z ∉ f2
  f2TO : TO ∉ f2
  f2i1 : i1 ∉ f2

theorem Nx.but {it : Addr} {fp : List Addr} {vs : List Value} {St : Nat → Heap → Prop} (N : Nx prog w A it fp vs St) {i : Nat} {h h' : Heap} {a : Addr} (x : St i h) (hs : Heap.SameBut a h h') (ha : a ∉ fp) : St i h' := N.keep i h h' x fun b hb o e => (hs.2 b fun q => ha (q ▸ hb)).trans e

theorem zipT_item {z TI TO i1 i2 : Addr} {f1 f2 : List Addr} {xs ys : List Value} {St1 St2 : Nat → Heap → Prop} {i : Nat} {x y : Value} {Q : Value → Shared → Prop} (D : ZNe z TI TO i1 i2 f1 f2) (N1 : Nx prog w A i1 f1 xs St1) (N2 : Nx prog w A i2 f2 ys St2)
    (hz : IsZip s.heap z TI TO .none) (hTI : IsPair s.heap TI (.ref i1) (.ref i2)) {a b : Value} (hTO : IsPair s.heap TO a b) (h1 : St1 i s.heap) (h2 : St2 i s.heap) (hx : xs[i]? = some x) (hy : ys[i]? = some y)
    (hQ : ∀ h', IsZip h' z TI TO (rawInt s.heap.objs.size) → IsPair h' TO x y → St1 (i + 1) h' → St2 (i + 1) h' → IsPair h' s.heap.objs.size x y → (∀ c o, c ≠ z → c ≠ TO → c ≠ i1 → c ≠ i2 → s.heap.get? c = some o → h'.get? c = some o) → Q (.ref s.heap.objs.size) { s with heap := h' }) :
    wpAny (model prog w) A (Builtin.«zip.__next__» ⟨[.ref z], []⟩) (fun fin s' => ∃ v, fin = .done (.ret v) ∧ Q v s') E s := by
  show wpAny _ _ (field (.ref z) 2 >>= _) _ _ _
  refine wpAny_bind (wpAny_field hz rfl (x := .bool false) rfl ?_)
  show wpAny _ _ (field (.ref z) 3 >>= _) _ _ _
  refine wpAny_bind (wpAny_field hz rfl (x := .ref TI) rfl ?_)
  refine wpAny_bind (wpAny_seqItems hTI rfl ?_)
  show wpAny _ _ (Builtin.SmallTypes.ownedTupleIsFree (.ref z) >>= _) _ _ _
  refine wpAny_bind ?_
  unfold Builtin.SmallTypes.ownedTupleIsFree
  refine wpAny_bind (wpAny_field hz rfl (x := .none) rfl (wpAny_pure ?_))
  simp only [if_true]
  refine wpAny_bind (wpAny_rule ?_)
  refine wpAny_bind (wpAny_field hz rfl (x := .ref TO) rfl ?_)
  refine wpAny_bind (wpAny_setField_rec hz (by simp) fun g1 hz1 s1 => ?_)
  refine wpAny_bind ?_
  simp only [List.zipIdx_cons, List.zipIdx_nil, List.forIn_cons, List.forIn_nil]
  have a1 : St1 i g1 := N1.but h1 s1 D.f1z
  have a2 : St2 i g1 := N2.but h2 s1 D.f2z
  refine wpAny_bind (wpAny_bind (wpAny_onRaise ?_))
  show wpAny _ _ (Builtin.SmallTypes.nextOf (.ref i1) >>= _) _ _ _
  refine wpAny_bind (N1.item i x _ _ _ hx a1 fun g2 a3 s2 => wpAny_pure ?_)
  have b2 : St2 i g2 := N2.but a2 s2 D.f2i1
  have hTO2 : IsPair g2 TO a b := (s2.2 TO D.TOi1).trans ((s1.2 TO D.TOz).trans hTO)
  refine wpAny_bind (wpAny_seqItems hTO2 rfl ?_)
  refine wpAny_bind (wpAny_updateSeq_pair hTO2 fun g3 hTO3 s3 => ?_)
  have hTO3' : IsPair g3 TO x b := hTO3
  refine wpAny_bind (wpAny_letGo (wpAny_pure ?_))
  have c1 : St1 (i + 1) g3 := N1.but a3 s3 D.f1TO
  have c2 : St2 i g3 := N2.but b2 s3 D.f2TO
  refine wpAny_bind (wpAny_bind (wpAny_onRaise ?_))
  show wpAny _ _ (Builtin.SmallTypes.nextOf (.ref i2) >>= _) _ _ _
  refine wpAny_bind (N2.item i y _ _ _ hy c2 fun g4 d2 s4 => wpAny_pure ?_)
  have d1 : St1 (i + 1) g4 := N1.but c1 s4 D.f1i2
  have hTO4 : IsPair g4 TO x b := (s4.2 TO D.TOi2).trans hTO3'
  refine wpAny_bind (wpAny_seqItems hTO4 rfl ?_)
  refine wpAny_bind (wpAny_updateSeq_pair hTO4 fun g5 hTO5 s5 => ?_)
  have hTO5' : IsPair g5 TO x y := hTO5
  refine wpAny_bind (wpAny_letGo (wpAny_pure (wpAny_pure ?_)))
  have e1 : St1 (i + 1) g5 := N1.but d1 s5 D.f1TO
  have e2 : St2 (i + 1) g5 := N2.but d2 s5 D.f2TO
  refine wpAny_bind (wpAny_seqItems hTO5' rfl ?_)
  refine wpAny_bind (wpAny_newTuple ?_)
  have hsz : g5.objs.size = s.heap.objs.size := by rw [s5.1, s4.1, s3.1, s2.1, s1.1]
  have hk5 : ∀ c o, c ≠ z → c ≠ TO → c ≠ i1 → c ≠ i2 → s.heap.get? c = some o → g5.get? c = some o := fun c o n1 n2 n3 n4 e => (s5.2 c n2).trans ((s4.2 c n4).trans ((s3.2 c n2).trans ((s2.2 c n3).trans ((s1.2 c n1).trans e))))
  have hz5 : IsZip g5 z TI TO .ellipsis := (s5.2 z D.TOz.symm).trans ((s4.2 z D.i2z.symm).trans ((s3.2 z D.TOz.symm).trans ((s2.2 z D.i1z.symm).trans hz1)))
  show wpAny _ _ (Builtin.SmallTypes.ownedTupleHandOut (.ref z) (.ref g5.objs.size) >>= _) _ _ _
  refine wpAny_bind ?_
  unfold Builtin.SmallTypes.ownedTupleHandOut
  have hz6 : IsZip (g5.push { cls := .type "tuple", data := .seq #[x, y] }) z TI TO .ellipsis := Heap.get?_push_of_some _ hz5
  refine wpAny_bind (wpAny_setField_rec hz6 (by simp) fun g7 hz7 s7 => ?_)
  have hz7' : IsZip g7 z TI TO (rawInt g5.objs.size) := hz7
  refine wpAny_setField_rec hz7' (by simp) fun g8 hz8 s8 => ?_
  have hz8' : IsZip g8 z TI TO (rawInt g5.objs.size) := hz8
  have up : ∀ c o, c ≠ z → g5.get? c = some o → g8.get? c = some o := fun c o n e => (s8.2 c n).trans ((s7.2 c n).trans (Heap.get?_push_of_some _ e))
  have hT8 : IsPair g8 g5.objs.size x y := (s8.2 _ (Nat.ne_of_gt (Heap.lt_size hz5))).trans ((s7.2 _ (Nat.ne_of_gt (Heap.lt_size hz5))).trans (Heap.get?_push_size _ rfl))
  refine wpAny_pure ⟨_, rfl, ?_⟩
  rw [hsz] at hz8' hT8
  show Q (.ref g5.objs.size) _
  rw [hsz]
  exact hQ g8 hz8' (up _ _ D.TOz hTO5') (N1.keep _ _ _ e1 fun b hb o e => up b o (fun q => D.f1z (q ▸ hb)) e) (N2.keep _ _ _ e2 fun b hb o e => up b o (fun q => D.f2z (q ▸ hb)) e) hT8 fun c o n1 n2 n3 n4 e => up c o n1 (hk5 c o n1 n2 n3 n4 e)

theorem zipT_end {z TI TO i1 i2 : Addr} {f1 f2 : List Addr} {xs ys : List Value} {St1 St2 : Nat → Heap → Prop} {i : Nat} {Q : Fin → Shared → Prop} (D : ZNe z TI TO i1 i2 f1 f2) (N1 : Nx prog w A i1 f1 xs St1) (N2 : Nx prog w A i2 f2 ys St2)
    (hz : IsZip s.heap z TI TO .none) (hTI : IsPair s.heap TI (.ref i1) (.ref i2)) {a b : Value} (hTO : IsPair s.heap TO a b) (h1 : St1 i s.heap) (h2 : St2 i s.heap) (hend : i = xs.length ∨ (i < xs.length ∧ i = ys.length))
    (hE : ∀ h' e, (∀ c o, c ≠ z → c ≠ TO → c ≠ i1 → c ≠ i2 → s.heap.get? c = some o → h'.get? c = some o) → (∃ o, h'.get? e = some o ∧ o.cls = .type "StopIteration") → E (.ref e) { s with heap := h' }) :
    wpAny (model prog w) A (Builtin.«zip.__next__» ⟨[.ref z], []⟩) Q E s := by
  show wpAny _ _ (field (.ref z) 2 >>= _) _ _ _
  refine wpAny_bind (wpAny_field hz rfl (x := .bool false) rfl ?_)
  show wpAny _ _ (field (.ref z) 3 >>= _) _ _ _
  refine wpAny_bind (wpAny_field hz rfl (x := .ref TI) rfl ?_)
  refine wpAny_bind (wpAny_seqItems hTI rfl ?_)
  show wpAny _ _ (Builtin.SmallTypes.ownedTupleIsFree (.ref z) >>= _) _ _ _
  refine wpAny_bind ?_
  unfold Builtin.SmallTypes.ownedTupleIsFree
  refine wpAny_bind (wpAny_field hz rfl (x := .none) rfl (wpAny_pure ?_))
  simp only [if_true]
  refine wpAny_bind (wpAny_rule ?_)
  refine wpAny_bind (wpAny_field hz rfl (x := .ref TO) rfl ?_)
  refine wpAny_bind (wpAny_setField_rec hz (by simp) fun g1 hz1 s1 => ?_)
  have hz1' : IsZip g1 z TI TO .ellipsis := hz1
  refine wpAny_bind ?_
  simp only [List.zipIdx_cons, List.zipIdx_nil, List.forIn_cons, List.forIn_nil]
  have a1 : St1 i g1 := N1.but h1 s1 D.f1z
  have a2 : St2 i g1 := N2.but h2 s1 D.f2z
  refine wpAny_bind (wpAny_bind (wpAny_onRaise ?_))
  show wpAny _ _ (Builtin.SmallTypes.nextOf (.ref i1) >>= _) _ _ _
  rcases hend with rfl | ⟨hlt, hend⟩
  · refine wpAny_bind (N1.stop _ _ _ a1 fun g2 e s2 he => ?_)
    obtain ⟨oe, hoe, hce⟩ := he
    have hz2 : IsZip g2 z TI TO .ellipsis := s2 _ _ D.i1z.symm hz1'
    have hez : e ≠ z := fun x => by subst x; (first | exact (nne hz2 hoe).elim | exact (dd hz2 hoe rfl).elim | obtain rfl := some_inj hz2 hoe | (rw [hz2] at hoe; cases hoe)); simp at hce
    refine wpAny_setField_rec hz2 (by simp) fun g3 uu s3 => hE g3 e (fun c o n1 uu n3 uu x => (s3.2 c n1).trans (s2 c o n3 ((s1.2 c n1).trans x))) ⟨oe, (s3.2 e hez).trans hoe, hce⟩
  · refine wpAny_bind (N1.item i _ _ _ _ (List.getElem?_eq_getElem hlt) a1 fun g2 a3 s2 => wpAny_pure ?_)
    have b2 : St2 i g2 := N2.but a2 s2 D.f2i1
    have hTO2 : IsPair g2 TO a b := (s2.2 TO D.TOi1).trans ((s1.2 TO D.TOz).trans hTO)
    refine wpAny_bind (wpAny_seqItems hTO2 rfl ?_)
    refine wpAny_bind (wpAny_updateSeq_pair hTO2 fun g3 hTO3 s3 => ?_)
    refine wpAny_bind (wpAny_letGo (wpAny_pure ?_))
    have c2 : St2 i g3 := N2.but b2 s3 D.f2TO
    refine wpAny_bind (wpAny_bind (wpAny_onRaise ?_))
    show wpAny _ _ (Builtin.SmallTypes.nextOf (.ref i2) >>= _) _ _ _
    subst hend
    refine wpAny_bind (N2.stop _ _ _ c2 fun g4 e s4 he => ?_)
    obtain ⟨oe, hoe, hce⟩ := he
    have hz4 : IsZip g4 z TI TO .ellipsis := s4 _ _ D.i2z.symm ((s3.2 z D.TOz.symm).trans ((s2.2 z D.i1z.symm).trans hz1'))
    have hez : e ≠ z := fun x => by subst x; (first | exact (nne hz4 hoe).elim | exact (dd hz4 hoe rfl).elim | obtain rfl := some_inj hz4 hoe | (rw [hz4] at hoe; cases hoe)); simp at hce
    refine wpAny_setField_rec hz4 (by simp) fun g5 uu s5 => hE g5 e (fun c o n1 n2 n3 n4 x => (s5.2 c n1).trans (s4 c o n4 ((s3.2 c n2).trans ((s2.2 c n3).trans ((s1.2 c n1).trans x))))) ⟨oe, (s5.2 e hez).trans hoe, hce⟩

theorem zipT_next {z TI TO i1 i2 : Addr} {f1 f2 : List Addr} {xs ys : List Value} {St1 St2 : Nat → Heap → Prop} {i : Nat} {x y : Value} {Q : Option Value → Shared → Prop} (D : ZNe z TI TO i1 i2 f1 f2) (N1 : Nx prog w A.in1 i1 f1 xs St1) (N2 : Nx prog w A.in1 i2 f2 ys St2)
    (hz : IsZip s.heap z TI TO .none) (hTI : IsPair s.heap TI (.ref i1) (.ref i2)) {a b : Value} (hTO : IsPair s.heap TO a b) (h1 : St1 i s.heap) (h2 : St2 i s.heap) (hx : xs[i]? = some x) (hy : ys[i]? = some y)
    (hQ : ∀ h', IsZip h' z TI TO (rawInt s.heap.objs.size) → IsPair h' TO x y → St1 (i + 1) h' → St2 (i + 1) h' → IsPair h' s.heap.objs.size x y → (∀ c o, c ≠ z → c ≠ TO → c ≠ i1 → c ≠ i2 → s.heap.get? c = some o → h'.get? c = some o) → Q (some (.ref s.heap.objs.size)) { s with heap := h' }) :
    wpAny (model prog w) A (pyNext (.ref z)) Q E s := by
  have hT : s.TypeIs (.ref z) "zip" := ⟨_, hz, rfl⟩
  unfold pyNext
  exact wpAny_bind (wpAny_attempt (wpAny_callSpecial?_slot (name := Str.ofString "__next__") hT F.slot_zip_next
    (wpAny_call_entry F.slot_zip_next hT F.entry_zip_next (zipT_item D N1 N2 hz hTI hTO h1 h2 hx hy fun h' a1 a2 a3 a4 a5 a6 => wpAny_pure (hQ h' a1 a2 a3 a4 a5 a6)) (F.args_zip_next_1 _))))
theorem zipT_last {z TI TO i1 i2 : Addr} {f1 f2 : List Addr} {xs ys : List Value} {St1 St2 : Nat → Heap → Prop} {i : Nat} {Q : Option Value → Shared → Prop} (D : ZNe z TI TO i1 i2 f1 f2) (N1 : Nx prog w A.in1 i1 f1 xs St1) (N2 : Nx prog w A.in1 i2 f2 ys St2)
    (hz : IsZip s.heap z TI TO .none) (hTI : IsPair s.heap TI (.ref i1) (.ref i2)) {a b : Value} (hTO : IsPair s.heap TO a b) (h1 : St1 i s.heap) (h2 : St2 i s.heap) (hend : i = xs.length ∨ (i < xs.length ∧ i = ys.length))
    (hQ : ∀ h', (∀ c o, c ≠ z → c ≠ TO → c ≠ i1 → c ≠ i2 → s.heap.get? c = some o → h'.get? c = some o) → Q none { s with heap := h' }) : wpAny (model prog w) A (pyNext (.ref z)) Q E s := by
  have hT : s.TypeIs (.ref z) "zip" := ⟨_, hz, rfl⟩
  unfold pyNext
  refine wpAny_bind (wpAny_attempt (wpAny_callSpecial?_slot (name := Str.ofString "__next__") hT F.slot_zip_next
    (wpAny_call_entry F.slot_zip_next hT F.entry_zip_next (zipT_end D N1 N2 hz hTI hTO h1 h2 hend fun h' e hk he => ?_) (F.args_zip_next_1 _))))
  obtain ⟨o, ho, hc⟩ := he
  refine wpAny_bind (wpAny_isInstance (T := "StopIteration") (b := true) ⟨o, ho, hc⟩ isSubtype_stop ?_)
  exact wpAny_pure (hQ _ hk)
theorem Heap.tupPush {h : Heap} {t : Addr} {xs : Array Value} (x : h.IsTuple t xs) (o : Obj) : (h.push o).IsTuple t xs := let ⟨o', e, r⟩ := x; ⟨o', Heap.get?_push_of_some _ e, r⟩

noncomputable abbrev zh1 (h : Heap) (t1 : Addr) : Heap := h.push { cls := .type "tuple_iterator", data := .fields #[.ref t1, .int 0 0] }
noncomputable abbrev zh2 (h : Heap) (t1 t2 : Addr) : Heap := (zh1 h t1).push { cls := .type "tuple_iterator", data := .fields #[.ref t2, .int 0 0] }
noncomputable abbrev zh3 (h : Heap) (t1 t2 : Addr) : Heap := (zh2 h t1 t2).push { cls := .type "tuple", data := .seq #[.ref h.objs.size, .ref (zh1 h t1).objs.size] }
noncomputable abbrev zh4 (h : Heap) (t1 t2 : Addr) : Heap := (zh3 h t1 t2).push { cls := .type "tuple", data := .seq #[.none, .none] }
noncomputable abbrev zh5 (h : Heap) (t1 t2 : Addr) : Heap := (zh4 h t1 t2).push { cls := .type "zip", data := .fields #[.none, .bool false, .bool false, .ref (zh2 h t1 t2).objs.size, .ref (zh3 h t1 t2).objs.size] }
theorem zipT_new (t1 t2 : Addr) (xs ys : Array Value) :
    Meets (Builtin.«zip.__new__» ⟨[.type "zip", .ref t1, .ref t2], []⟩) (fun uu R s => s.heap.IsTuple t1 xs ∧ s.heap.IsTuple t2 ys ∧
      R (.ok (.ret (.ref (zh4 s.heap t1 t2).objs.size))) { s with heap := zh5 s.heap t1 t2 }) :=
  .of_wp fun prog w A R s h => by
    obtain ⟨hp, g, d, tk, os⟩ := s; obtain ⟨hl1, hl2, h⟩ := h
    have hsub := sub_zip
    have hL1 : Heap.IsTuple (Shared.heap ⟨hp, g, d, tk, os⟩) t1 xs := hl1
    have hL2 : Heap.IsTuple (Shared.heap ⟨hp.push { cls := .type "tuple_iterator", data := .fields #[.ref t1, .int 0 0] }, g, d, tk, os⟩) t2 ys := Heap.IsTuple.push hl2 _
    wp_walk using wpAny_pyIter_tuple hL1, wpAny_pyIter_tuple hL2
    exact ⟨_, rfl, h⟩
/-- zip over two tuples is made -/
theorem call_zipT {t1 t2 : Addr} {xs ys : List Value} {Q : Value → Shared → Prop} (h1 : IsTp s.heap t1 xs.toArray) (h2 : IsTp s.heap t2 ys.toArray)
    (h : ∀ h' z TI TO i1 i2, ZNe z TI TO i1 i2 [i1, t1] [i2, t2] → (∀ b ∈ [z, TI, TO, i1, i2], s.heap.get? b = none) → IsZip h' z TI TO .none → IsPair h' TI (.ref i1) (.ref i2) → IsPair h' TO .none .none → h'.IsTupleIter i1 t1 0 → h'.IsTupleIter i2 t2 0 →
      (∀ c o, s.heap.get? c = some o → h'.get? c = some o) → Q (.ref z) { s with heap := h' }) :
    wpAny (model prog w) A (call (.type "zip") [.ref t1, .ref t2]) Q E s := by
  refine callType_new F.called_zip (by decide) (F.typeCall_zip_2 _ _) (F.newCall_zip_2 _ _) (fun obj => F.args_object_init_3 obj _ _) F.entry_zip_new
    (zipT_new t1 t2 xs.toArray ys.toArray) ⟨h1.tuple, h2.tuple, ?_⟩
  have l1 : t1 < s.heap.objs.size := by obtain ⟨n, e⟩ := h1; exact Heap.lt_size e
  have l2 : t2 < s.heap.objs.size := by obtain ⟨n, e⟩ := h2; exact Heap.lt_size e
  have z1 : (zh1 s.heap t1).objs.size = s.heap.objs.size + 1 := Heap.size_push ..
  have z2 : (zh2 s.heap t1 t2).objs.size = s.heap.objs.size + 2 := by rw [Heap.size_push, z1]
  have z3 : (zh3 s.heap t1 t2).objs.size = s.heap.objs.size + 3 := by rw [Heap.size_push, z2]
  have z4 : (zh4 s.heap t1 t2).objs.size = s.heap.objs.size + 4 := by rw [Heap.size_push, z3]
  have g5 : (zh5 s.heap t1 t2).get? (zh4 s.heap t1 t2).objs.size = some _ := Heap.get?_push_size _ rfl
  have g4 : (zh5 s.heap t1 t2).get? (zh3 s.heap t1 t2).objs.size = some _ := Heap.get?_push_of_some _ (Heap.get?_push_size _ rfl)
  have g3 : (zh5 s.heap t1 t2).get? (zh2 s.heap t1 t2).objs.size = some _ := Heap.get?_push_of_some _ (Heap.get?_push_of_some _ (Heap.get?_push_size _ rfl))
  have g2 : (zh5 s.heap t1 t2).get? (zh1 s.heap t1).objs.size = some _ := Heap.get?_push_of_some _ (Heap.get?_push_of_some _ (Heap.get?_push_of_some _ (Heap.get?_push_size _ rfl)))
  have g1 : (zh5 s.heap t1 t2).get? s.heap.objs.size = some _ := Heap.get?_push_of_some _ (Heap.get?_push_of_some _ (Heap.get?_push_of_some _ (Heap.get?_push_of_some _ (Heap.get?_push_size _ rfl))))
  show _ ∧ _
  rw [z2, z3, z4] at g5
  rw [z1, z2] at g3
  rw [z3] at g4
  rw [z1] at g2
  rw [z4]
  have fresh : ∀ b : Nat, s.heap.objs.size ≤ b → s.heap.get? b = none := fun b hb => by
    exact none_of fun o e => by exact absurd (Heap.lt_size e) (Nat.not_lt.mpr hb)
  have up : ∀ c o, s.heap.get? c = some o → (zh5 s.heap t1 t2).get? c = some o := fun c o x => Heap.get?_push_of_some _ (Heap.get?_push_of_some _ (Heap.get?_push_of_some _ (Heap.get?_push_of_some _ (Heap.get?_push_of_some _ x))))
  have lt : ∀ a b : Nat, a < b → (a : Addr) ≠ b := fun a b h => Nat.ne_of_lt h
  have gt : ∀ a b : Nat, b < a → (a : Addr) ≠ b := fun a b h => Nat.ne_of_gt h
  have nm : ∀ a b c : Nat, (a : Addr) ≠ b → (a : Addr) ≠ c → a ∉ ([b, c] : List Addr) := fun a b c h1 h2 q => by
    rcases List.mem_cons.mp q with q | q
    · exact h1 q
    · exact h2 (List.mem_singleton.mp q)
  refine ⟨⟨_, g5, rfl⟩, h _ _ _ _ _ _ ⟨lt _ _ (by omega), lt _ _ (by omega), lt _ _ (by omega), lt _ _ (by omega), lt _ _ (by omega), gt _ _ (by omega), gt _ _ (by omega), gt _ _ (by omega), gt _ _ (by omega), lt _ _ (by omega),
    nm _ _ _ (gt _ _ (by omega)) (gt _ _ (Nat.lt_of_lt_of_le l1 (by omega))), nm _ _ _ (gt _ _ (by omega)) (gt _ _ (Nat.lt_of_lt_of_le l1 (by omega))), nm _ _ _ (gt _ _ (by omega)) (gt _ _ (Nat.lt_of_lt_of_le l1 (by omega))),
    nm _ _ _ (gt _ _ (by omega)) (gt _ _ (Nat.lt_of_lt_of_le l2 (by omega))), nm _ _ _ (gt _ _ (by omega)) (gt _ _ (Nat.lt_of_lt_of_le l2 (by omega))), nm _ _ _ (lt _ _ (by omega)) (gt _ _ l2)⟩ (fun b hb => ?_) g5 g3 g4 ⟨_, g1, rfl, rfl⟩ ⟨_, g2, rfl, rfl⟩ up⟩
  rcases List.mem_cons.mp hb with rfl | hb
  · exact fresh _ (by omega)
  rcases List.mem_cons.mp hb with rfl | hb
  · exact fresh _ (by omega)
  rcases List.mem_cons.mp hb with rfl | hb
  · exact fresh _ (by omega)
  rcases List.mem_cons.mp hb with rfl | hb
  · exact fresh _ (Nat.le_refl _)
  · rw [List.mem_singleton.mp hb]; exact fresh _ (by omega)
end
end Mine

end
section
open PySem PySem.W PyProof.Rows
set_option maxRecDepth 100000
set_option linter.unusedVariables false
namespace Mine
noncomputable abbrev noM : LMap := fun uu => .none

section
variable {prog : Program} {w : World} {C : Cx} {s s₀ s₁ s' s'' : Shared} {ρ ρ₀ ρ₁ ρ' : Locs} {M M₀ M₁ M' M'' : LMap} {G : Heap → Prop} {n : Nat}

theorem lists_noM {base h : Heap} : Lists base h noM := fun a ds e => nomatch e
theorem Step.toNo {own : List Addr} {stk : List Env} (T : Step own stk s M s' M') : Step own stk s M s' noM := T.sub fun uu uu e => nomatch e
theorem Step.exact {stk : List Env} {base : Heap} (T : Step [] stk s noM s' M') (F : FrOk base stk s.heap) {b : Addr} {o : Obj} (e : s.heap.get? b = some o) (hd : ∀ es n, o.data ≠ .dict es n) : s'.heap.get? b = some o := by
  obtain ⟨sl, e', q⟩ := T.keep b o e rfl (fun z => nomatch z)
  rw [q (F.notSeq e hd)] at e'
  exact e'
theorem Sit.noNames (S : Sit C s ρ M) : Sit C s [] noM := ⟨S.stays, S.frames, lists_noM, S.own, S.ns, S.cells, S.inj, fun uu uu e => (nomatch e), S.past, S.like, S.tab⟩
/-- records, tuples that no one knows -/
noncomputable def Thin (wr : List Addr) (h : Heap) : Prop := ∀ b ∈ wr, ∃ o, h.get? b = some o ∧ ((∃ vs, o.data = .fields vs) ∨ ∃ vs n, o.data = .seq vs n)
theorem Thin.not {wr : List Addr} {h : Heap} (W : Thin wr h) {b : Addr} {o : Obj} (e : h.get? b = some o) (h1 : ∀ vs, o.data ≠ .fields vs) (h2 : ∀ vs n, o.data ≠ .seq vs n) : b ∉ wr := fun q => by
  obtain ⟨o', e', hd⟩ := W b q
  (first | exact (nne e e').elim | exact (dd e e' rfl).elim | obtain rfl := some_inj e e' | (rw [e] at e'; cases e'))
  rcases hd with ⟨vs, hd⟩ | ⟨vs, n, hd⟩
  · exact h1 _ hd
  · exact h2 _ _ hd
theorem Sit.bare {wr : List Addr} {h' : Heap} {tk : Nat} (S : Sit C s [] noM) (W : Thin wr s.heap) (hb : ∀ b ∈ wr, C.base.get? b = .none) (ht : tabA ∉ wr) (k : ∀ b o, b ∉ wr → s.heap.get? b = some o → h'.get? b = some o) : Sit C { s with heap := h', toks := tk } [] noM := by
  have kn : ∀ b o, s.heap.get? b = some o → (∀ vs, o.data ≠ .fields vs) → (∀ vs n, o.data ≠ .seq vs n) → h'.get? b = some o := fun b o e h1 h2 => k b o (W.not e h1 h2) e
  refine ⟨fun b o e => k b o (fun q => by (first | exact (nne (hb b q) e).elim | exact (dd (hb b q) e rfl).elim | obtain rfl := some_inj (hb b q) e | (rw [hb b q] at e; cases e))) (S.stays b o e), fun env he => ?_, lists_noM, fun a ha => ?_, ?_, fun x c e => ?_, S.inj, fun x d e => (nomatch e), fun b o e => ?_, S.like.up, let ⟨o, e⟩ := S.tab; ⟨o, k _ _ ht e⟩⟩
  · refine hide fun uu kg => ?_
    obtain ⟨hk, L, o, es, n, hf, hbn, ho, hd⟩ := S.frames env he
    refine kg ?_
    exact ⟨hk, L, o, es, n, hf, hbn, kn L o ho (fun vs q => by (first | exact (nne hd q).elim | exact (dd hd q rfl).elim | obtain rfl := some_inj hd q | (rw [hd] at q; cases q))) (fun vs n q => by (first | exact (nne hd q).elim | exact (dd hd q rfl).elim | obtain rfl := some_inj hd q | (rw [hd] at q; cases q))), hd⟩
  · refine hide fun uu kg => ?_
    obtain ⟨o, ho, h1, h2⟩ := S.own a ha
    refine kg ?_
    exact ⟨o, kn a o ho h2 h1, h1, h2⟩
  · refine hide fun uu kg => ?_
    obtain ⟨m, o, es, ep, ho, hd, r⟩ := S.ns
    refine kg ?_
    exact ⟨m, o, es, ep, kn _ o ho (fun vs q => by (first | exact (nne hd q).elim | exact (dd hd q rfl).elim | obtain rfl := some_inj hd q | (rw [hd] at q; cases q))) (fun vs n q => by (first | exact (nne hd q).elim | exact (dd hd q rfl).elim | obtain rfl := some_inj hd q | (rw [hd] at q; cases q))), hd, r⟩
  · refine hide fun uu kg => ?_
    obtain ⟨v, o, ho, hd⟩ := S.cells x c e
    refine kg ?_
    exact ⟨v, o, kn c o ho (fun vs q => by (first | exact (nne hd q).elim | exact (dd hd q rfl).elim | obtain rfl := some_inj hd q | (rw [hd] at q; cases q))) (fun vs n q => by (first | exact (nne hd q).elim | exact (dd hd q rfl).elim | obtain rfl := some_inj hd q | (rw [hd] at q; cases q))), hd⟩
  · refine hide fun uu kg => ?_
    obtain ⟨⟨es, n, hd⟩, sl, ho⟩ := S.past b o e
    refine kg ?_
    exact ⟨⟨es, n, hd⟩, sl, kn b _ ho (fun vs q => by rw [show o.data = _ from hd] at q; cases q) (fun vs n q => by rw [show o.data = _ from hd] at q; cases q)⟩
theorem Bound.at {env : Env} {h h' : Heap} {x : Str} {v : Value} (B : Bound env h x v) (k : ∀ b o, h.get? b = some o → (∀ vs, o.data ≠ .fields vs) → (∀ vs n, o.data ≠ .seq vs n) → ∃ sl, h'.get? b = some { o with slots := sl }) : Bound env h' x v := by
  rcases B with ⟨hk, m, ⟨o, es, ep, ho, hd, r⟩, hm⟩ | ⟨hk, c, hc, o, ho, hd⟩
  · obtain ⟨sl, e⟩ := k _ o ho (fun vs q => by (first | exact (nne hd q).elim | exact (dd hd q rfl).elim | obtain rfl := some_inj hd q | (rw [hd] at q; cases q))) (fun vs n q => by (first | exact (nne hd q).elim | exact (dd hd q rfl).elim | obtain rfl := some_inj hd q | (rw [hd] at q; cases q)))
    exact .inl ⟨hk, m, ⟨_, es, ep, e, hd, r⟩, hm⟩
  · obtain ⟨sl, e⟩ := k c o ho (fun vs q => by (first | exact (nne hd q).elim | exact (dd hd q rfl).elim | obtain rfl := some_inj hd q | (rw [hd] at q; cases q))) (fun vs n q => by (first | exact (nne hd q).elim | exact (dd hd q rfl).elim | obtain rfl := some_inj hd q | (rw [hd] at q; cases q)))
    exact .inr ⟨hk, c, hc, _, e, hd⟩

/-- the situation in a loop whose iterator owns a tuple -/
structure ZH (C : Cx) (W : List Addr) (s₁ : Shared) (ρ : Locs) (s : Shared) : Prop where
  step : Step (W ++ C.own) C.stk s₁ noM s noM
  sit : Sit C s [] noM
  tups : TupsStay s₁.heap s.heap
  names : ∀ x d, ρ.lookup x = some d → ∃ v, Bound C.env s.heap x v ∧ Rep s.heap v d ∧ Rep s₁.heap v d
variable {W : List Addr}
theorem ZH.full (Z : ZH C W s₁ ρ s) : Sit C s ρ noM := ⟨Z.sit.stays, Z.sit.frames, lists_noM, Z.sit.own, Z.sit.ns, Z.sit.cells, Z.sit.inj, fun x d e => let ⟨v, b, r, _⟩ := Z.names x d e; ⟨v, b, r⟩, Z.sit.past, Z.sit.like, Z.sit.tab⟩
theorem ZH.start (S : Sit C s₁ ρ M) : ZH C W s₁ ρ s₁ := ⟨Step.refl _ _ _ _, S.noNames, fun uu uu e => e, fun x d e => let ⟨v, b, r⟩ := S.names x d e; ⟨v, b, r, r⟩⟩
theorem ZH.bare {wr : List Addr} {h' : Heap} {tk : Nat} (Z : ZH C W s₁ ρ s) (S₁ : Sit C s₁ ρ₁ M₁) (hf : ∀ b ∈ W, s₁.heap.get? b = .none) (hw : ∀ b ∈ wr, b ∈ W) (T : Thin wr s.heap) (T' : ∀ b ∈ wr, ∃ o, h'.get? b = some o) (k : ∀ b o, b ∉ wr → s.heap.get? b = some o → h'.get? b = some o) :
    ZH C W s₁ ρ { s with heap := h', toks := tk } := by
  have hb : ∀ b ∈ wr, C.base.get? b = .none := fun b hb => by
    exact none_of fun o e => by have := S₁.stays b o e; (first | exact (nne (hf b (hw b hb)) this).elim | exact (dd (hf b (hw b hb)) this rfl).elim | obtain rfl := some_inj (hf b (hw b hb)) this | (rw [hf b (hw b hb)] at this; cases this))
  have old : ∀ b o, s₁.heap.get? b = some o → b ∉ wr := fun b o e q => by (first | exact (nne (hf b (hw b q)) e).elim | exact (dd (hf b (hw b q)) e rfl).elim | obtain rfl := some_inj (hf b (hw b q)) e | (rw [hf b (hw b q)] at e; cases e))
  have tu : TupsStay s₁.heap h' := fun b us e => by
    obtain ⟨j, e1⟩ := id e
    obtain ⟨j2, e2⟩ := Z.tups b us e
    exact ⟨j2, k b _ (old b _ e1) e2⟩
  refine ⟨?_, Z.sit.bare T hb (fun q => S₁.tab.ne (hf _ (hw _ q)) rfl) k, tu, fun x d e => ?_⟩
  · refine Z.step.trans ⟨fun b o e uu ho => ⟨o.slots, k b o (fun q => ho (List.mem_append_left _ (hw b q))) e, fun uu => rfl⟩, fun b o e => ?_, fun uu h => .inl h, rfl⟩
    by_cases q : b ∈ wr
    · exact T' b q
    · exact ⟨o, k b o q e⟩
  · refine hide fun uu kg => ?_
    obtain ⟨v, B, r, r1⟩ := Z.names x d e
    refine kg ?_
    exact ⟨v, B.at fun b o e h1 h2 => ⟨o.slots, k b o (T.not e h1 h2) e⟩, r1.mono tu, r1⟩
theorem ZH.keeps {h' : Heap} {tk : Nat} (Z : ZH C W s₁ ρ s) (k : ∀ b o, s.heap.get? b = some o → h'.get? b = some o) : ZH C W s₁ ρ { s with heap := h', toks := tk } := by
  have T : Step [] C.stk s noM { s with heap := h', toks := tk } noM := Step.ofKeeps k
  have tu : TupsStay s.heap h' := fun b us ⟨j, e⟩ => ⟨j, k b _ e⟩
  refine ⟨Z.step.trans T.weaken, Z.sit.ev T lists_noM, fun b us e => tu b us (Z.tups b us e), fun x d e => ?_⟩
  refine hide fun uu kg => ?_
  obtain ⟨v, B, r, r1⟩ := Z.names x d e
  refine kg ?_
  exact ⟨v, B.at fun b o e uu uu => ⟨o.slots, k b o e⟩, r.mono tu, r1⟩
theorem ZH.ev (Z : ZH C W s₁ ρ s) (T : Step [] C.stk s noM s' M') : ZH C W s₁ ρ s' := by
  have tu := T.tups (ownOk_nil _) lists_noM Z.sit.frames
  refine ⟨Z.step.trans T.toNo.weaken, Z.sit.ev T.toNo lists_noM, fun b us e => tu b us (Z.tups b us e), fun x d e => ?_⟩
  refine hide fun uu kg => ?_
  obtain ⟨v, B, r, r1⟩ := Z.names x d e
  refine kg ?_
  exact ⟨v, B.at fun b o e uu uu => let ⟨sl, e', _⟩ := T.keep b o e rfl (fun z => nomatch z); ⟨sl, e'⟩, r.mono tu, r1⟩
theorem ZH.less (Z : ZH C W s₁ ρ s) (h : ∀ x d, ρ'.lookup x = some d → ρ.lookup x = some d) : ZH C W s₁ ρ' s := ⟨Z.step, Z.sit, Z.tups, fun x d e => Z.names x d (h x d e)⟩
/-- a local name takes what stood before -/
theorem ZH.store (O : CxOk G C n) (Z : ZH C W s₁ ρ s) {x : Str} {px : Pos} {v : Value} {d : D} {R : Unit → Shared → Prop} (hx : C.env.kindOf x = some .local) (hlo : C.env.locals ∈ C.own) (r : Rep s.heap v d) (r1 : Rep s₁.heap v d)
    (h : ∀ s', ZH C W s₁ ((x, d) :: ρ) s' → (∀ b o, s.heap.get? b = some o → (∀ es n, o.data ≠ .dict es n) → s'.heap.get? b = some o) → R () s') : wpAny (model prog w) C.A (assign (.Name x px) C.env v) R C.E s := by
  obtain ⟨m, hm⟩ := Z.sit.ns
  refine wpAny_assign_Name (wpAny_storeName_local hx hm (fun h' hn hs => ?_) (by rw [O.kind]; rfl))
  refine hide fun uu kg => ?_
  obtain ⟨oL, esL, epL, hoL, hdL, rL⟩ := id hm
  refine kg ?_
  have nd : ∀ b o, s.heap.get? b = some o → (∀ es n, o.data ≠ .dict es n) → h'.get? b = some o := fun b o e hd => (hs.2 b fun q => by (first | exact (nb q hoL e).elim | obtain rfl := sb q hoL e | (rw [q, hoL] at e; cases e)); exact hd _ _ hdL).trans e
  have tu : TupsStay s.heap h' := fun b us ⟨j, e⟩ => ⟨j, nd b _ e fun es n q => by cases q⟩
  have S' : Sit C { s with heap := h', toks := s.toks + 1 } [(x, d)] noM := sit_local Z.sit r hx hlo (O.ownBase _ hlo) (O.ownPast _ hlo) hm hn hs
  have T : Step C.own C.stk s noM { s with heap := h', toks := s.toks + 1 } noM := step_ofOwn hs hlo (by obtain ⟨o, uu, uu, ho, uu⟩ := hn; exact ⟨o, ho⟩)
  refine h _ ⟨Z.step.trans (T.wider fun a h => List.mem_append_right _ h), S'.noNames, fun b us e => tu b us (Z.tups b us e), fun y e hy => ?_⟩ nd
  rw [List.lookup_cons] at hy
  by_cases q : y = x
  · subst q
    simp only [beq_self_eq_true] at hy
    cases hy
    exact ⟨v, .inl ⟨hx, _, hn, if_pos rfl⟩, r.mono tu, r1⟩
  · have qb : (y == x) = false := by simpa using q
    rw [qb] at hy
    refine hide fun uu kg => ?_
    obtain ⟨v', B, r', r1'⟩ := Z.names y e hy
    refine kg ?_
    refine ⟨v', ?_, r'.mono tu, r1'⟩
    rcases B with ⟨hk, m', hm', hv⟩ | ⟨hk, c, hc, o, ho, hd⟩
    · rw [ns_unique hm' hm] at hv
      exact .inl ⟨hk, _, hn, (if_neg q).trans hv⟩
    · exact .inr ⟨hk, c, hc, o, nd c o ho (fun es n q => by (first | exact (nne hd q).elim | exact (dd hd q rfl).elim | obtain rfl := some_inj hd q | (rw [hd] at q; cases q))), hd⟩

/-- the zip's records at its turn i -/
structure ZI (h : Heap) (z TI TO i1 i2 t1 t2 : Addr) (xs ys : List Value) (i : Nat) : Prop where
  gZ : IsZip h z TI TO .none
  gTI : IsPair h TI (.ref i1) (.ref i2)
  gTO : ∃ a b, IsPair h TO a b
  g1 : h.IsTupleIter i1 t1 i ∧ IsTp h t1 xs.toArray
  g2 : h.IsTupleIter i2 t2 i ∧ IsTp h t2 ys.toArray
theorem sx_zip {K : Frag} {p : Program} {loose : List Str} {mg mb : Str → Option Value} {xa xb : Str} {pa pb pt np cp rp ip pos : Pos} {kt : Nat} {args : List Expr} {test re : Expr} {as bs : List D} {Q : Option D → Locs → LMap → Prop} (J : Nat → Prop)
    (O : CxOk (GlobB K p loose mg mb) C n) (e : nsIn K mainGlobals (Str.ofString "zip") = some none) (hv : bootBuiltins (Str.ofString "zip") = some (.type "zip")) (hz : C.env.kindOf (Str.ofString "zip") = some .globalImplicit)
    (he : Heads args C.env) (hpa : (backTo cp (starEach args C.env)).any (·.1) = false)
    (hp : PassesOwn (model prog w) C.A C.env C.E) (hxa : C.env.kindOf xa = some .local) (hxb : C.env.kindOf xb = some .local) (hlo : C.env.locals ∈ C.own) (na : ρ.lookup xa = .none) (nb : ρ.lookup xb = .none)
    (h : Evs prog w C ρ M cp args fun ds M₁ => ds = [.tup as, .tup bs])
    (step : ∀ i a b, as[i]? = some a → bs[i]? = some b → J i → Te prog w C ((xb, b) :: (xa, a) :: ρ) noM test fun t M' => if t then Ev prog w C ((xb, b) :: (xa, a) :: ρ) M' re fun d M'' => Q (some d) ((xb, b) :: (xa, a) :: ρ) M'' else J (i + 1))
    (fin : J (min as.length bs.length) → Q .none ρ noM) (h0 : J 0)
    (hs : ∀ x, foldedSetIterable (.Call (.Name (Str.ofString "zip") np) args [] cp) C.env x = pure x) :
    Sx prog w C ρ M (.For (.Tuple [.Name xa pa, .Name xb pb] kt pt) (.Call (.Name (Str.ofString "zip") np) args [] cp) [.If test [.Return (some re) rp] [] ip] [] pos) Q := fun s S => by
  refine wpAny_For ?_ hs
  refine Call_Name rfl ((ev_builtin (Q := fun d M₁ => d = .raw (.type "zip") ∧ M₁ = M) O e hv (by decide) ⟨rfl, rfl⟩ hz (by decide)).use S fun s₀ v d M₀ T₀ S₀ r₀ q₀ => ?_)
  obtain ⟨rfl, rfl⟩ := q₀
  obtain rfl := r₀.raw_
  refine PyProof.Rows.callWith_type hpa (args_use h S₀ (fun s₁ vs ds M₁ T₁ S₁ r₁ q₁ => ?_) he)
  subst q₁
  obtain ⟨v1, v2, rfl, r1, r2⟩ := r₁.two
  obtain ⟨t1, xs, rfl, ht1, rs1⟩ := r1.tup_
  obtain ⟨t2, ys, rfl, ht2, rs2⟩ := r2.tup_
  refine call_zipT ht1 ht2 fun h' z TI TO i1 i2 D hfr hZ hTI hTO hi1 hi2 hk => ?_
  refine wpAny_pyIter_zip hZ ?_
  have lx := rs1.length
  have ly := rs2.length
  have Z0 : ZH C [z, TI, TO, i1, i2] s₁ ρ { s₁ with heap := h', toks := s₁.toks } := (ZH.start S₁).keeps hk
  have ne1 : t1 ≠ i1 := fun q => by obtain ⟨k, e1⟩ := ht1; (first | exact (nb q (hfr i1 (by simp)) e1).elim | obtain rfl := sb q (hfr i1 (by simp)) e1 | (rw [q, hfr i1 (by simp)] at e1; cases e1))
  have ne2 : t2 ≠ i2 := fun q => by obtain ⟨k, e1⟩ := ht2; (first | exact (nb q (hfr i2 (by simp)) e1).elim | obtain rfl := sb q (hfr i2 (by simp)) e1 | (rw [q, hfr i2 (by simp)] at e1; cases e1))
  have N1 : Nx prog w C.A.in1 i1 [i1, t1] xs (fun i h => h.IsTupleIter i1 t1 i ∧ IsTp h t1 xs.toArray) := nx_tup (A := C.A.in1) O.handled i1 t1 xs ne1
  have N2 : Nx prog w C.A.in1 i2 [i2, t2] ys (fun i h => h.IsTupleIter i2 t2 i ∧ IsTp h t2 ys.toArray) := nx_tup (A := C.A.in1) O.handled i2 t2 ys ne2
  have T01 : Step C.own C.stk s M₀ s₁ noM := (T₀.trans T₁).toNo.weaken
  have wfr : ∀ b ∈ [z, TI, TO, i1, i2], s₁.heap.get? b = .none := hfr
  have done : ∀ {s' : Shared}, Step ([z, TI, TO, i1, i2] ++ C.own) C.stk s₁ noM s' noM → Step C.own C.stk s M₀ s' noM := fun T => T01.trans (T.narrow wfr)
  refine for_core (QF := PostF C s M₀ Q) hp (fun k s' => ∃ i, i + k = min as.length bs.length ∧ J i ∧ ZH C [z, TI, TO, i1, i2] s₁ ρ s' ∧ ZI s'.heap z TI TO i1 i2 t1 t2 xs ys i)
    (fun k s' hI => ?_) (min as.length bs.length) ⟨0, by omega, h0, Z0, hZ, hTI, ⟨_, _, hTO⟩, ⟨hi1, ht1.elim fun k e1 => ⟨k, hk _ _ e1⟩⟩, ⟨hi2, ht2.elim fun k e1 => ⟨k, hk _ _ e1⟩⟩⟩
  refine hide fun uu kg => ?_
  obtain ⟨i, hik, hJ, Z, gZ, gTI, ⟨oa, ob, gTO⟩, g1, g2⟩ := hI
  refine kg ?_
  have thin : Thin [z, TO, i1, i2] s'.heap := fun b hb => by
    rcases List.mem_cons.mp hb with rfl | hb
    · exact ⟨_, gZ, .inl ⟨_, rfl⟩⟩
    rcases List.mem_cons.mp hb with rfl | hb
    · exact ⟨_, gTO, .inr ⟨_, _, rfl⟩⟩
    rcases List.mem_cons.mp hb with rfl | hb
    · obtain ⟨⟨o, ho, uu, hd⟩, uu⟩ := g1; exact ⟨o, ho, .inl ⟨_, hd⟩⟩
    · rw [List.mem_singleton.mp hb]; obtain ⟨⟨o, ho, uu, hd⟩, uu⟩ := g2; exact ⟨o, ho, .inl ⟨_, hd⟩⟩
  have win : ∀ b ∈ [z, TO, i1, i2], b ∈ [z, TI, TO, i1, i2] := fun b hb => by simp at hb ⊢; rcases hb with h | h | h | h <;> simp [h]
  have kin : ∀ {h' : Heap}, (∀ c o, c ≠ z → c ≠ TO → c ≠ i1 → c ≠ i2 → s'.heap.get? c = some o → h'.get? c = some o) → ∀ b o, b ∉ [z, TO, i1, i2] → s'.heap.get? b = some o → h'.get? b = some o := fun k b o hb e => k b o (fun q => hb (by simp [q])) (fun q => hb (by simp [q])) (fun q => hb (by simp [q])) (fun q => hb (by simp [q])) e
  by_cases hlast : i = min as.length bs.length
  · have hend : i = xs.length ∨ (i < xs.length ∧ i = ys.length) := min_end (by rw [lx, ly]; exact hlast)
    refine zipT_last D N1 N2 gZ gTI gTO g1 g2 hend fun h3 k3 => ?_
    have nb' : ∀ b ∈ [z, TO, i1, i2], C.base.get? b = .none := fun b hb => by
      exact none_of fun o e => by have := S₁.stays b o e; (first | exact (nne (wfr b (win b hb)) this).elim | exact (dd (wfr b (win b hb)) this rfl).elim | obtain rfl := some_inj (wfr b (win b hb)) this | (rw [wfr b (win b hb)] at this; cases this))
    have old : ∀ b o, s₁.heap.get? b = some o → b ∉ [z, TO, i1, i2] := fun b o e q => by (first | exact (nne (wfr b (win b q)) e).elim | exact (dd (wfr b (win b q)) e rfl).elim | obtain rfl := some_inj (wfr b (win b q)) e | (rw [wfr b (win b q)] at e; cases e))
    have S3 : Sit C { s' with heap := h3, toks := s'.toks } [] noM := Z.sit.bare thin nb' (fun q => S₁.tab.ne (wfr _ (win _ q)) rfl) (kin k3)
    have tu3 : TupsStay s₁.heap h3 := fun b us e => by
      obtain ⟨j, e1⟩ := id e
      obtain ⟨j2, e2⟩ := Z.tups b us e
      exact ⟨j2, kin k3 b _ (old b _ e1) e2⟩
    refine ⟨ρ, noM, T01.trans (Z.step.last wfr fun b o hb e => kin k3 b o (fun q => hb (win b q)) e), ⟨S3.stays, S3.frames, lists_noM, S3.own, S3.ns, S3.cells, S3.inj, fun x d e => ?_, S3.past, S3.like, S3.tab⟩, fin (hlast ▸ hJ)⟩
    refine hide fun uu kg => ?_
    obtain ⟨v, B, r, r1⟩ := Z.names x d e
    refine kg ?_
    exact ⟨v, B.at fun b o e h1 h2 => ⟨o.slots, kin k3 b o (thin.not e h1 h2) e⟩, r1.mono tu3⟩
  · obtain ⟨hia, hib⟩ := min_in hik hlast
    have hlt : i < min as.length bs.length := Nat.lt_of_le_of_ne (hik ▸ Nat.le_add_right i k) hlast
    obtain ⟨va, hva, ra1⟩ := rs1.get (List.getElem?_eq_getElem hia)
    obtain ⟨vb, hvb, rb1⟩ := rs2.get (List.getElem?_eq_getElem hib)
    refine zipT_next D N1 N2 gZ gTI gTO g1 g2 hva hvb fun h3 aZ aTO a1 a2 aT k3 => ?_
    have ex3 : ∀ b ∈ [z, TO, i1, i2], ∃ o, h3.get? b = some o := fun b hb => by
      rcases List.mem_cons.mp hb with rfl | hb
      · exact ⟨_, aZ⟩
      rcases List.mem_cons.mp hb with rfl | hb
      · exact ⟨_, aTO⟩
      rcases List.mem_cons.mp hb with rfl | hb
      · obtain ⟨⟨o, ho, uu⟩, uu⟩ := a1; exact ⟨o, ho⟩
      · rw [List.mem_singleton.mp hb]; obtain ⟨⟨o, ho, uu⟩, uu⟩ := a2; exact ⟨o, ho⟩
    have Z3 : ZH C [z, TI, TO, i1, i2] s₁ ρ { s' with heap := h3, toks := s'.toks } := Z.bare S₁ wfr win thin ex3 (kin k3)
    have aTI : IsPair h3 TI (.ref i1) (.ref i2) := k3 _ _ D.TIz D.TITO D.TIi1 D.TIi2 gTI
    refine wpAny_letOwnedTupleGo_zip aZ fun h4 bZ s4 => ?_
    have k4 : ∀ b o, b ∉ [z] → h3.get? b = some o → h4.get? b = some o := fun b o hb e => (s4.2 b fun q => hb (by simp [q])).trans e
    have Z4 : ZH C [z, TI, TO, i1, i2] s₁ ρ { s' with heap := h4, toks := s'.toks } := Z3.bare (tk := s'.toks) S₁ wfr (wr := [z]) (fun b hb => by simp at hb; simp [hb]) (fun b hb => by rw [List.mem_singleton.mp hb]; exact ⟨_, aZ, .inl ⟨_, rfl⟩⟩) (fun b hb => by rw [List.mem_singleton.mp hb]; exact ⟨_, bZ⟩) k4
    have bTI : IsPair h4 TI (.ref i1) (.ref i2) := (s4.2 TI D.TIz).trans aTI
    have bTO : IsPair h4 TO va vb := (s4.2 TO D.TOz).trans aTO
    have b1 := N1.but a1 s4 D.f1z
    have b2 := N2.but a2 s4 D.f2z
    have hTz : s'.heap.objs.size ≠ z := Nat.ne_of_gt (Heap.lt_size gZ)
    have bT : h4.get? s'.heap.objs.size = some { cls := .type "tuple", data := .seq #[va, vb] } := (s4.2 _ hTz).trans aT
    refine (wpAny_assign_Tuple O.handled (s := { s' with heap := h4, toks := s'.toks }) (items := #[va, vb]) ⟨_, bT, rfl, _, rfl⟩ rfl rfl fun h5 ex => ?_)
    have k5 : ∀ b o, h4.get? b = some o → h5.get? b = some o := fun b o e => ex b o (Nat.ne_of_lt (Heap.lt_size e)) e
    have Z5 : ZH C [z, TI, TO, i1, i2] s₁ ρ { s' with heap := h5, toks := s'.toks } := Z4.keeps (tk := s'.toks) k5
    show wpAny _ _ (assignInOrder [assign (.Name xa pa) C.env, assign (.Name xb pb) C.env] [va, vb]) _ _ _
    refine assignInOrder_cons (Z5.store O hxa hlo (ra1.mono Z5.tups) ra1 fun s₆ Z6 n6 => ?_)
    refine assignInOrder_cons (Z6.store O hxb hlo (rb1.mono Z6.tups) rb1 fun s₇ Z7 n7 => assignInOrder_nil ?_)
    have n57 : ∀ b o, h4.get? b = some o → (∀ es n, o.data ≠ .dict es n) → s₇.heap.get? b = some o := fun b o e hd => n7 b o (n6 b o (k5 b o e) hd) hd
    have back : ∀ {s₈ : Shared} {M₈ : LMap}, Step [] C.stk s₇ noM s₈ M₈ → J (i + 1) → ∃ m, m < k ∧ ∃ i, i + m = min as.length bs.length ∧ J i ∧ ZH C [z, TI, TO, i1, i2] s₁ ρ s₈ ∧ ZI s₈.heap z TI TO i1 i2 t1 t2 xs ys i := fun {s₈ M₈} T8 hJ' => by
      have ek : ∀ b o, h4.get? b = some o → (∀ es n, o.data ≠ .dict es n) → s₈.heap.get? b = some o := fun b o e hd => T8.exact Z7.sit.frames (n57 b o e hd) hd
      refine ⟨min as.length bs.length - (i + 1), turn_lt hik hlt, i + 1, turn_eq hlt, hJ', (Z7.ev T8).less fun x d e => ?_, ek _ _ bZ (fun uu uu q => by cases q), ek _ _ bTI (fun uu uu q => by cases q), ⟨_, _, ek _ _ bTO (fun uu uu q => by cases q)⟩, N1.keep _ _ _ b1 fun b hb o e => ek b o e ?_, N2.keep _ _ _ b2 fun b hb o e => ek b o e ?_⟩
      · rw [List.lookup_cons, List.lookup_cons]
        have q1 : (x == xb) = false := by
          cases q : x == xb with
          | false => rfl
          | true => rw [show x = xb from eq_of_beq q, nb] at e; cases e
        have q2 : (x == xa) = false := by
          cases q : x == xa with
          | false => rfl
          | true => rw [show x = xa from eq_of_beq q, na] at e; cases e
        rw [q1, q2]; exact e
      · intro es n q
        refine hide fun uu kg => ?_
        obtain ⟨⟨o1, ho1, uu, hd1⟩, k1, ht1'⟩ := b1
        refine kg ?_
        rcases List.mem_cons.mp hb with hb | hb
        · (first | exact (nb hb ho1 e).elim | obtain rfl := sb hb ho1 e | (rw [hb, ho1] at e; cases e)); (first | exact (nne hd1 q).elim | exact (dd hd1 q rfl).elim | obtain rfl := some_inj hd1 q | (rw [hd1] at q; cases q))
        · rw [List.mem_singleton.mp hb, ht1'] at e; cases e; cases q
      · intro es n q
        refine hide fun uu kg => ?_
        obtain ⟨⟨o1, ho1, uu, hd1⟩, k1, ht1'⟩ := b2
        refine kg ?_
        rcases List.mem_cons.mp hb with hb | hb
        · (first | exact (nb hb ho1 e).elim | obtain rfl := sb hb ho1 e | (rw [hb, ho1] at e; cases e)); (first | exact (nne hd1 q).elim | exact (dd hd1 q rfl).elim | obtain rfl := some_inj hd1 q | (rw [hd1] at q; cases q))
        · rw [List.mem_singleton.mp hb, ht1'] at e; cases e; cases q
    refine (wpAny_execs_cons (wpAny_If ?_))
    refine wpAny_mono (step i _ _ (List.getElem?_eq_getElem hia) (List.getElem?_eq_getElem hib) hJ s₇ Z7.full) (fun t s₈ P => ?_) fun uu uu x => x
    refine hide fun uu kg => ?_
    obtain ⟨M₈, T8, L8, q8⟩ := P
    refine kg ?_
    have S8 := Z7.full.ev T8 L8
    cases t with
    | false => exact wpAny_execs_nil (wpAny_execs_nil (back T8 q8))
    | true =>
      refine wpAny_execs_cons (wpAny_Return_some (wpAny_mono (q8 s₈ S8) (fun v s₉ P9 => ?_) fun uu uu x => x))
      refine hide fun uu kg => ?_
      obtain ⟨d, M₉, T9, L9, r9, q9⟩ := P9
      refine kg ?_
      have T79 : Step [] C.stk s₇ noM s₉ M₉ := T8.trans T9
      have Tall : Step ([z, TI, TO, i1, i2] ++ C.own) C.stk s₁ noM s₉ M₉ := Z7.step.trans T79.weaken
      exact ⟨_, M₉, T01.trans (Tall.narrow wfr), S8.ev T9 L9, d, r9, q9⟩
end
end Mine

end
section
open PySem PySem.W PyProof.Rows
set_option maxRecDepth 100000
set_option linter.unusedVariables false
namespace Mine
section
variable {prog : Program} {w : World} {A : Around} {E : Value → Shared → Prop} {h : Heap} {g : Array GenState} {d : Drawn} {t : Nat} {os : OsState}
variable {nm q : Str} {C N : Addr} {bs bm bmB : List Value} {hdct : Bool} {sn : List Str} {sub : List Value} {ab : Bool} {col : Option Bool} {dd : Option Addr} {k0 k1 k2 k3 k5 : Option Value} {B newId initId : String}

/-- the tail of an own class, by its types alone -/
structure Tl (bmB bm : List Value) : Prop where
  has : ∀ (X : String) (b : Bool), bmB.contains (.type X) = b → bm.contains (.type X) = b
theorem check_newV {M : Model} (F : ExcBaseFacts B newId initId bmB) (T : Tl bmB bm) {rest : List Value} {Q : Unit → Shared → Prop} (hC : h.get? C = some (excClassObj nm q C N bs bm hdct sn sub ab col dd k0 k1 k2 k3 k5 newId))
    (hq : Q () ⟨h, g, d, t, os⟩) : wpAny M A (checkBuiltinCall newId ⟨.ref C :: rest, []⟩) Q E ⟨h, g, d, t, os⟩ := by
  have hcont : (Value.ref C :: bm).contains (.type B) = true := by rw [List.contains_cons, T.has _ _ F.hasB, Bool.or_true]
  have hstar := F.noStar
  simp only [checkBuiltinCall, F.newKind, F.newSplit, F.newRow]
  repeat (first | refine wpAny_loadPart_at hC ?_ | (refine wpAny_isSubtype_exc hC ?_; rw [hcont]) | refine wpAny_staticBase_exc hC ?_ | refine wpAny_madeBy_exc hC ?_ | simp only [bne_self_eq_false, Bool.false_eq_true, if_false] | wp_step)
  exact hq
theorem code_newV {R : Result → Shared → Prop} (F : ExcBaseFacts B newId initId bmB) (T : Tl bmB bm) {rest : List Value} (hC : h.get? C = some (excClassObj nm q C N bs bm hdct sn sub ab col dd k0 k1 k2 k3 k5 newId))
    (hq : R (.ok (.ret (.ref (h.objs.size + 1)))) ⟨(h.push { cls := .type "tuple", data := .seq rest.toArray }).push
      { cls := .ref C, data := .fields #[.ref h.objs.size, .none, .none, .none, .bool false, .none] }, g, d, t, os⟩) (hrest : rest.length ≤ sizeLine) :
    codeAny (model prog w) A (.builtin newId ⟨.ref C :: rest, []⟩) R ⟨h, g, d, t, os⟩ := by
  have hends := F.ends
  have hcB : (Value.ref C :: bm).contains (.type B) = true := by rw [List.contains_cons, T.has _ _ F.hasB, Bool.or_true]
  have hcA : (Value.ref C :: bm).contains (.type "AttributeError") = false := by rw [List.contains_cons, T.has _ _ F.noAttr]; rfl
  have hcN : (Value.ref C :: bm).contains (.type "NameError") = false := by rw [List.contains_cons, T.has _ _ F.noName]; rfl
  refine codeAny_builtinAt F.entry ?_
  unfold Builtin.«BaseException.__new__»
  refine PySem.wpAt_bind ?_
  show PySem.wpAt _ _ _ (stack >>= _) _ _ _
  refine PySem.wpAt_bind (PySem.wpAt_stack fun p below => PySem.wpAt_of_wpAny ?_)
  wp_walk
  refine PySem.wpAt_of_wpAny ?_
  rw [F.owner]
  repeat (first | with_reducible refine wpAny_madeHere_exc F.canon hC ?_ | with_reducible refine wpAny_loadPart_at hC ?_ | (with_reducible refine wpAny_isSubtype_exc hC ?_; first | rw [hcB] | rw [hcA] | rw [hcN]) | wp_step)
  show R _ _
  rw [Heap.size_push]
  exact hq

theorem type_callV (F : ExcBaseFacts B newId initId bmB) (T : Tl bmB bm) {rest : List Value} {fI : Addr} {oI : Obj} {Q : PySem.Fin → Shared → Prop}
    (hC : h.get? C = some (excClassObj nm q C N bs bm hdct sn sub ab col dd k0 k1 k2 k3 k5 newId)) (hL : Looks (model prog w) h (typeLookup (.ref C) "__init__") (some (.ref fI)))
    (hfI : h.get? fI = some oI) (hfc : oI.cls = .type "function")
    (hq : ∀ h' e, Heap.MadeExcOf h h' e (.ref C) rest → wpAny (model prog w) A (call (.ref fI) (.ref e :: rest)) (fun r s' => r = .none ∧ Q (.done (.ret (.ref e))) s') E ⟨h', g, d, t, os⟩) (hrest : rest.length ≤ sizeLine) :
    wpAny (model prog w) A (Builtin.«type.__call__» ⟨.ref C :: rest, []⟩) Q E ⟨h, g, d, t, os⟩ := by
  repeat (first | with_reducible refine wpAny_loadPart_at hC ?_ | with_reducible refine wpAny_madeBy_exc hC ?_ | wp_step)
  refine codeAny_call_builtin_code (Code.quiet_builtin _ F.quiet) (check_newV F T hC ?_)
  refine code_newV F T hC ?_ hrest
  show wpAny _ _ _ _ _ _
  have hC₁ := Heap.get?_push_of_some { cls := .ref C, data := .fields #[.ref h.objs.size, .none, .none, .none, .bool false, .none] }
    (Heap.get?_push_of_some { cls := .type "tuple", data := .seq rest.toArray } hC)
  have hfI₁ := Heap.get?_push_of_some { cls := .ref C, data := .fields #[.ref h.objs.size, .none, .none, .none, .bool false, .none] }
    (Heap.get?_push_of_some { cls := .type "tuple", data := .seq rest.toArray } hfI)
  have hget : ((h.push { cls := .type "tuple", data := .seq rest.toArray }).push
      { cls := .ref C, data := .fields #[.ref h.objs.size, .none, .none, .none, .bool false, .none] }).get? (h.objs.size + 1) = some
      { cls := .ref C, data := .fields #[.ref h.objs.size, .none, .none, .none, .bool false, .none] } := by heap_get
  have hcC : (Value.ref C :: bm).contains (.ref C) = true := by simp
  unfold isInstance
  repeat (first | with_reducible refine wpAny_loadPart_at hget ?_ | (with_reducible refine wpAny_isSubtype_exc hC₁ ?_; rw [hcC]) | wp_step)
  show wpAny _ _ (typeLookup (.ref C) _) _ _ _
  refine hL _ _ _ _ (fun b o e => Heap.get?_push_of_some _ (Heap.get?_push_of_some _ e)) ?_
  refine wpAny_holding (wpAny_bind ?_)
  unfold bindSpecial
  refine wpAny_bind (wpAny_typeOf (T := "function") ⟨_, hfI₁, hfc⟩ ?_)
  refine wp_tt (by decide) ?_
  refine wpAny_pure (wpAny_bind (wpAny_mono (hq _ (h.objs.size + 1) ⟨fun b o hb => Heap.get?_push_of_some _ (Heap.get?_push_of_some _ hb), Heap.get?_none_of_le (Nat.le_succ _), h.objs.size, hget, Heap.get?_none_of_le (Nat.le_refl _), ?_⟩) (fun r s' hr => ?_) fun uu uu x => x))
  · exact Heap.get?_push_of_some _ (Heap.get?_push_at rfl rfl)
  · obtain ⟨rfl, hQ⟩ := hr
    wp_walk
    exact hQ
theorem call_excV (F : ExcBaseFacts B newId initId bmB) (T : Tl bmB bm) {rest : List Value} {fI : Addr} {oI : Obj} {Q : Value → Shared → Prop}
    (hC : h.get? C = some (excClassObj nm q C N bs bm hdct sn sub ab col dd k0 k1 k2 k3 k5 newId)) (hL : Looks (model prog w) h (typeLookup (.ref C) "__init__") (some (.ref fI)))
    (hfI : h.get? fI = some oI) (hfc : oI.cls = .type "function")
    (hq : ∀ h' e, Heap.MadeExcOf h h' e (.ref C) rest → wpAny (model prog w) (A.under (.builtin "type.__call__" ⟨.ref C :: rest, []⟩)) (call (.ref fI) (.ref e :: rest)) (fun r s' => r = .none ∧ Q (.ref e) s') E ⟨h', g, d, t, os⟩) (hrest : rest.length ≤ sizeLine) :
    wpAny (model prog w) A (call (.ref C) rest) Q E ⟨h, g, d, t, os⟩ := by
  have f1 := tc_lookup
  have f2 := tc_bind (.ref C)
  have hT : (⟨h, g, d, t, os⟩ : Shared).TypeIs (.ref C) "type" := ⟨_, hC, rfl⟩
  refine wpAny_call (codeAny_of_tree ?_)
  show wpAny _ _ (callAny (.ref C) _) _ _ _
  repeat (any_goals (first | assumption | with_reducible refine wpAny_loadPart_at hC ?_ | wp_step))
  refine ⟨rfl, ?_⟩
  refine codeAny_call_builtin_at (Code.quiet_builtin _ (by decide +kernel)) entry_typeCall (wpAny_check_type_call_sub hC (type_callV F T hC hL hfI hfc (fun h' e hm => ?_) hrest))
  exact hq h' e hm
end
end Mine

end
section
open PySem PySem.W PyProof.Rows
set_option maxRecDepth 100000
set_option linter.unusedVariables false
set_option maxHeartbeats 4000000
namespace Mine
noncomputable abbrev GB (P : Params) (mg mb : Str → Option Value) : Heap → Prop := GlobB (hd.heap_39 P) hd.view_39 (looseW hd.view_39 [Str.ofString "ChanError"]) mg mb
theorem gb_in {P : Params} {mg mb : Str → Option Value} : ∀ base, GB P mg mb base → (hd.heap_39 P).In base := fun uu h => h.kin
theorem gb_lim {P : Params} {mg mb : Str → Option Value} : ∀ base, GB P mg mb base → (hd.heap_39 P).In base ∧ base.NoLimit := fun uu h => ⟨h.kin, h.top.nolimit⟩
section
variable {prog : Program} {w : World} {mg mb : Str → Option Value} {C : Cx} {ρ : Locs} {M : LMap} {n : Nat} {Q : D → LMap → Prop} {X : Array UInt8 → Prop}
theorem n_isinstance (P : Params) : nsIn (hd.heap_39 P) mainGlobals (Str.ofString "isinstance") = some none := rfl
theorem b_isinstance : bootBuiltins (Str.ofString "isinstance") = some (.builtin "isinstance") := rfl
theorem bi_isinstance {np pos : Pos} {args : List Expr} (O : CxOk (GB w.params mg mb) C n) (hx : C.env.kindOf (Str.ofString "isinstance") = some .globalImplicit)
    (he : Heads args C.env) (hp : (backTo pos (starEach args C.env)).any (·.1) = false)
    (h : Evs prog w C ρ M pos args (KOpN prog w C ρ (fun vs => PySem.call (.builtin "isinstance") vs) Q)) : Ev prog w C ρ M (.Call (.Name (Str.ofString "isinstance") np) args [] pos) Q :=
  ev_bi O (n_isinstance _) b_isinstance (by decide) hx (by decide) he hp h
theorem n_len (P : Params) : nsIn (hd.heap_39 P) mainGlobals (Str.ofString "len") = some none := rfl
theorem b_len : bootBuiltins (Str.ofString "len") = some (.builtin "len") := rfl
theorem bi_len {np pos : Pos} {args : List Expr} (O : CxOk (GB w.params mg mb) C n) (hx : C.env.kindOf (Str.ofString "len") = some .globalImplicit)
    (he : Heads args C.env) (hp : (backTo pos (starEach args C.env)).any (·.1) = false)
    (h : Evs prog w C ρ M pos args (KOpN prog w C ρ (fun vs => PySem.call (.builtin "len") vs) Q)) : Ev prog w C ρ M (.Call (.Name (Str.ofString "len") np) args [] pos) Q :=
  ev_bi O (n_len _) b_len (by decide) hx (by decide) he hp h
theorem n_chr (P : Params) : nsIn (hd.heap_39 P) mainGlobals (Str.ofString "chr") = some none := rfl
theorem b_chr : bootBuiltins (Str.ofString "chr") = some (.builtin "chr") := rfl
theorem bi_chr {np pos : Pos} {args : List Expr} (O : CxOk (GB w.params mg mb) C n) (hx : C.env.kindOf (Str.ofString "chr") = some .globalImplicit)
    (he : Heads args C.env) (hp : (backTo pos (starEach args C.env)).any (·.1) = false)
    (h : Evs prog w C ρ M pos args (KOpN prog w C ρ (fun vs => PySem.call (.builtin "chr") vs) Q)) : Ev prog w C ρ M (.Call (.Name (Str.ofString "chr") np) args [] pos) Q :=
  ev_bi O (n_chr _) b_chr (by decide) hx (by decide) he hp h
theorem n_max (P : Params) : nsIn (hd.heap_39 P) mainGlobals (Str.ofString "max") = some none := rfl
theorem b_max : bootBuiltins (Str.ofString "max") = some (.builtin "max") := rfl
theorem bi_max {np pos : Pos} {args : List Expr} (O : CxOk (GB w.params mg mb) C n) (hx : C.env.kindOf (Str.ofString "max") = some .globalImplicit)
    (he : Heads args C.env) (hp : (backTo pos (starEach args C.env)).any (·.1) = false)
    (h : Evs prog w C ρ M pos args (KOpN prog w C ρ (fun vs => PySem.call (.builtin "max") vs) Q)) : Ev prog w C ρ M (.Call (.Name (Str.ofString "max") np) args [] pos) Q :=
  ev_bi O (n_max _) b_max (by decide) hx (by decide) he hp h
theorem n_tuple (P : Params) : nsIn (hd.heap_39 P) mainGlobals (Str.ofString "tuple") = some none := rfl
theorem b_tuple : bootBuiltins (Str.ofString "tuple") = some (.type "tuple") := rfl
theorem bi_tuple {np pos : Pos} {args : List Expr} (O : CxOk (GB w.params mg mb) C n) (hx : C.env.kindOf (Str.ofString "tuple") = some .globalImplicit)
    (he : Heads args C.env) (hp : (backTo pos (starEach args C.env)).any (·.1) = false)
    (h : Evs prog w C ρ M pos args (KOpN prog w C ρ (fun vs => PySem.call (.type "tuple") vs) Q)) : Ev prog w C ρ M (.Call (.Name (Str.ofString "tuple") np) args [] pos) Q :=
  ev_ty O (n_tuple _) b_tuple (by decide) hx (by decide) he hp h
theorem ty_tuple {pos : Pos} (O : CxOk (GB w.params mg mb) C n) (hx : C.env.kindOf (Str.ofString "tuple") = some .globalImplicit) (q : Q (.raw (.type "tuple")) M) : Ev prog w C ρ M (.Name (Str.ofString "tuple") pos) Q :=
  ev_builtin O (n_tuple _) b_tuple (by decide) q hx (by decide)
theorem n_list (P : Params) : nsIn (hd.heap_39 P) mainGlobals (Str.ofString "list") = some none := rfl
theorem b_list : bootBuiltins (Str.ofString "list") = some (.type "list") := rfl
theorem bi_list {np pos : Pos} {args : List Expr} (O : CxOk (GB w.params mg mb) C n) (hx : C.env.kindOf (Str.ofString "list") = some .globalImplicit)
    (he : Heads args C.env) (hp : (backTo pos (starEach args C.env)).any (·.1) = false)
    (h : Evs prog w C ρ M pos args (KOpN prog w C ρ (fun vs => PySem.call (.type "list") vs) Q)) : Ev prog w C ρ M (.Call (.Name (Str.ofString "list") np) args [] pos) Q :=
  ev_ty O (n_list _) b_list (by decide) hx (by decide) he hp h
theorem n_bytes (P : Params) : nsIn (hd.heap_39 P) mainGlobals (Str.ofString "bytes") = some none := rfl
theorem b_bytes : bootBuiltins (Str.ofString "bytes") = some (.type "bytes") := rfl
theorem bi_bytes {np pos : Pos} {args : List Expr} (O : CxOk (GB w.params mg mb) C n) (hx : C.env.kindOf (Str.ofString "bytes") = some .globalImplicit)
    (he : Heads args C.env) (hp : (backTo pos (starEach args C.env)).any (·.1) = false)
    (h : Evs prog w C ρ M pos args (KOpN prog w C ρ (fun vs => PySem.call (.type "bytes") vs) Q)) : Ev prog w C ρ M (.Call (.Name (Str.ofString "bytes") np) args [] pos) Q :=
  ev_ty O (n_bytes _) b_bytes (by decide) hx (by decide) he hp h
theorem ty_bytes {pos : Pos} (O : CxOk (GB w.params mg mb) C n) (hx : C.env.kindOf (Str.ofString "bytes") = some .globalImplicit) (q : Q (.raw (.type "bytes")) M) : Ev prog w C ρ M (.Name (Str.ofString "bytes") pos) Q :=
  ev_builtin O (n_bytes _) b_bytes (by decide) q hx (by decide)
theorem n_int (P : Params) : nsIn (hd.heap_39 P) mainGlobals (Str.ofString "int") = some none := rfl
theorem b_int : bootBuiltins (Str.ofString "int") = some (.type "int") := rfl
theorem bi_int {np pos : Pos} {args : List Expr} (O : CxOk (GB w.params mg mb) C n) (hx : C.env.kindOf (Str.ofString "int") = some .globalImplicit)
    (he : Heads args C.env) (hp : (backTo pos (starEach args C.env)).any (·.1) = false)
    (h : Evs prog w C ρ M pos args (KOpN prog w C ρ (fun vs => PySem.call (.type "int") vs) Q)) : Ev prog w C ρ M (.Call (.Name (Str.ofString "int") np) args [] pos) Q :=
  ev_ty O (n_int _) b_int (by decide) hx (by decide) he hp h
theorem ty_int {pos : Pos} (O : CxOk (GB w.params mg mb) C n) (hx : C.env.kindOf (Str.ofString "int") = some .globalImplicit) (q : Q (.raw (.type "int")) M) : Ev prog w C ρ M (.Name (Str.ofString "int") pos) Q :=
  ev_builtin O (n_int _) b_int (by decide) q hx (by decide)
theorem n_bool (P : Params) : nsIn (hd.heap_39 P) mainGlobals (Str.ofString "bool") = some none := rfl
theorem b_bool : bootBuiltins (Str.ofString "bool") = some (.type "bool") := rfl
theorem ty_bool {pos : Pos} (O : CxOk (GB w.params mg mb) C n) (hx : C.env.kindOf (Str.ofString "bool") = some .globalImplicit) (q : Q (.raw (.type "bool")) M) : Ev prog w C ρ M (.Name (Str.ofString "bool") pos) Q :=
  ev_builtin O (n_bool _) b_bool (by decide) q hx (by decide)
theorem n_range (P : Params) : nsIn (hd.heap_39 P) mainGlobals (Str.ofString "range") = some none := rfl
theorem b_range : bootBuiltins (Str.ofString "range") = some (.type "range") := rfl
theorem bi_range {np pos : Pos} {args : List Expr} (O : CxOk (GB w.params mg mb) C n) (hx : C.env.kindOf (Str.ofString "range") = some .globalImplicit)
    (he : Heads args C.env) (hp : (backTo pos (starEach args C.env)).any (·.1) = false)
    (h : Evs prog w C ρ M pos args (KOpN prog w C ρ (fun vs => PySem.call (.type "range") vs) Q)) : Ev prog w C ρ M (.Call (.Name (Str.ofString "range") np) args [] pos) Q :=
  ev_ty O (n_range _) b_range (by decide) hx (by decide) he hp h
theorem ty_range {pos : Pos} (O : CxOk (GB w.params mg mb) C n) (hx : C.env.kindOf (Str.ofString "range") = some .globalImplicit) (q : Q (.raw (.type "range")) M) : Ev prog w C ρ M (.Name (Str.ofString "range") pos) Q :=
  ev_builtin O (n_range _) b_range (by decide) q hx (by decide)
theorem n_enumerate (P : Params) : nsIn (hd.heap_39 P) mainGlobals (Str.ofString "enumerate") = some none := rfl
theorem b_enumerate : bootBuiltins (Str.ofString "enumerate") = some (.type "enumerate") := rfl
theorem bi_enumerate {np pos : Pos} {args : List Expr} (O : CxOk (GB w.params mg mb) C n) (hx : C.env.kindOf (Str.ofString "enumerate") = some .globalImplicit)
    (he : Heads args C.env) (hp : (backTo pos (starEach args C.env)).any (·.1) = false)
    (h : Evs prog w C ρ M pos args (KOpN prog w C ρ (fun vs => PySem.call (.type "enumerate") vs) Q)) : Ev prog w C ρ M (.Call (.Name (Str.ofString "enumerate") np) args [] pos) Q :=
  ev_ty O (n_enumerate _) b_enumerate (by decide) hx (by decide) he hp h
theorem ty_enumerate {pos : Pos} (O : CxOk (GB w.params mg mb) C n) (hx : C.env.kindOf (Str.ofString "enumerate") = some .globalImplicit) (q : Q (.raw (.type "enumerate")) M) : Ev prog w C ρ M (.Name (Str.ofString "enumerate") pos) Q :=
  ev_builtin O (n_enumerate _) b_enumerate (by decide) q hx (by decide)
theorem n_zip (P : Params) : nsIn (hd.heap_39 P) mainGlobals (Str.ofString "zip") = some none := rfl
theorem b_zip : bootBuiltins (Str.ofString "zip") = some (.type "zip") := rfl
theorem bi_zip {np pos : Pos} {args : List Expr} (O : CxOk (GB w.params mg mb) C n) (hx : C.env.kindOf (Str.ofString "zip") = some .globalImplicit)
    (he : Heads args C.env) (hp : (backTo pos (starEach args C.env)).any (·.1) = false)
    (h : Evs prog w C ρ M pos args (KOpN prog w C ρ (fun vs => PySem.call (.type "zip") vs) Q)) : Ev prog w C ρ M (.Call (.Name (Str.ofString "zip") np) args [] pos) Q :=
  ev_ty O (n_zip _) b_zip (by decide) hx (by decide) he hp h
theorem ty_zip {pos : Pos} (O : CxOk (GB w.params mg mb) C n) (hx : C.env.kindOf (Str.ofString "zip") = some .globalImplicit) (q : Q (.raw (.type "zip")) M) : Ev prog w C ρ M (.Name (Str.ofString "zip") pos) Q :=
  ev_builtin O (n_zip _) b_zip (by decide) q hx (by decide)
theorem g_runtime_panic (P : Params) : nsIn (hd.heap_39 P) mainGlobals (Str.ofString "runtime_panic") = some (some (.ref 62)) := rfl
theorem g_value_tag (P : Params) : nsIn (hd.heap_39 P) mainGlobals (Str.ofString "value_tag") = some (some (.ref 70)) := rfl
theorem k_value_tag (P : Params) : ∃ oc od fd osl, (hd.heap_39 P).lookup 70 = some ⟨oc, od, .func fd, osl⟩ := ⟨_, _, _, _, rfl⟩
theorem df_value_tag {np pos : Pos} {args : List Expr} (n' : Nat) (O : CxOk (GB w.params mg mb) C n) (hx : C.env.kindOf (Str.ofString "value_tag") = some .globalImplicit)
    (he : Heads args C.env) (hn : n' ≤ n)
    (h : Evs prog w C ρ M pos args (KFn prog w (GB w.params mg mb) (.ref 70) n' Q)) : Ev prog w C ρ M (.Call (.Name (Str.ofString "value_tag") np) args [] pos) Q := by
  obtain ⟨uu, uu, uu, uu, hK⟩ := k_value_tag w.params
  exact ev_def 70 n' O hn (g_value_tag _) hK hx (by decide) he h
theorem g_faces_equal (P : Params) : nsIn (hd.heap_39 P) mainGlobals (Str.ofString "faces_equal") = some (some (.ref 77)) := rfl
theorem k_faces_equal (P : Params) : ∃ oc od fd osl, (hd.heap_39 P).lookup 77 = some ⟨oc, od, .func fd, osl⟩ := ⟨_, _, _, _, rfl⟩
theorem dx_faces_equal {np pos : Pos} {args : List Expr} (n' : Nat) (O : CxOk (GB w.params mg mb) C n) (hx : C.env.kindOf (Str.ofString "faces_equal") = some .globalImplicit)
    (he : Heads args C.env) (hn : n' ≤ n) (hE : Takes C X)
    (h : Evs prog w C ρ M pos args (KFnX prog w (GB w.params mg mb) (.ref 77) n' X Q)) : Ev prog w C ρ M (.Call (.Name (Str.ofString "faces_equal") np) args [] pos) Q := by
  obtain ⟨uu, uu, uu, uu, hK⟩ := k_faces_equal w.params
  exact ev_defx 77 n' O hn (g_faces_equal _) hK hx (by decide) he hE h
theorem g_values_equal (P : Params) : nsIn (hd.heap_39 P) mainGlobals (Str.ofString "values_equal") = some (some (.ref 84)) := rfl
theorem k_values_equal (P : Params) : ∃ oc od fd osl, (hd.heap_39 P).lookup 84 = some ⟨oc, od, .func fd, osl⟩ := ⟨_, _, _, _, rfl⟩
theorem dx_values_equal {np pos : Pos} {args : List Expr} (n' : Nat) (O : CxOk (GB w.params mg mb) C n) (hx : C.env.kindOf (Str.ofString "values_equal") = some .globalImplicit)
    (he : Heads args C.env) (hn : n' ≤ n) (hE : Takes C X)
    (h : Evs prog w C ρ M pos args (KFnX prog w (GB w.params mg mb) (.ref 84) n' X Q)) : Ev prog w C ρ M (.Call (.Name (Str.ofString "values_equal") np) args [] pos) Q := by
  obtain ⟨uu, uu, uu, uu, hK⟩ := k_values_equal w.params
  exact ev_defx 84 n' O hn (g_values_equal _) hK hx (by decide) he hE h
theorem g_value_key (P : Params) : nsIn (hd.heap_39 P) mainGlobals (Str.ofString "value_key") = some (some (.ref 89)) := rfl
theorem k_value_key (P : Params) : ∃ oc od fd osl, (hd.heap_39 P).lookup 89 = some ⟨oc, od, .func fd, osl⟩ := ⟨_, _, _, _, rfl⟩
theorem dx_value_key {np pos : Pos} {args : List Expr} (n' : Nat) (O : CxOk (GB w.params mg mb) C n) (hx : C.env.kindOf (Str.ofString "value_key") = some .globalImplicit)
    (he : Heads args C.env) (hn : n' ≤ n) (hE : Takes C X)
    (h : Evs prog w C ρ M pos args (KFnX prog w (GB w.params mg mb) (.ref 89) n' X Q)) : Ev prog w C ρ M (.Call (.Name (Str.ofString "value_key") np) args [] pos) Q := by
  obtain ⟨uu, uu, uu, uu, hK⟩ := k_value_key w.params
  exact ev_defx 89 n' O hn (g_value_key _) hK hx (by decide) he hE h
theorem g_is_right_rune (P : Params) : nsIn (hd.heap_39 P) mainGlobals (Str.ofString "is_right_rune") = some (some (.ref 100)) := rfl
theorem k_is_right_rune (P : Params) : ∃ oc od fd osl, (hd.heap_39 P).lookup 100 = some ⟨oc, od, .func fd, osl⟩ := ⟨_, _, _, _, rfl⟩
theorem df_is_right_rune {np pos : Pos} {args : List Expr} (n' : Nat) (O : CxOk (GB w.params mg mb) C n) (hx : C.env.kindOf (Str.ofString "is_right_rune") = some .globalImplicit)
    (he : Heads args C.env) (hn : n' ≤ n)
    (h : Evs prog w C ρ M pos args (KFn prog w (GB w.params mg mb) (.ref 100) n' Q)) : Ev prog w C ρ M (.Call (.Name (Str.ofString "is_right_rune") np) args [] pos) Q := by
  obtain ⟨uu, uu, uu, uu, hK⟩ := k_is_right_rune w.params
  exact ev_def 100 n' O hn (g_is_right_rune _) hK hx (by decide) he h
theorem g_head_of (P : Params) : nsIn (hd.heap_39 P) mainGlobals (Str.ofString "head_of") = some (some (.ref 107)) := rfl
theorem k_head_of (P : Params) : ∃ oc od fd osl, (hd.heap_39 P).lookup 107 = some ⟨oc, od, .func fd, osl⟩ := ⟨_, _, _, _, rfl⟩
theorem df_head_of {np pos : Pos} {args : List Expr} (n' : Nat) (O : CxOk (GB w.params mg mb) C n) (hx : C.env.kindOf (Str.ofString "head_of") = some .globalImplicit)
    (he : Heads args C.env) (hn : n' ≤ n)
    (h : Evs prog w C ρ M pos args (KFn prog w (GB w.params mg mb) (.ref 107) n' Q)) : Ev prog w C ρ M (.Call (.Name (Str.ofString "head_of") np) args [] pos) Q := by
  obtain ⟨uu, uu, uu, uu, hK⟩ := k_head_of w.params
  exact ev_def 107 n' O hn (g_head_of _) hK hx (by decide) he h
theorem g_rune_at (P : Params) : nsIn (hd.heap_39 P) mainGlobals (Str.ofString "rune_at") = some (some (.ref 114)) := rfl
theorem k_rune_at (P : Params) : ∃ oc od fd osl, (hd.heap_39 P).lookup 114 = some ⟨oc, od, .func fd, osl⟩ := ⟨_, _, _, _, rfl⟩
theorem df_rune_at {np pos : Pos} {args : List Expr} (n' : Nat) (O : CxOk (GB w.params mg mb) C n) (hx : C.env.kindOf (Str.ofString "rune_at") = some .globalImplicit)
    (he : Heads args C.env) (hn : n' ≤ n)
    (h : Evs prog w C ρ M pos args (KFn prog w (GB w.params mg mb) (.ref 114) n' Q)) : Ev prog w C ρ M (.Call (.Name (Str.ofString "rune_at") np) args [] pos) Q := by
  obtain ⟨uu, uu, uu, uu, hK⟩ := k_rune_at w.params
  exact ev_def 114 n' O hn (g_rune_at _) hK hx (by decide) he h
theorem g_runes_of (P : Params) : nsIn (hd.heap_39 P) mainGlobals (Str.ofString "runes_of") = some (some (.ref 121)) := rfl
theorem k_runes_of (P : Params) : ∃ oc od fd osl, (hd.heap_39 P).lookup 121 = some ⟨oc, od, .func fd, osl⟩ := ⟨_, _, _, _, rfl⟩
theorem df_runes_of {np pos : Pos} {args : List Expr} (n' : Nat) (O : CxOk (GB w.params mg mb) C n) (hx : C.env.kindOf (Str.ofString "runes_of") = some .globalImplicit)
    (he : Heads args C.env) (hn : n' ≤ n)
    (h : Evs prog w C ρ M pos args (KFn prog w (GB w.params mg mb) (.ref 121) n' Q)) : Ev prog w C ρ M (.Call (.Name (Str.ofString "runes_of") np) args [] pos) Q := by
  obtain ⟨uu, uu, uu, uu, hK⟩ := k_runes_of w.params
  exact ev_def 121 n' O hn (g_runes_of _) hK hx (by decide) he h
theorem g_rune_places (P : Params) : nsIn (hd.heap_39 P) mainGlobals (Str.ofString "rune_places") = some (some (.ref 128)) := rfl
theorem k_rune_places (P : Params) : ∃ oc od fd osl, (hd.heap_39 P).lookup 128 = some ⟨oc, od, .func fd, osl⟩ := ⟨_, _, _, _, rfl⟩
theorem df_rune_places {np pos : Pos} {args : List Expr} (n' : Nat) (O : CxOk (GB w.params mg mb) C n) (hx : C.env.kindOf (Str.ofString "rune_places") = some .globalImplicit)
    (he : Heads args C.env) (hn : n' ≤ n)
    (h : Evs prog w C ρ M pos args (KFn prog w (GB w.params mg mb) (.ref 128) n' Q)) : Ev prog w C ρ M (.Call (.Name (Str.ofString "rune_places") np) args [] pos) Q := by
  obtain ⟨uu, uu, uu, uu, hK⟩ := k_rune_places w.params
  exact ev_def 128 n' O hn (g_rune_places _) hK hx (by decide) he h
theorem g_octets_of_rune (P : Params) : nsIn (hd.heap_39 P) mainGlobals (Str.ofString "octets_of_rune") = some (some (.ref 133)) := rfl
theorem k_octets_of_rune (P : Params) : ∃ oc od fd osl, (hd.heap_39 P).lookup 133 = some ⟨oc, od, .func fd, osl⟩ := ⟨_, _, _, _, rfl⟩
theorem df_octets_of_rune {np pos : Pos} {args : List Expr} (n' : Nat) (O : CxOk (GB w.params mg mb) C n) (hx : C.env.kindOf (Str.ofString "octets_of_rune") = some .globalImplicit)
    (he : Heads args C.env) (hn : n' ≤ n)
    (h : Evs prog w C ρ M pos args (KFn prog w (GB w.params mg mb) (.ref 133) n' Q)) : Ev prog w C ρ M (.Call (.Name (Str.ofString "octets_of_rune") np) args [] pos) Q := by
  obtain ⟨uu, uu, uu, uu, hK⟩ := k_octets_of_rune w.params
  exact ev_def 133 n' O hn (g_octets_of_rune _) hK hx (by decide) he h
theorem g_octets_of (P : Params) : nsIn (hd.heap_39 P) mainGlobals (Str.ofString "octets_of") = some (some (.ref 138)) := rfl
theorem k_octets_of (P : Params) : ∃ oc od fd osl, (hd.heap_39 P).lookup 138 = some ⟨oc, od, .func fd, osl⟩ := ⟨_, _, _, _, rfl⟩
theorem df_octets_of {np pos : Pos} {args : List Expr} (n' : Nat) (O : CxOk (GB w.params mg mb) C n) (hx : C.env.kindOf (Str.ofString "octets_of") = some .globalImplicit)
    (he : Heads args C.env) (hn : n' ≤ n)
    (h : Evs prog w C ρ M pos args (KFn prog w (GB w.params mg mb) (.ref 138) n' Q)) : Ev prog w C ρ M (.Call (.Name (Str.ofString "octets_of") np) args [] pos) Q := by
  obtain ⟨uu, uu, uu, uu, hK⟩ := k_octets_of w.params
  exact ev_def 138 n' O hn (g_octets_of _) hK hx (by decide) he h
theorem g__law_pool (P : Params) : nsIn (hd.heap_39 P) mainGlobals (Str.ofString "_law_pool") = some (some (.ref 145)) := rfl
theorem k__law_pool (P : Params) : ∃ oc od fd osl, (hd.heap_39 P).lookup 145 = some ⟨oc, od, .func fd, osl⟩ := ⟨_, _, _, _, rfl⟩
theorem g__law_take (P : Params) : nsIn (hd.heap_39 P) mainGlobals (Str.ofString "_law_take") = some (some (.ref 152)) := rfl
theorem k__law_take (P : Params) : ∃ oc od fd osl, (hd.heap_39 P).lookup 152 = some ⟨oc, od, .func fd, osl⟩ := ⟨_, _, _, _, rfl⟩
theorem df__law_take {np pos : Pos} {args : List Expr} (n' : Nat) (O : CxOk (GB w.params mg mb) C n) (hx : C.env.kindOf (Str.ofString "_law_take") = some .globalImplicit)
    (he : Heads args C.env) (hn : n' ≤ n)
    (h : Evs prog w C ρ M pos args (KFn prog w (GB w.params mg mb) (.ref 152) n' Q)) : Ev prog w C ρ M (.Call (.Name (Str.ofString "_law_take") np) args [] pos) Q := by
  obtain ⟨uu, uu, uu, uu, hK⟩ := k__law_take w.params
  exact ev_def 152 n' O hn (g__law_take _) hK hx (by decide) he h
theorem g__law_one (P : Params) : nsIn (hd.heap_39 P) mainGlobals (Str.ofString "_law_one") = some (some (.ref 159)) := rfl
theorem k__law_one (P : Params) : ∃ oc od fd osl, (hd.heap_39 P).lookup 159 = some ⟨oc, od, .func fd, osl⟩ := ⟨_, _, _, _, rfl⟩
theorem df__law_one {np pos : Pos} {args : List Expr} (n' : Nat) (O : CxOk (GB w.params mg mb) C n) (hx : C.env.kindOf (Str.ofString "_law_one") = some .globalImplicit)
    (he : Heads args C.env) (hn : n' ≤ n)
    (h : Evs prog w C ρ M pos args (KFn prog w (GB w.params mg mb) (.ref 159) n' Q)) : Ev prog w C ρ M (.Call (.Name (Str.ofString "_law_one") np) args [] pos) Q := by
  obtain ⟨uu, uu, uu, uu, hK⟩ := k__law_one w.params
  exact ev_def 159 n' O hn (g__law_one _) hK hx (by decide) he h
theorem g__law_may (P : Params) : nsIn (hd.heap_39 P) mainGlobals (Str.ofString "_law_may") = some (some (.ref 166)) := rfl
theorem k__law_may (P : Params) : ∃ oc od fd osl, (hd.heap_39 P).lookup 166 = some ⟨oc, od, .func fd, osl⟩ := ⟨_, _, _, _, rfl⟩
theorem df__law_may {np pos : Pos} {args : List Expr} (n' : Nat) (O : CxOk (GB w.params mg mb) C n) (hx : C.env.kindOf (Str.ofString "_law_may") = some .globalImplicit)
    (he : Heads args C.env) (hn : n' ≤ n)
    (h : Evs prog w C ρ M pos args (KFn prog w (GB w.params mg mb) (.ref 166) n' Q)) : Ev prog w C ρ M (.Call (.Name (Str.ofString "_law_may") np) args [] pos) Q := by
  obtain ⟨uu, uu, uu, uu, hK⟩ := k__law_may w.params
  exact ev_def 166 n' O hn (g__law_may _) hK hx (by decide) he h
theorem g__law_leaf (P : Params) : nsIn (hd.heap_39 P) mainGlobals (Str.ofString "_law_leaf") = some (some (.ref 173)) := rfl
theorem k__law_leaf (P : Params) : ∃ oc od fd osl, (hd.heap_39 P).lookup 173 = some ⟨oc, od, .func fd, osl⟩ := ⟨_, _, _, _, rfl⟩
theorem df__law_leaf {np pos : Pos} {args : List Expr} (n' : Nat) (O : CxOk (GB w.params mg mb) C n) (hx : C.env.kindOf (Str.ofString "_law_leaf") = some .globalImplicit)
    (he : Heads args C.env) (hn : n' ≤ n)
    (h : Evs prog w C ρ M pos args (KFn prog w (GB w.params mg mb) (.ref 173) n' Q)) : Ev prog w C ρ M (.Call (.Name (Str.ofString "_law_leaf") np) args [] pos) Q := by
  obtain ⟨uu, uu, uu, uu, hK⟩ := k__law_leaf w.params
  exact ev_def 173 n' O hn (g__law_leaf _) hK hx (by decide) he h
theorem g__law_value (P : Params) : nsIn (hd.heap_39 P) mainGlobals (Str.ofString "_law_value") = some (some (.ref 178)) := rfl
theorem k__law_value (P : Params) : ∃ oc od fd osl, (hd.heap_39 P).lookup 178 = some ⟨oc, od, .func fd, osl⟩ := ⟨_, _, _, _, rfl⟩
theorem df__law_value {np pos : Pos} {args : List Expr} (n' : Nat) (O : CxOk (GB w.params mg mb) C n) (hx : C.env.kindOf (Str.ofString "_law_value") = some .globalImplicit)
    (he : Heads args C.env) (hn : n' ≤ n)
    (h : Evs prog w C ρ M pos args (KFn prog w (GB w.params mg mb) (.ref 178) n' Q)) : Ev prog w C ρ M (.Call (.Name (Str.ofString "_law_value") np) args [] pos) Q := by
  obtain ⟨uu, uu, uu, uu, hK⟩ := k__law_value w.params
  exact ev_def 178 n' O hn (g__law_value _) hK hx (by decide) he h
theorem g__law_loose (P : Params) : nsIn (hd.heap_39 P) mainGlobals (Str.ofString "_law_loose") = some (some (.ref 185)) := rfl
theorem k__law_loose (P : Params) : ∃ oc od fd osl, (hd.heap_39 P).lookup 185 = some ⟨oc, od, .func fd, osl⟩ := ⟨_, _, _, _, rfl⟩
theorem df__law_loose {np pos : Pos} {args : List Expr} (n' : Nat) (O : CxOk (GB w.params mg mb) C n) (hx : C.env.kindOf (Str.ofString "_law_loose") = some .globalImplicit)
    (he : Heads args C.env) (hn : n' ≤ n)
    (h : Evs prog w C ρ M pos args (KFn prog w (GB w.params mg mb) (.ref 185) n' Q)) : Ev prog w C ρ M (.Call (.Name (Str.ofString "_law_loose") np) args [] pos) Q := by
  obtain ⟨uu, uu, uu, uu, hK⟩ := k__law_loose w.params
  exact ev_def 185 n' O hn (g__law_loose _) hK hx (by decide) he h
theorem g__law_places (P : Params) : nsIn (hd.heap_39 P) mainGlobals (Str.ofString "_law_places") = some (some (.ref 190)) := rfl
theorem k__law_places (P : Params) : ∃ oc od fd osl, (hd.heap_39 P).lookup 190 = some ⟨oc, od, .func fd, osl⟩ := ⟨_, _, _, _, rfl⟩
theorem df__law_places {np pos : Pos} {args : List Expr} (n' : Nat) (O : CxOk (GB w.params mg mb) C n) (hx : C.env.kindOf (Str.ofString "_law_places") = some .globalImplicit)
    (he : Heads args C.env) (hn : n' ≤ n)
    (h : Evs prog w C ρ M pos args (KFn prog w (GB w.params mg mb) (.ref 190) n' Q)) : Ev prog w C ρ M (.Call (.Name (Str.ofString "_law_places") np) args [] pos) Q := by
  obtain ⟨uu, uu, uu, uu, hK⟩ := k__law_places w.params
  exact ev_def 190 n' O hn (g__law_places _) hK hx (by decide) he h
theorem g__law_put (P : Params) : nsIn (hd.heap_39 P) mainGlobals (Str.ofString "_law_put") = some (some (.ref 197)) := rfl
theorem k__law_put (P : Params) : ∃ oc od fd osl, (hd.heap_39 P).lookup 197 = some ⟨oc, od, .func fd, osl⟩ := ⟨_, _, _, _, rfl⟩
theorem df__law_put {np pos : Pos} {args : List Expr} (n' : Nat) (O : CxOk (GB w.params mg mb) C n) (hx : C.env.kindOf (Str.ofString "_law_put") = some .globalImplicit)
    (he : Heads args C.env) (hn : n' ≤ n)
    (h : Evs prog w C ρ M pos args (KFn prog w (GB w.params mg mb) (.ref 197) n' Q)) : Ev prog w C ρ M (.Call (.Name (Str.ofString "_law_put") np) args [] pos) Q := by
  obtain ⟨uu, uu, uu, uu, hK⟩ := k__law_put w.params
  exact ev_def 197 n' O hn (g__law_put _) hK hx (by decide) he h
theorem g__law_sort (P : Params) : nsIn (hd.heap_39 P) mainGlobals (Str.ofString "_law_sort") = some (some (.ref 204)) := rfl
theorem k__law_sort (P : Params) : ∃ oc od fd osl, (hd.heap_39 P).lookup 204 = some ⟨oc, od, .func fd, osl⟩ := ⟨_, _, _, _, rfl⟩
theorem df__law_sort {np pos : Pos} {args : List Expr} (n' : Nat) (O : CxOk (GB w.params mg mb) C n) (hx : C.env.kindOf (Str.ofString "_law_sort") = some .globalImplicit)
    (he : Heads args C.env) (hn : n' ≤ n)
    (h : Evs prog w C ρ M pos args (KFn prog w (GB w.params mg mb) (.ref 204) n' Q)) : Ev prog w C ρ M (.Call (.Name (Str.ofString "_law_sort") np) args [] pos) Q := by
  obtain ⟨uu, uu, uu, uu, hK⟩ := k__law_sort w.params
  exact ev_def 204 n' O hn (g__law_sort _) hK hx (by decide) he h
theorem g__law_alike (P : Params) : nsIn (hd.heap_39 P) mainGlobals (Str.ofString "_law_alike") = some (some (.ref 211)) := rfl
theorem k__law_alike (P : Params) : ∃ oc od fd osl, (hd.heap_39 P).lookup 211 = some ⟨oc, od, .func fd, osl⟩ := ⟨_, _, _, _, rfl⟩
theorem df__law_alike {np pos : Pos} {args : List Expr} (n' : Nat) (O : CxOk (GB w.params mg mb) C n) (hx : C.env.kindOf (Str.ofString "_law_alike") = some .globalImplicit)
    (he : Heads args C.env) (hn : n' ≤ n)
    (h : Evs prog w C ρ M pos args (KFn prog w (GB w.params mg mb) (.ref 211) n' Q)) : Ev prog w C ρ M (.Call (.Name (Str.ofString "_law_alike") np) args [] pos) Q := by
  obtain ⟨uu, uu, uu, uu, hK⟩ := k__law_alike w.params
  exact ev_def 211 n' O hn (g__law_alike _) hK hx (by decide) he h
theorem g__law_called (P : Params) : nsIn (hd.heap_39 P) mainGlobals (Str.ofString "_law_called") = some (some (.ref 218)) := rfl
theorem k__law_called (P : Params) : ∃ oc od fd osl, (hd.heap_39 P).lookup 218 = some ⟨oc, od, .func fd, osl⟩ := ⟨_, _, _, _, rfl⟩
theorem g__law_pair_right (P : Params) : nsIn (hd.heap_39 P) mainGlobals (Str.ofString "_law_pair_right") = some (some (.ref 223)) := rfl
theorem k__law_pair_right (P : Params) : ∃ oc od fd osl, (hd.heap_39 P).lookup 223 = some ⟨oc, od, .func fd, osl⟩ := ⟨_, _, _, _, rfl⟩
theorem g__law_values_right (P : Params) : nsIn (hd.heap_39 P) mainGlobals (Str.ofString "_law_values_right") = some (some (.ref 230)) := rfl
theorem k__law_values_right (P : Params) : ∃ oc od fd osl, (hd.heap_39 P).lookup 230 = some ⟨oc, od, .func fd, osl⟩ := ⟨_, _, _, _, rfl⟩
theorem g__law_width (P : Params) : nsIn (hd.heap_39 P) mainGlobals (Str.ofString "_law_width") = some (some (.ref 237)) := rfl
theorem k__law_width (P : Params) : ∃ oc od fd osl, (hd.heap_39 P).lookup 237 = some ⟨oc, od, .func fd, osl⟩ := ⟨_, _, _, _, rfl⟩
theorem df__law_width {np pos : Pos} {args : List Expr} (n' : Nat) (O : CxOk (GB w.params mg mb) C n) (hx : C.env.kindOf (Str.ofString "_law_width") = some .globalImplicit)
    (he : Heads args C.env) (hn : n' ≤ n)
    (h : Evs prog w C ρ M pos args (KFn prog w (GB w.params mg mb) (.ref 237) n' Q)) : Ev prog w C ρ M (.Call (.Name (Str.ofString "_law_width") np) args [] pos) Q := by
  obtain ⟨uu, uu, uu, uu, hK⟩ := k__law_width w.params
  exact ev_def 237 n' O hn (g__law_width _) hK hx (by decide) he h
theorem g__law_runes_right (P : Params) : nsIn (hd.heap_39 P) mainGlobals (Str.ofString "_law_runes_right") = some (some (.ref 242)) := rfl
theorem k__law_runes_right (P : Params) : ∃ oc od fd osl, (hd.heap_39 P).lookup 242 = some ⟨oc, od, .func fd, osl⟩ := ⟨_, _, _, _, rfl⟩
theorem df__law_runes_right {np pos : Pos} {args : List Expr} (n' : Nat) (O : CxOk (GB w.params mg mb) C n) (hx : C.env.kindOf (Str.ofString "_law_runes_right") = some .globalImplicit)
    (he : Heads args C.env) (hn : n' ≤ n)
    (h : Evs prog w C ρ M pos args (KFn prog w (GB w.params mg mb) (.ref 242) n' Q)) : Ev prog w C ρ M (.Call (.Name (Str.ofString "_law_runes_right") np) args [] pos) Q := by
  obtain ⟨uu, uu, uu, uu, hK⟩ := k__law_runes_right w.params
  exact ev_def 242 n' O hn (g__law_runes_right _) hK hx (by decide) he h
theorem g_law (P : Params) : nsIn (hd.heap_39 P) mainGlobals (Str.ofString "law") = some (some (.ref 249)) := rfl
theorem gn_may {pos : Pos} (O : CxOk (GB w.params mg mb) C n) (hx : C.env.kindOf (Str.ofString "_law_may") = some .globalImplicit) (q : Q (.raw (.ref 166)) M) : Ev prog w C ρ M (.Name (Str.ofString "_law_may") pos) Q :=
  ev_global O (g__law_may _) (fun uu uu => .raw _) q hx (by decide)
end
end Mine

end
open PySem PySem.W PyProof.Rows
set_option maxRecDepth 100000
set_option linter.unusedVariables false
set_option maxHeartbeats 4000000
namespace Mine
set_option compiler.extract_closed false
local macro_rules | `(tactic| walk_at "ds") => `(tactic| first
  | (with_reducible (first | refine ss_cons ?_ | refine ss_nil ?_ | refine sx_if ?_ | refine sx_return ?_ | refine te_not ?_ | refine te_boolop ?_ | refine al_or_cons ?_ | refine al_and_cons ?_ | refine al_or_nil ?_ | refine al_and_nil ?_ | refine ev_int ?_ | refine ev_str ?_ | refine ev_bool ?_ | refine ev_none ?_ | refine ev_bytes ?_ | refine ev_binop ?_ | refine ev_unary ?_ | refine ev_ifexp ?_ | refine ev_tuple ?_ | refine evs_nil ?_ | refine ev_list ?_ | refine as_sub ?_ | refine ass_cons ?_ | refine ass_nil ?_))
  | ((with_reducible refine' ev_name ?h1 ?_ ?h2 ?h3 ?h4); (case h1 => rfl); (case h2 => rfl); (case h3 => rfl); (case h4 => rfl))
  | ((with_reducible (first | refine te_compare ?_ ?h1 | refine te_value ?_ ?h1 | refine ev_compare ?_ ?h1 | refine evs_cons ?_ ?h1)); (case h1 => rfl))
  | ((with_reducible refine sx_assign ?_ ?h1 ?h2 ?h3); (case h1 => rfl); (case h2 => rfl); (case h3 => rfl))
  | ((with_reducible (first | refine ev_slice_from ?_ ?h1 | refine ev_slice_upto ?_ ?h1)); (case h1 => exact fun _ _ => rfl))
  | (with_reducible refine ev_sub ?_)
  | ((with_reducible refine as_name (by assumption) ?_ ?h1); (case h1 => first | exact Or.inl ⟨rfl, List.Mem.head _⟩ | exact Or.inr ⟨rfl, _, rfl, by simp⟩))
  | ((with_reducible refine' sub_at ?hM ?h0 ?h1 ?h2 ?_); (case hM => walk_at "mlook"); (case h0 => omega); (case h1 => (simp only [List.length_cons, List.length_nil, List.length_map, List.length_set]; omega)); (case h2 => omega)))
local macro_rules | `(tactic| walk_at "mlook") => `(tactic| first
  | assumption
  | exact upd_same _ _ _
  | (refine (upd_ne ?_).trans ?_; (first | assumption | (apply Ne.symm; assumption)); walk_at "mlook"))
local macro_rules | `(tactic| walk_at "op") => `(tactic| first
  | (with_reducible (first | refine op_add ?_ | refine op_sub ?_ | refine op_gt ?_ | refine op_lt ?_ | refine op_le ?_ | refine op_ge ?_ | refine op_eq ?_ | refine op_ne ?_ | refine op_eq_str ?_ | refine op_ne_str ?_))
  | ((with_reducible refine' op_item_lst ?hM ?h0 ?h1 ?hx ?_ ?hs); (case hM => walk_at "mlook"); (case h0 => decide); (case h1 => decide); (case hx => rfl); (case hs => exact fun _ _ => rfl))
  | ((with_reducible refine' op_item_tup ?h0 ?h1 ?hj ?hx ?_ ?hs); (case h0 => decide); (case h1 => decide); (case hj => first | rfl | exact seq0 _ _); (case hx => rfl); (case hs => exact fun _ _ => rfl))
  | ((with_reducible (first | refine' op_is_none ?h1 ?_ | refine' op_isa ?h1 ?_)); (case h1 => first | rfl | constructor))
  | ((with_reducible refine' op_mod ?h1 ?_); (case h1 => omega))
  | ((with_reducible refine' op_div ?h1 ?h2 ?_); (case h1 => omega); (case h2 => exact PyProof.noPylong_small (by omega)))
  | ((with_reducible refine' op_mul ?h1 ?_); (case h1 => exact IntMulOk.of_left (intBits_le_64 (by omega) (by omega)))))
local macro_rules | `(tactic| walk_at "bi") => `(tactic| ((with_reducible (first | refine' bi_isinstance ?hO ?h4 ?h6 ?h7 ?_ | refine' bi_len ?hO ?h4 ?h6 ?h7 ?_ | refine' bi_chr ?hO ?h4 ?h6 ?h7 ?_ | refine' bi_max ?hO ?h4 ?h6 ?h7 ?_ | refine' bi_tuple ?hO ?h4 ?h6 ?h7 ?_ | refine' bi_list ?hO ?h4 ?h6 ?h7 ?_ | refine' bi_bytes ?hO ?h4 ?h6 ?h7 ?_ | refine' bi_int ?hO ?h4 ?h6 ?h7 ?_)); (case hO => assumption); (case h4 => rfl); (case h6 => first | exact rfl | trivial); (case h7 => rfl)))
local macro_rules | `(tactic| walk_at "ty") => `(tactic| ((with_reducible (first | refine' ty_tuple ?hO ?h4 ?_ | refine' ty_bytes ?hO ?h4 ?_ | refine' ty_int ?hO ?h4 ?_ | refine' ty_bool ?hO ?h4 ?_ | refine' gn_may ?hO ?h4 ?_)); (case hO => assumption); (case h4 => rfl)))
local macro_rules | `(tactic| walk_at "df") => `(tactic| ((with_reducible (first | refine' df__law_take 10 ?hO ?h4 ?h6 ?h8 ?_ | refine' df__law_one 11 ?hO ?h4 ?h6 ?h8 ?_ | refine' df__law_may 10 ?hO ?h4 ?h6 ?h8 ?_ | refine' df__law_leaf 12 ?hO ?h4 ?h6 ?h8 ?_ | refine' df__law_loose 12 ?hO ?h4 ?h6 ?h8 ?_ | refine' df__law_sort 10 ?hO ?h4 ?h6 ?h8 ?_ | refine' df_value_tag 10 ?hO ?h4 ?h6 ?h8 ?_ | refine' df_is_right_rune 10 ?hO ?h4 ?h6 ?h8 ?_ | refine' df_head_of 10 ?hO ?h4 ?h6 ?h8 ?_ | refine' df_rune_at 11 ?hO ?h4 ?h6 ?h8 ?_ | refine' df_runes_of 12 ?hO ?h4 ?h6 ?h8 ?_ | refine' df_rune_places 12 ?hO ?h4 ?h6 ?h8 ?_ | refine' df_octets_of_rune 12 ?hO ?h4 ?h6 ?h8 ?_ | refine' df_octets_of 13 ?hO ?h4 ?h6 ?h8 ?_ | refine' df__law_width 10 ?hO ?h4 ?h6 ?h8 ?_)); (case hO => assumption); (case h4 => rfl); (case h6 => first | exact rfl | trivial); (case h8 => first | decide | omega)))
local macro_rules | `(tactic| walk_at "d") => `(tactic| first | walk_at "ds" | walk_at "op" | (dsimp only; first | walk_at "ds" | walk_at "op"))
local macro_rules | `(tactic| walk_at "br") => `(tactic| first
  | (with_reducible (first | refine ite_tt ?_ | refine ite_ff ?_ | refine ⟨_, rfl, ?_⟩))
  | ((with_reducible refine ite_t ?hc ?_); (case hc => first | rfl | decide))
  | ((with_reducible refine ite_f ?hc ?_); (case hc => first | rfl | decide))
  | ((with_reducible refine len_and ?hc ?_); (case hc => exact Nat.le_of_ble_eq_true rfl)))
local macro_rules | `(tactic| walk_at "dd") => `(tactic| first | walk_at "ds" | walk_at "op" | walk_at "br" | walk_at "bi" | walk_at "ty" | (dsimp only; first | walk_at "ds" | walk_at "op" | walk_at "br" | walk_at "bi" | walk_at "ty"))
local macro_rules | `(tactic| walk_at "fn1") => `(tactic| ((intro s); (refine vs1 ?_); (intro v1); (exact BindsTo.of_eq rfl)))
local macro_rules | `(tactic| walk_at "fn2") => `(tactic| ((intro s); (refine vs2 ?_); (intro v1 v2); (exact BindsTo.of_eq rfl)))
local macro_rules | `(tactic| walk_at "fn3") => `(tactic| ((intro s); (refine vs3 ?_); (intro v1 v2 v3); (exact BindsTo.of_eq rfl)))
section
open PySem PySem.W PyProof.Rows
set_option maxRecDepth 100000
set_option linter.unusedVariables false
set_option maxHeartbeats 4000000
/-- the source of draws -/
structure Src (M : LMap) (a r : Addr) : Prop where
  ne : a ≠ r
  is : ∃ (x y : Int) (rs : List Int), M a = some [.int x, .int y, .lst r] ∧ M r = some (rs.map .int) ∧ 0 ≤ x ∧ 0 ≤ y ∧ y < 2147483647 ∧ (∀ i ∈ rs, (0 : Int) ≤ i) ∧ rs.length ≤ 7

theorem Src.sub_of {M M' : LMap} {a r : Addr} : True := trivial
theorem fmod_bounds {a b : Int} (h : 0 < b) : 0 ≤ a.fmod b ∧ a.fmod b < b := ⟨Int.fmod_nonneg_of_pos a h, Int.fmod_lt_of_pos a h⟩

variable {w : World} {mg mb : Str → Option Value} {M : LMap}
theorem take_ok {prog : Program} {Q : D → LMap → Prop} {a r : Addr} {top : Int} (S : Src M a r) (h3 : 0 < top) (h4 : top < 1073741824)
    (q : ∀ d M', 0 ≤ d → d < top → Src M' a r → (∀ b, b ≠ a → b ≠ r → M' b = M b) → Q (.int d) M') : Fn prog w (GB w.params mg mb) (.ref 152) 10 [.lst a, .int top] M Q := by
  refine hide fun uu kg => ?_
  obtain ⟨hne, x, y, rs, h1, h2, hx, hy, hy2, hrs, hlen⟩ := S
  refine kg ?_
  refine fn_plain (K := hd.heap_39 w.params) (xs := ["source", "top"]) rfl (by rfl) gb_lim ?hb (by rfl) (by decide) (by rfl) ?_
  case hb =>
    intro s vs h
    match vs, h with
    | [v1, v2], _ => exact BindsTo.of_eq rfl
  intro A base past stk L C Q0 O
  have hu := O.units
  walk_at "d"
  walk_at "d"
  walk_at "d"
  walk_at "d"
  walk_at "d"
  walk_at "d"
  walk_at "d"
  walk_at "d"
  walk_at "d"
  refine ⟨by decide, ?_⟩
  intro b hb
  have hba : a ≠ b := fun z => by (first | exact (nb z hb h1).elim | obtain rfl := sb z hb h1 | (rw [z, hb] at h1; cases h1))
  have hbr : r ≠ b := fun z => by (first | exact (nb z hb h2).elim | obtain rfl := sb z hb h2 | (rw [z, hb] at h2; cases h2))
  refine op_ne_ints (ns := rs) (ms := []) (by omega) ((upd_ne hbr).trans h2) (upd_same _ _ _) ?_
  refine ⟨_, rfl, ?_⟩
  cases rs with
  | cons i rs =>
    refine ite_t (by simp) ?_
    walk_at "d"
    walk_at "d"
    walk_at "d"
    refine ev_method (T := "list") (id := "list.pop") F.plainAttrs_list F.slot_list_pop F.type_list_pop ?_ (by first | exact rfl | trivial) rfl rfl rfl rfl
    walk_at "d"
    walk_at "d"
    walk_at "d"
    walk_at "d"
    refine ⟨⟨rfl, by rw [upd_ne hbr, h2]; rfl⟩, ?_⟩
    walk_at "d"
    walk_at "d"
    walk_at "d"
    refine op_pop0 (d := .int i) (ds := rs.map .int) ((upd_ne hbr).trans h2) (by rw [List.length_map, sizeLine_eq]; simp at hlen; omega) ?_
    walk_at "d"
    refine op_mod (by omega) ?_
    obtain ⟨b1, b2⟩ := fmod_bounds (a := i) h3
    refine ⟨upd M r (rs.map .int), fun c ds e => ?_, q _ _ b1 b2 ⟨hne, x, y, rs, (upd_ne hne).trans h1, upd_same _ _ _, hx, hy, hy2, fun j hj => hrs j (.tail _ hj), ?_⟩ fun c uu hc => upd_ne hc⟩
    · by_cases hc : c = r
      · subst hc; rw [upd_same] at e ⊢; exact e
      · rw [upd_ne hc] at e ⊢
        exact (upd_ne fun z => by (first | exact (nb z hb e).elim | obtain rfl := sb z hb e | (rw [z, hb] at e; cases e))).trans e
    · simp at hlen; omega
  | nil =>
    refine ite_f (by simp) ?_
    walk_at "d"
    repeat walk_at "d"
    refine ⟨_, rfl, ?_⟩
    cases hp : decide (0 < x) with
    | true =>
      refine ite_tt ?_
      have hx0 : 0 < x := of_decide_eq_true hp
      repeat walk_at "d"
      obtain ⟨b1, b2⟩ := fmod_bounds (a := x) h3
      refine ⟨upd M a [.int (x.fdiv top), .int y, .lst r], fun c ds e => ?_, q _ _ b1 b2 ⟨hne, _, y, [], upd_same _ _ _, (upd_ne (Ne.symm hne)).trans h2, ?_, hy, hy2, hrs, hlen⟩ fun c hc uu => upd_ne hc⟩
      · by_cases hc : c = a
        · subst hc; rw [upd_same] at e ⊢; exact e
        · rw [upd_ne hc] at e ⊢
          exact (upd_ne fun z => by (first | exact (nb z hb e).elim | obtain rfl := sb z hb e | (rw [z, hb] at e; cases e))).trans e
      · rw [Int.fdiv_eq_ediv_of_nonneg _ (by omega)]; exact Int.ediv_nonneg hx (by omega)
    | false =>
      refine ite_ff ?_
      obtain ⟨z1, z2⟩ := fmod_bounds (a := y * 39373 + 7) (b := 2147483647) (by decide)
      repeat walk_at "d"
      obtain ⟨b1, b2⟩ := fmod_bounds (a := (((y * 39373 + 7).fmod 2147483647 * (y * 39373 + 7).fmod 2147483647).fmod 2147483629).fdiv 32) h3
      refine ⟨upd M a [.int x, .int ((y * 39373 + 7).fmod 2147483647), .lst r], fun c ds e => ?_, q _ _ b1 b2 ⟨hne, x, _, [], upd_same _ _ _, (upd_ne (Ne.symm hne)).trans h2, hx, z1, z2, hrs, hlen⟩ fun c hc uu => upd_ne hc⟩
      by_cases hc : c = a
      · subst hc; rw [upd_same] at e ⊢; exact e
      · rw [upd_ne hc] at e ⊢
        exact (upd_ne fun z => by (first | exact (nb z hb e).elim | obtain rfl := sb z hb e | (rw [z, hb] at e; cases e))).trans e
end
section
open PySem PySem.W PyProof.Rows
set_option maxRecDepth 100000
set_option linter.unusedVariables false
set_option maxHeartbeats 4000000
variable {w : World} {mg mb : Str → Option Value} {M : LMap}
theorem Src.upd {a r t : Addr} {ds : List D} (S : Src M a r) (h : M t = .none) : Src (upd M t ds) a r := by
  refine hide fun uu kg => ?_
  obtain ⟨hne, x, y, rs, h1, h2, h3⟩ := S
  refine kg ?_
  exact ⟨hne, x, y, rs, (upd_ne fun z => by (first | exact (nb z h h1).elim | obtain rfl := sb z h h1 | (rw [z, h] at h1; cases h1))).trans h1, (upd_ne fun z => by (first | exact (nb z h h2).elim | obtain rfl := sb z h h2 | (rw [z, h] at h2; cases h2))).trans h2, h3⟩
theorem Src.neA {a r t : Addr} (S : Src M a r) (h : M t = .none) : t ≠ a ∧ t ≠ r := by
  refine hide fun uu kg => ?_
  obtain ⟨hne, x, y, rs, h1, h2, uu⟩ := S
  refine kg ?_
  refine ⟨?_, ?_⟩
  · intro z
    rw [← z, h] at h1
    cases h1
  · intro z
    rw [← z, h] at h2
    cases h2
noncomputable def drp (M : LMap) (b : Addr) : LMap := fun c => if c = b then .none else M c
theorem drp_sub (M : LMap) (b : Addr) : Sub (drp M b) M := fun c ds e => by
  unfold drp at e
  by_cases z : c = b
  · (first | exact (nne (if_pos z) e).elim | exact (dd (if_pos z) e rfl).elim | obtain rfl := some_inj (if_pos z) e | (rw [if_pos z] at e; cases e))
  · rw [if_neg z] at e; exact e
theorem Src.drop {a r : Addr} (S : Src M a r) (b : Addr) (h : b ≠ a ∧ b ≠ r) : Src (drp M b) a r := by
  refine hide fun uu kg => ?_
  obtain ⟨hne, x, y, rs, h1, h2, h3⟩ := S
  refine kg ?_
  exact ⟨hne, x, y, rs, (if_neg h.1.symm).trans h1, (if_neg h.2.symm).trans h2, h3⟩
/-- what a draw leaves -/
noncomputable def Same (M M' : LMap) (a r : Addr) : Prop := ∀ b, b ≠ a → b ≠ r → M' b = M b
theorem Same.refl (M : LMap) (a r : Addr) : Same M M a r := fun uu uu uu => rfl
theorem Same.trans {M₁ M₂ : LMap} {a r : Addr} (x : Same M M₁ a r) (y : Same M₁ M₂ a r) : Same M M₂ a r := fun b h1 h2 => (y b h1 h2).trans (x b h1 h2)
theorem Same.drop {M' : LMap} {a r b : Addr} {ds : List D} (hb : M b = .none) (k : Same (upd M b ds) M' a r) : Same M (drp M' b) a r := fun c h1 h2 => by
  unfold drp
  by_cases z : c = b
  · rw [if_pos z, z, hb]
  · rw [if_neg z, k c h1 h2, upd_ne z]
theorem getD_mem {α : Type} {ds : List α} {k : Int} {x : α} (h0 : 0 ≤ k) (h1 : k < ds.length) : ds[k.toNat]? = some (ds.getD k.toNat x) := by
  have : k.toNat < ds.length := by omega
  simp [this]
theorem getD_in {α : Type} {ds : List α} {k : Int} {x : α} (h0 : 0 ≤ k) (h1 : k < ds.length) : ds.getD k.toNat x ∈ ds := by
  have : k.toNat < ds.length := by omega
  simp [this]

theorem one_ok {prog : Program} {Q : D → LMap → Prop} {a r t : Addr} {ds : List D} (S : Src M a r) (hM : M t = some ds) (ht : t ≠ a ∧ t ≠ r) (h3 : 0 < ds.length) (h4 : ds.length < 1073741824)
    (q : ∀ d M', d ∈ ds → Src M' a r → Same M M' a r → Q d M') : Fn prog w (GB w.params mg mb) (.ref 159) 11 [.lst a, .lst t] M Q := by
  refine fn_plain (K := hd.heap_39 w.params) (xs := ["source", "things"]) rfl (by rfl) gb_lim ?hb (by rfl) (by decide) (by rfl) ?_
  case hb => walk_at "fn2"
  intro A base past stk L C Q0 O
  have hu := O.units
  repeat walk_at "d"
  walk_at "df"
  repeat walk_at "d"
  walk_at "bi"
  repeat walk_at "d"
  refine op_len_lst hM (by omega) ?_
  repeat walk_at "d"
  refine take_ok S (by omega) (by omega) fun d M' b1 b2 S' k => ?_
  have hM' : M' t = some ds := (k t ht.1 ht.2).trans hM
  refine op_item_lst hM' b1 (by omega) (getD_mem (x := .none) b1 b2) ?_ (fun uu uu => rfl)
  exact ⟨M', Sub.refl _, q _ _ (getD_in b1 b2) S' k⟩
end
section
open PySem PySem.W PyProof.Rows
set_option maxRecDepth 100000
set_option linter.unusedVariables false
set_option maxHeartbeats 4000000
variable {w : World} {mg mb : Str → Option Value} {M : LMap}

/-- the values of the modelled language -/
inductive V where
  | nil
  | bool (b : Bool)
  | int (i : Int)
  | text (b : List UInt8)
  | ptr (n : Int) (xs : List Int)
  | loose (k : Fin 3)
  | face (k : Fin 3) (v : V)
  | many (s : Bool) (vs : List V)

noncomputable def looseD : Fin 3 → D
  | 0 => .tup [.str (Str.ofString "map"), .int 4]
  | 1 => .tup [.str (Str.ofString "func"), .str (Str.ofString "f"), .tup []]
  | 2 => .tup [.str (Str.ofString "slice"), .int 1, .int 0, .int 1, .int 1]
noncomputable def looseT : Fin 3 → Str
  | 0 => Str.ofString "map"
  | 1 => Str.ofString "func"
  | 2 => Str.ofString "slice"
noncomputable def typeD : Fin 3 → D
  | 0 => .tup [.str (Str.ofString "int"), .str (Str.ofString "int")]
  | 1 => .tup [.str (Str.ofString "named"), .str (Str.ofString "m.T")]
  | 2 => .tup [.str (Str.ofString "map"), .tup [.str (Str.ofString "bool")], .tup [.str (Str.ofString "bool")]]
noncomputable def wordOf (s : Bool) : Str := if s then Str.ofString "struct" else Str.ofString "array"
mutual
noncomputable def dat : V → D
  | .nil => .none
  | .bool b => .bool b
  | .int i => .int i
  | .text b => .bytes b.toArray
  | .ptr n xs => .tup [.str (Str.ofString "ptr"), .int n, .tup (xs.map .int)]
  | .loose k => looseD k
  | .face k v => .tup [.str (Str.ofString "face"), typeD k, dat v]
  | .many s vs => .tup [.str (wordOf s), .tup (dats vs)]
noncomputable def dats : List V → List D
  | [] => []
  | v :: vs => dat v :: dats vs
end
noncomputable def tag : V → Str
  | .nil => Str.ofString "nil"
  | .bool _ => Str.ofString "bool"
  | .int _ => Str.ofString "int"
  | .text _ => Str.ofString "text"
  | .ptr _ _ => Str.ofString "ptr"
  | .loose k => looseT k
  | .face _ _ => Str.ofString "face"
  | .many s _ => wordOf s

theorem sort_ok {prog : Program} {Q : D → LMap → Prop} {v : V} (q : Q (.str (tag v)) M) : Fn prog w (GB w.params mg mb) (.ref 204) 10 [dat v] M Q := by
  refine fn_plain (K := hd.heap_39 w.params) (xs := ["value"]) rfl (by rfl) gb_lim ?hb (by rfl) (by decide) (by rfl) ?_
  case hb => walk_at "fn1"
  intro A base past stk L C Q0 O
  have hu := O.units
  cases v with
  | nil =>
    simp only [dat]
    repeat walk_at "dd"
    all_goals exact ⟨M, Sub.refl _, q⟩
  | bool b =>
    simp only [dat]
    repeat walk_at "dd"
    all_goals exact ⟨M, Sub.refl _, q⟩
  | int b =>
    simp only [dat]
    repeat walk_at "dd"
    all_goals exact ⟨M, Sub.refl _, q⟩
  | text b =>
    simp only [dat]
    repeat walk_at "dd"
    all_goals exact ⟨M, Sub.refl _, q⟩
  | ptr n xs =>
    simp only [dat]
    repeat walk_at "dd"
    all_goals exact ⟨M, Sub.refl _, q⟩
  | loose k =>
    simp only [dat]
    match k with
    | 0 =>
      simp only [looseD]
      repeat walk_at "dd"
      all_goals exact ⟨M, Sub.refl _, q⟩
    | 1 =>
      simp only [looseD]
      repeat walk_at "dd"
      all_goals exact ⟨M, Sub.refl _, q⟩
    | 2 =>
      simp only [looseD]
      repeat walk_at "dd"
      all_goals exact ⟨M, Sub.refl _, q⟩
  | face k v =>
    simp only [dat]
    repeat walk_at "dd"
    all_goals exact ⟨M, Sub.refl _, q⟩
  | many s vs =>
    simp only [dat]
    repeat walk_at "dd"
    all_goals exact ⟨M, Sub.refl _, q⟩
end
section
open PySem PySem.W PyProof.Rows
set_option maxRecDepth 100000
set_option linter.unusedVariables false
set_option maxHeartbeats 4000000
variable {w : World} {mg mb : Str → Option Value} {M : LMap}

theorem tag_ok {prog : Program} {Q : D → LMap → Prop} {v : V} (q : Q (.str (tag v)) M) : Fn prog w (GB w.params mg mb) (.ref 70) 10 [dat v] M Q := by
  refine fn_plain (K := hd.heap_39 w.params) (xs := ["value"]) rfl (by rfl) gb_lim ?hb (by rfl) (by decide) (by rfl) ?_
  case hb => walk_at "fn1"
  intro A base past stk L C Q0 O
  have hu := O.units
  cases v with
  | loose k =>
    simp only [dat]
    match k with
    | 0 =>
      simp only [looseD]
      repeat walk_at "dd"
      all_goals exact ⟨M, Sub.refl _, q⟩
    | 1 =>
      simp only [looseD]
      repeat walk_at "dd"
      all_goals exact ⟨M, Sub.refl _, q⟩
    | 2 =>
      simp only [looseD]
      repeat walk_at "dd"
      all_goals exact ⟨M, Sub.refl _, q⟩
  | _ =>
    simp only [dat]
    repeat walk_at "dd"
    all_goals exact ⟨M, Sub.refl _, q⟩

noncomputable def mayT : Fin 3 → Bool
  | 0 => true
  | 1 => true
  | 2 => false
theorem may_ok {prog : Program} {Q : D → LMap → Prop} {k : Fin 3} (q : Q (.bool (mayT k)) M) : Fn prog w (GB w.params mg mb) (.ref 166) 10 [typeD k] M Q := by
  refine fn_plain (K := hd.heap_39 w.params) (xs := ["t"]) rfl (by rfl) gb_lim ?hb (by rfl) (by decide) (by rfl) ?_
  case hb => walk_at "fn1"
  intro A base past stk L C Q0 O
  have hu := O.units
  have hu' : A.units + 3 + 10 * 9 < cLine := hu
  match k with
  | 0 =>
    simp only [typeD]
    repeat walk_at "dd"
    intro a ha
    refine op_notin_lst 0 (upd_same _ _ _) rfl rfl (by decide) (by show A.units + 3 + 1 + 0 < cLine; omega) ?_
    exact ⟨M, fun b ds e => (upd_ne fun z => by (first | exact (nb z ha e).elim | obtain rfl := sb z ha e | (rw [z, ha] at e; cases e))).trans e, q⟩
  | 1 =>
    simp only [typeD]
    repeat walk_at "dd"
    intro a ha
    refine op_notin_lst 0 (upd_same _ _ _) rfl rfl (by decide) (by show A.units + 3 + 1 + 0 < cLine; omega) ?_
    exact ⟨M, fun b ds e => (upd_ne fun z => by (first | exact (nb z ha e).elim | obtain rfl := sb z ha e | (rw [z, ha] at e; cases e))).trans e, q⟩
  | 2 =>
    simp only [typeD]
    repeat walk_at "dd"
    intro a ha
    refine op_notin_lst 0 (upd_same _ _ _) rfl rfl (by decide) (by show A.units + 3 + 1 + 0 < cLine; omega) ?_
    exact ⟨M, fun b ds e => (upd_ne fun z => by (first | exact (nb z ha e).elim | obtain rfl := sb z ha e | (rw [z, ha] at e; cases e))).trans e, q⟩

noncomputable def leaves : List V := [.int 0, .int 1, .bool true, .bool false, .text [], .text [97], .ptr 1 [0], .ptr 1 [], .nil]
theorem mem9 {x : D} (h : x ∈ leaves.map dat) : ∃ v, v ∈ leaves ∧ x = dat v := by
  obtain ⟨v, hv, e⟩ := List.mem_map.mp h
  exact ⟨v, hv, e.symm⟩
theorem leaf_ok {prog : Program} {Q : D → LMap → Prop} {a r : Addr} (S : Src M a r) (q : ∀ v M', v ∈ leaves → Src M' a r → Same M M' a r → Q (dat v) M') : Fn prog w (GB w.params mg mb) (.ref 173) 12 [.lst a] M Q := by
  refine fn_plain (K := hd.heap_39 w.params) (xs := ["source"]) rfl (by rfl) gb_lim ?hb (by rfl) (by decide) (by rfl) ?_
  case hb => walk_at "fn1"
  intro A base past stk L C Q0 O
  have hu := O.units
  repeat walk_at "dd"
  intro b hb
  repeat walk_at "dd"
  walk_at "df"
  repeat walk_at "dd"
  refine one_ok (S.upd hb) (upd_same _ _ _) (S.neA hb) (by decide) (by decide) fun d M' hd S' k => ?_
  obtain ⟨v, hv, rfl⟩ := mem9 hd
  exact ⟨drp M' b, drp_sub _ _, q v _ hv (S'.drop b (S.neA hb)) (k.drop hb)⟩
theorem loose_ok {prog : Program} {Q : D → LMap → Prop} {a r : Addr} (S : Src M a r) (q : ∀ v M', v ∈ [V.loose 0, .loose 1, .loose 2, .face 2 (.int 5)] → Src M' a r → Same M M' a r → Q (dat v) M') : Fn prog w (GB w.params mg mb) (.ref 185) 12 [.lst a] M Q := by
  refine fn_plain (K := hd.heap_39 w.params) (xs := ["source"]) rfl (by rfl) gb_lim ?hb (by rfl) (by decide) (by rfl) ?_
  case hb => walk_at "fn1"
  intro A base past stk L C Q0 O
  have hu := O.units
  repeat walk_at "dd"
  intro b hb
  repeat walk_at "dd"
  walk_at "df"
  repeat walk_at "dd"
  intro c hc
  have hcb : c ≠ b := fun z => by (first | exact (nb z (upd_same _ _ _) hc).elim | obtain rfl := sb z (upd_same _ _ _) hc | (rw [z, upd_same] at hc; cases hc))
  refine op_add_lst ((upd_ne hcb.symm).trans (upd_same _ _ _)) (upd_same _ _ _) (by decide) ?_
  intro e he
  have hec : e ≠ c := fun z => by (first | exact (nb z (upd_same _ _ _) he).elim | obtain rfl := sb z (upd_same _ _ _) he | (rw [z, upd_same] at he; cases he))
  have heb : e ≠ b := fun z => by rw [upd_ne hec, z, upd_same] at he; cases he
  repeat walk_at "dd"
  have S1 := S.upd (ds := [D.tup [D.str (Str.ofString "map"), D.int 4], D.tup [D.str (Str.ofString "func"), D.str (Str.ofString "f"), D.tup []], D.tup [D.str (Str.ofString "slice"), D.int 1, D.int 0, D.int 1, D.int 1]]) hb
  have S2 := S1.upd (ds := [D.tup [D.str (Str.ofString "face"), D.tup [D.str (Str.ofString "map"), D.tup [D.str (Str.ofString "bool")], D.tup [D.str (Str.ofString "bool")]], D.int 5]]) hc
  refine one_ok (S2.upd he) (upd_same _ _ _) (S2.neA he) (by decide) (by decide) fun d M' hd S' k => ?_
  have hm : ∃ v, v ∈ [V.loose 0, .loose 1, .loose 2, .face 2 (.int 5)] ∧ d = dat v := by
    have : d ∈ [V.loose 0, .loose 1, .loose 2, .face 2 (.int 5)].map dat := hd
    obtain ⟨v, hv, e⟩ := List.mem_map.mp this
    exact ⟨v, hv, e.symm⟩
  obtain ⟨v, hv, rfl⟩ := hm
  exact ⟨drp (drp (drp M' e) c) b, fun x ds z => drp_sub _ _ _ _ (drp_sub _ _ _ _ (drp_sub _ _ _ _ z)), q v _ hv (((S'.drop e (S2.neA he)).drop c (S1.neA hc)).drop b (S.neA hb)) (((k.drop he).drop hc).drop hb)⟩
end
section
open PySem PySem.W PyProof.Rows
set_option maxRecDepth 100000
set_option linter.unusedVariables false
set_option maxHeartbeats 4000000
variable {w : World} {mg mb : Str → Option Value} {M : LMap}

noncomputable def put : List Nat → V → V → V
  | [], _, p => p
  | _ :: way, .face k v, p => .face k (put way v p)
  | i :: way, .many s vs, p => .many s (vs.set i (put way (vs.getD i .nil) p))
  | _ :: _, v, _ => v
noncomputable def good : List Nat → V → Prop
  | [], _ => True
  | i :: way, .face _ v => i = 0 ∧ good way v
  | i :: way, .many _ vs => i < vs.length ∧ vs.length ≤ 1000 ∧ good way (vs.getD i .nil)
  | _ :: _, _ => False
theorem dats_eq (vs : List V) : dats vs = vs.map dat := by
  induction vs with
  | nil => rfl
  | cons v vs ih => rw [dats, ih]; rfl
noncomputable def wayD (way : List Nat) : D := .tup (way.map fun (i : Nat) => D.int i)
theorem plains_way (way : List Nat) : plains (way.map fun i => D.int (i : Nat)) = true := by
  induction way with
  | nil => rfl
  | cons i way ih => simp only [List.map_cons, plains, plain, ih]; rfl
theorem highs_way (way : List Nat) : highs (way.map fun i => D.int (i : Nat)) = 0 := by
  induction way with
  | nil => rfl
  | cons i way ih => simp only [List.map_cons, highs, high, ih]; rfl
theorem wayD_cons (i : Nat) (way : List Nat) : wayD (i :: way) = .tup (.int i :: way.map fun (i : Nat) => D.int i) := rfl

theorem word_face (s : Bool) : (wordOf s == Str.ofString "face") = false := by cases s <;> rfl
theorem dats_get {vs : List V} {i : Nat} (h : i < vs.length) : (dats vs)[i]? = some (dat (vs.getD i .nil)) := by
  rw [dats_eq, List.getElem?_map]
  simp [h]
theorem dats_set (vs : List V) (i : Nat) (v : V) : (dats vs).set i (dat v) = dats (vs.set i v) := by
  rw [dats_eq, dats_eq, List.map_set]
theorem dats_len (vs : List V) : (dats vs).length = vs.length := by rw [dats_eq, List.length_map]
theorem put_ok {prog : Program} : ∀ (way : List Nat) (v p : V), good way v → way.length ≤ 100 → FnP prog w (GB w.params mg mb) (.ref 197) (12 + way.length) [dat v, wayD way, dat p] (fun d => d = dat (put way v p)) fun uu => False := by
  intro way
  induction way with
  | nil =>
    intro v p _ _
    refine fn_x (K := hd.heap_39 w.params) (xs := ["value", "way", "part"]) (n := 11) rfl (by rfl) gb_lim ?hb (by rfl) (by decide) (by rfl) ?_
    case hb => walk_at "fn3"
    intro A base past stk L C Q0 O
    have hu : A.units + 3 + 10 * 11 < cLine := O.units
    repeat walk_at "dd"
    refine op_eq_dat 1 (by show highs [] + 1 ≤ 1; decide) (by show A.units + 3 + 1 < cLine; omega) rfl rfl ?_
    refine ⟨_, rfl, ?_⟩
    refine ite_tt ?_
    repeat walk_at "dd"
    exact ⟨_, Sub.refl _, rfl⟩
  | cons i way ih =>
    intro v p hg hlen
    have hlen' : way.length ≤ 99 := by simpa using hlen
    refine fn_x (K := hd.heap_39 w.params) (xs := ["value", "way", "part"]) (n := 12 + way.length) rfl (by rfl) gb_lim ?hb (by rfl) (by decide) (by rfl) ?_
    case hb => walk_at "fn3"
    intro A base past stk L C Q0 O
    change Ss _ _ _ _ _ _ (KRet _)
    clear Q0
    have hu : A.units + 3 + 10 * (12 + way.length) < cLine := O.units
    repeat walk_at "dd"
    refine op_eq_dat 1 (by show highs _ + 1 ≤ 1; rw [highs_way]; exact Nat.le_refl _) (by show A.units + 3 + 1 < cLine; omega) (by show plains _ = true; exact plains_way _) rfl ?_
    refine ⟨_, rfl, ?_⟩
    refine ite_ff ?_
    match v, hg with
    | .face k v, ⟨h0, hg2⟩ =>
      subst h0
      simp only [dat, wayD_cons]
      repeat walk_at "dd"
      refine ⟨_, 2, rfl, rfl, Nat.le_of_ble_eq_true rfl, Nat.le_of_ble_eq_true rfl, ?_⟩
      repeat walk_at "dd"
      refine df__law_put (12 + way.length) O rfl (by first | exact rfl | trivial) (Nat.le_refl _) ?_
      repeat walk_at "dd"
      refine ⟨_, 1, rfl, rfl, by decide, ?_, ?_, ?_⟩
      · simp
      · simp only [List.length_cons, List.length_map]; rw [sizeLine_eq]; omega
      repeat walk_at "dd"
      refine FnP.fnEq up_glob (ih v p hg2 (by omega)) ?_
      repeat walk_at "dd"
      refine op_add_tup (Nat.le_of_ble_eq_true rfl) ?_
      exact ⟨_, Sub.refl _, rfl⟩
    | .many s vs, ⟨hi, hvl, hg2⟩ =>
      simp only [dat, wayD_cons]
      repeat walk_at "dd"
      refine ite_f (word_face s) ?_
      repeat walk_at "dd"
      refine op_list_tup (by rw [dats_len, sizeLine_eq]; omega) fun c hc => ?_
      repeat walk_at "dd"
      refine df__law_put (12 + way.length) O rfl (by first | exact rfl | trivial) (Nat.le_refl _) ?_
      repeat walk_at "dd"
      refine op_item_lst (upd_same _ _ _) (by omega) (by omega) (dats_get hi) ?_ (fun uu uu => rfl)
      repeat walk_at "dd"
      refine ⟨_, 1, rfl, rfl, by decide, ?_, ?_, ?_⟩
      · simp
      · simp only [List.length_cons, List.length_map]; rw [sizeLine_eq]; omega
      repeat walk_at "dd"
      refine FnP.fnEq up_glob (ih _ p hg2 (by omega)) ?_
      repeat walk_at "dd"
      refine sub_at (upd_same _ _ _) (by omega) (by rw [dats_len]; omega) (by omega) ?_
      repeat walk_at "dd"
      refine op_tuple_lst (upd_same _ _ _) (by rw [List.length_set, dats_len, sizeLine_eq]; omega) ?_
      repeat walk_at "dd"
      refine ⟨_, Sub.refl _, ?_⟩
      show D.tup [_, D.tup ((dats vs).set i _)] = _
      rw [dats_set]
      rfl
end
section
open PySem PySem.W PyProof.Rows
set_option maxRecDepth 100000
set_option linter.unusedVariables false
set_option maxHeartbeats 4000000
variable {w : World} {mg mb : Str → Option Value} {M : LMap}
mutual
noncomputable def calm : V → Prop
  | .loose _ => False
  | .face _ v => calm v
  | .many _ vs => vs.length ≤ 1000 ∧ calms vs
  | _ => True
noncomputable def calms : List V → Prop
  | [] => True
  | v :: vs => calm v ∧ calms vs
end
mutual
noncomputable def ht : V → Nat
  | .face _ v => ht v + 1
  | .many _ vs => hts vs + 1
  | _ => 0
noncomputable def hts : List V → Nat
  | [] => 0
  | v :: vs => max (ht v) (hts vs)
end
mutual
noncomputable def sz : V → Nat
  | .face _ v => sz v + 1
  | .many _ vs => szs vs + 1
  | _ => 1
noncomputable def szs : List V → Nat
  | [] => 0
  | v :: vs => sz v + szs vs
end
/-- ways into a value -/
noncomputable def Ways (v : V) (es : List D) : Prop := ∃ ws : List (List Nat), es = ws.map wayD ∧ ws ≠ [] ∧ (∀ way ∈ ws, good way v ∧ way.length ≤ ht v) ∧ ws.length ≤ sz v
theorem enums_get {ds : List D} {i : Nat} {e : D} (h : (enums ds)[i]? = some e) : ∃ d, ds[i]? = some d ∧ e = .tup [.int i, d] := by
  unfold enums at h
  rw [List.getElem?_mapIdx] at h
  obtain ⟨d', h1, h2⟩ := Option.map_eq_some_iff.mp h
  exact ⟨d', h1, h2.symm⟩
theorem dats_some {vs : List V} {i : Nat} {d : D} (h : (dats vs)[i]? = some d) : ∃ v, vs[i]? = some v ∧ d = dat v := by
  rw [dats_eq, List.getElem?_map] at h
  obtain ⟨v, h1, h2⟩ := Option.map_eq_some_iff.mp h
  exact ⟨v, h1, h2.symm⟩
theorem ht_at : ∀ {vs : List V} {i : Nat} {v : V}, vs[i]? = some v → ht v ≤ hts vs
  | u :: vs, 0, v, h => by simp at h; subst h; simp [hts]; omega
  | u :: vs, i + 1, v, h => by have := ht_at (vs := vs) (i := i) (by simpa using h); simp [hts]; omega
theorem calm_at : ∀ {vs : List V} {i : Nat} {v : V}, calms vs → vs[i]? = some v → calm v
  | u :: vs, 0, v, hc, h => by simp at h; subst h; exact hc.1
  | u :: vs, i + 1, v, hc, h => calm_at (vs := vs) (i := i) hc.2 (by simpa using h)
theorem szs_take : ∀ {vs : List V} {i : Nat} {v : V}, vs[i]? = some v → szs (vs.take (i + 1)) = szs (vs.take i) + sz v ∧ szs (vs.take (i + 1)) ≤ szs vs
  | u :: vs, 0, v, h => by simp at h; subst h; simp [szs]
  | u :: vs, i + 1, v, h => by
    obtain ⟨h1, h2⟩ := szs_take (vs := vs) (i := i) (by simpa using h)
    simp only [List.take_succ_cons, szs] at h1 h2 ⊢
    omega
/-- ways through the parts -/
noncomputable def Parts (xs : List V) (i : Nat) (acc : List D) : Prop := ∃ ws : List (List Nat), acc = ws.map wayD ∧ (∀ way ∈ ws, ∃ k rest, way = k :: rest ∧ k < xs.length ∧ good rest (xs.getD k .nil) ∧ rest.length ≤ hts xs) ∧ ws.length ≤ szs (xs.take i)
theorem Parts.more {xs : List V} {i : Nat} {v : V} {acc : List D} (h : Parts xs i acc) (hv : xs[i]? = some v) {ws : List (List Nat)} (hw : ∀ way ∈ ws, good way v ∧ way.length ≤ ht v) (hl : ws.length ≤ sz v) : Parts xs (i + 1) (acc ++ ws.map fun way => wayD (i :: way)) := by
  obtain ⟨us, rfl, h1, h2⟩ := h
  have hi : i < xs.length := by
    rcases Nat.lt_or_ge i xs.length with h | h
    · exact h
    · (first | exact (nne (List.getElem?_eq_none h) hv).elim | exact (dd (List.getElem?_eq_none h) hv rfl).elim | obtain rfl := some_inj (List.getElem?_eq_none h) hv | (rw [List.getElem?_eq_none h] at hv; cases hv))
  refine ⟨us ++ ws.map (i :: ·), by simp [List.map_map, Function.comp_def], fun way hm => ?_, ?_⟩
  · rcases List.mem_append.mp hm with q | q
    · exact h1 way q
    · obtain ⟨r, hr, rfl⟩ := List.mem_map.mp q
      have e : xs.getD i .nil = v := by rw [List.getD_eq_getElem?_getD, hv]; rfl
      exact ⟨i, r, rfl, hi, by rw [e]; exact (hw r hr).1, Nat.le_trans (hw r hr).2 (ht_at hv)⟩
  · rw [List.length_append, List.length_map, (szs_take hv).1]; omega

theorem word_ptr (s : Bool) : (wordOf s == Str.ofString "ptr") = false := by cases s <;> rfl
theorem places_leaf {prog : Program} (n : Nat) (v : V) (hv : (match v with | .face _ _ => False | .many _ _ => False | .loose _ => False | _ => True)) : FnL prog w (GB w.params mg mb) (.ref 190) (12 + n) [dat v] (Ways v) fun uu => False := by
  rw [show 12 + n = (11 + n) + 1 by omega]
  refine fn_x (K := hd.heap_39 w.params) (xs := ["value"]) (n := 11 + n) rfl (by rfl) gb_lim ?hb (by rfl) (by decide) (by rfl) ?_
  case hb => walk_at "fn1"
  intro A base past stk L C Q0 O
  have hu : A.units + 3 + 10 * (11 + n) < cLine := O.units
  cases v with
  | face k v => exact hv.elim
  | many s vs => exact hv.elim
  | loose k => exact hv.elim
  | _ =>
    simp only [dat]
    repeat walk_at "dd"
    intro c hc0
    repeat walk_at "dd"
    exact ⟨_, Sub.refl _, c, _, rfl, upd_same _ _ _, [[]], rfl, (fun z => nomatch z), fun way hm => by rw [List.mem_singleton.mp hm]; exact ⟨trivial, Nat.zero_le _⟩, by simp [sz]⟩
theorem places_ok {prog : Program} : ∀ (n : Nat) (v : V), calm v → ht v ≤ n → sz v ≤ 100000 → FnL prog w (GB w.params mg mb) (.ref 190) (12 + n) [dat v] (Ways v) fun uu => False := by
  intro n
  induction n with
  | zero =>
    intro v hc hh hs
    cases v with
    | face k v => simp [ht] at hh
    | many s vs => simp [ht] at hh
    | loose k => exact hc.elim
    | _ => exact places_leaf 0 _ trivial
  | succ n ih =>
    intro v hc hh hs
    cases v with
    | loose k => exact hc.elim
    | face k v =>
      refine fn_x (K := hd.heap_39 w.params) (xs := ["value"]) (n := 12 + n) rfl (by rfl) gb_lim ?hb (by rfl) (by decide) (by rfl) ?_
      case hb => walk_at "fn1"
      intro A base past stk L C Q0 O
      have hu : A.units + 3 + 10 * (12 + n) < cLine := O.units
      have hcv : calms [v] := ⟨hc, trivial⟩
      have hhv : hts [v] ≤ n := by simp only [ht] at hh; simp only [hts]; omega
      have hsv : szs [v] + 1 ≤ 100000 := by simp only [sz] at hs; simp only [szs]; omega
      have hsv2 : szs [v] = sz v := by simp only [szs]; omega
      have hhv2 : hts [v] = ht v := by simp only [hts]; omega
      simp only [dat]
      repeat walk_at "dd"
      intro c hc0
      repeat walk_at "dd"
      intro a ha
      have hca : c ≠ a := fun z => by rw [← z, upd_same] at ha; cases ha
      refine ev_comp2 [] O (cl := []) rfl (by decide +kernel) rfl (by decide +kernel) rfl rfl rfl (by decide) (by decide) (by decide) (fun uu uu e => nomatch e) (fun uu uu uu e => nomatch e) ?_ (fun uu => rfl) (fun uu uu => rfl)
      refine ie_enum O (n_enumerate _) b_enumerate rfl (by first | exact rfl | trivial) rfl ?_
      repeat walk_at "dd"
      refine ⟨c, dats [v], rfl, (upd_ne hca).trans (upd_same _ _ _), ⟨_, _, _, rfl⟩, fun Lc Oc => ?_⟩
      refine comp2_ind (fun i acc M' => M' c = some (dats [v]) ∧ M' a = some [wayD []] ∧ Parts [v] i acc) (fun i e acc M' he hi hJ => ?_) (fun acc M' hJ => ⟨hJ.1, fun b hb => ?_⟩) ⟨(upd_ne hca).trans (upd_same _ _ _), upd_same _ _ _, [], rfl, (fun uu h => nomatch h), Nat.zero_le _⟩
      · obtain ⟨h1, h2, h3⟩ := hJ
        obtain ⟨d, hd, rfl⟩ := enums_get he
        obtain ⟨u, hu', rfl⟩ := dats_some hd
        refine ⟨h1, _, _, rfl, ?_⟩
        refine ie_lst Oc ?_
        refine df__law_places (12 + n) Oc rfl (by first | exact rfl | trivial) (Nat.le_refl _) ?_
        repeat walk_at "dd"
        have hszu : sz u ≤ szs [v] := by have := szs_take hu'; omega
        refine (ih u (calm_at hcv hu') (Nat.le_trans (ht_at hu') hhv) (by omega)).fnAt up_glob fun b es hb hW => ?_
        obtain ⟨ws, rfl, uu, hw, hl⟩ := hW
        have hbc : c ≠ b := fun z => by rw [← z, h1] at hb; cases hb
        have hba : a ≠ b := fun z => by rw [← z, h2] at hb; cases hb
        refine ⟨b, _, rfl, upd_same _ _ _, tok_name _ _, ?_⟩
        refine comp1_ind (fun j acc' M'' => M'' = upd M' b (ws.map wayD) ∧ acc' = acc ++ (ws.take j).map fun way => wayD (i :: way)) (fun j e acc' M'' hj hjl hJ => ?_) (fun acc' M'' hJ => ?_) ⟨rfl, by simp⟩
        · obtain ⟨rfl, rfl⟩ := hJ
          have hx : ∃ way, ws[j]? = some way ∧ e = wayD way := by
            rw [List.getElem?_map] at hj
            obtain ⟨x, h1, h2⟩ := Option.map_eq_some_iff.mp hj
            exact ⟨x, h1, h2.symm⟩
          obtain ⟨way, hwj, rfl⟩ := hx
          have hwl := hw way (List.mem_of_getElem? hwj)
          refine ⟨upd_same _ _ _, ?_, ?_⟩
          · obtain ⟨us, rfl, uu, hul⟩ := h3
            have := szs_take hu'
            simp only [List.length_append, List.length_map, List.length_take, sizeLine_eq]
            skip
            omega
          repeat walk_at "dd"
          refine op_add_tup ?_ ?_
          · have h5 := hwl.2
            have h6 : ht u ≤ n := Nat.le_trans (ht_at hu') hhv
            have h7 : n ≤ 1000 := by
              have hdp := O.depth
              have : recursionLimit = 1000 := rfl
              omega
            simp only [List.length_cons, List.length_nil, List.length_map, sizeLine_eq]
            omega
          refine ⟨rfl, ?_⟩
          rw [List.take_succ, hwj, List.map_append, List.append_assoc]
          rfl
        · obtain ⟨rfl, rfl⟩ := hJ
          refine ⟨upd_same _ _ _, (upd_ne hbc).trans h1, (upd_ne hba).trans h2, ?_⟩
          rw [List.length_map, List.take_length]
          exact h3.more hu' hw hl
      · obtain ⟨h1, h2, h3⟩ := hJ
        have hab : a ≠ b := fun z => by rw [← z, h2] at hb; cases hb
        obtain ⟨ws, rfl, hw, hl⟩ := h3
        rw [show (enums (dats [v])).length = ([v]).length by simp [enums, dats_len]] at hl
        rw [List.take_length] at hl
        refine op_add_lst ((upd_ne hab).trans h2) (upd_same _ _ _) ?_ fun e he => ?_
        · simp only [List.length_cons, List.length_nil, List.length_map, sizeLine_eq]
          skip
          omega
        refine ⟨_, Sub.refl _, e, _, rfl, upd_same _ _ _, [] :: ws, rfl, (fun z => nomatch z), fun way hm => ?_, ?_⟩
        · rcases List.mem_cons.mp hm with rfl | hm
          · exact ⟨trivial, Nat.zero_le _⟩
          · obtain ⟨k', rest, rfl, hk, hg, hr⟩ := hw way hm
            have hk0 : k' = 0 := by simp at hk; exact hk
            subst hk0
            refine ⟨⟨rfl, hg⟩, ?_⟩
            simp only [List.length_cons, ht]
            omega
        · simp only [List.length_cons, sz]
          skip
          omega
    | many s vs =>
      refine fn_x (K := hd.heap_39 w.params) (xs := ["value"]) (n := 12 + n) rfl (by rfl) gb_lim ?hb (by rfl) (by decide) (by rfl) ?_
      case hb => walk_at "fn1"
      intro A base past stk L C Q0 O
      have hu : A.units + 3 + 10 * (12 + n) < cLine := O.units
      have hcv : calms vs := hc.2
      have hlv : vs.length ≤ 1000 := hc.1
      have hhv : hts vs ≤ n := by simp only [ht] at hh; omega
      have hsv : szs vs + 1 ≤ 100000 := by simp only [sz] at hs; omega
      simp only [dat]
      repeat walk_at "dd"
      refine ite_f (word_ptr s) ?_
      repeat walk_at "dd"
      refine ite_f (word_face s) ?_
      repeat walk_at "dd"
      refine op_list_tup (by rw [dats_len, sizeLine_eq]; omega) fun c hc0 => ?_
      repeat walk_at "dd"
      intro a ha
      have hca : c ≠ a := fun z => by rw [← z, upd_same] at ha; cases ha
      refine ev_comp2 [] O (cl := []) rfl (by decide +kernel) rfl (by decide +kernel) rfl rfl rfl (by decide) (by decide) (by decide) (fun uu uu e => nomatch e) (fun uu uu uu e => nomatch e) ?_ (fun uu => rfl) (fun uu uu => rfl)
      refine ie_enum O (n_enumerate _) b_enumerate rfl (by first | exact rfl | trivial) rfl ?_
      repeat walk_at "dd"
      refine ⟨c, dats vs, rfl, (upd_ne hca).trans (upd_same _ _ _), ⟨_, _, _, rfl⟩, fun Lc Oc => ?_⟩
      refine comp2_ind (fun i acc M' => M' c = some (dats vs) ∧ M' a = some [wayD []] ∧ Parts vs i acc) (fun i e acc M' he hi hJ => ?_) (fun acc M' hJ => ⟨hJ.1, fun b hb => ?_⟩) ⟨(upd_ne hca).trans (upd_same _ _ _), upd_same _ _ _, [], rfl, (fun uu h => nomatch h), Nat.zero_le _⟩
      · obtain ⟨h1, h2, h3⟩ := hJ
        obtain ⟨d, hd, rfl⟩ := enums_get he
        obtain ⟨u, hu', rfl⟩ := dats_some hd
        refine ⟨h1, _, _, rfl, ?_⟩
        refine ie_lst Oc ?_
        refine df__law_places (12 + n) Oc rfl (by first | exact rfl | trivial) (Nat.le_refl _) ?_
        repeat walk_at "dd"
        have hszu : sz u ≤ szs vs := by have := szs_take hu'; omega
        refine (ih u (calm_at hcv hu') (Nat.le_trans (ht_at hu') hhv) (by omega)).fnAt up_glob fun b es hb hW => ?_
        obtain ⟨ws, rfl, uu, hw, hl⟩ := hW
        have hbc : c ≠ b := fun z => by rw [← z, h1] at hb; cases hb
        have hba : a ≠ b := fun z => by rw [← z, h2] at hb; cases hb
        refine ⟨b, _, rfl, upd_same _ _ _, tok_name _ _, ?_⟩
        refine comp1_ind (fun j acc' M'' => M'' = upd M' b (ws.map wayD) ∧ acc' = acc ++ (ws.take j).map fun way => wayD (i :: way)) (fun j e acc' M'' hj hjl hJ => ?_) (fun acc' M'' hJ => ?_) ⟨rfl, by simp⟩
        · obtain ⟨rfl, rfl⟩ := hJ
          have hx : ∃ way, ws[j]? = some way ∧ e = wayD way := by
            rw [List.getElem?_map] at hj
            obtain ⟨x, h1, h2⟩ := Option.map_eq_some_iff.mp hj
            exact ⟨x, h1, h2.symm⟩
          obtain ⟨way, hwj, rfl⟩ := hx
          have hwl := hw way (List.mem_of_getElem? hwj)
          refine ⟨upd_same _ _ _, ?_, ?_⟩
          · obtain ⟨us, rfl, uu, hul⟩ := h3
            have := szs_take hu'
            simp only [List.length_append, List.length_map, List.length_take, sizeLine_eq]
            skip
            omega
          repeat walk_at "dd"
          refine op_add_tup ?_ ?_
          · have h5 := hwl.2
            have h6 : ht u ≤ n := Nat.le_trans (ht_at hu') hhv
            have h7 : n ≤ 1000 := by
              have hdp := O.depth
              have : recursionLimit = 1000 := rfl
              omega
            simp only [List.length_cons, List.length_nil, List.length_map, sizeLine_eq]
            omega
          refine ⟨rfl, ?_⟩
          rw [List.take_succ, hwj, List.map_append, List.append_assoc]
          rfl
        · obtain ⟨rfl, rfl⟩ := hJ
          refine ⟨upd_same _ _ _, (upd_ne hbc).trans h1, (upd_ne hba).trans h2, ?_⟩
          rw [List.length_map, List.take_length]
          exact h3.more hu' hw hl
      · obtain ⟨h1, h2, h3⟩ := hJ
        have hab : a ≠ b := fun z => by rw [← z, h2] at hb; cases hb
        obtain ⟨ws, rfl, hw, hl⟩ := h3
        rw [show (enums (dats vs)).length = (vs).length by simp [enums, dats_len]] at hl
        rw [List.take_length] at hl
        refine op_add_lst ((upd_ne hab).trans h2) (upd_same _ _ _) ?_ fun e he => ?_
        · simp only [List.length_cons, List.length_nil, List.length_map, sizeLine_eq]
          skip
          omega
        refine ⟨_, Sub.refl _, e, _, rfl, upd_same _ _ _, [] :: ws, rfl, (fun z => nomatch z), fun way hm => ?_, ?_⟩
        · rcases List.mem_cons.mp hm with rfl | hm
          · exact ⟨trivial, Nat.zero_le _⟩
          · obtain ⟨k', rest, rfl, hk, hg, hr⟩ := hw way hm
            refine ⟨⟨hk, hlv, hg⟩, ?_⟩
            simp only [List.length_cons, ht]
            omega
        · simp only [List.length_cons, sz]
          skip
          omega
    | _ => exact places_leaf (n + 1) _ trivial
end
section
open PySem PySem.W PyProof.Rows
set_option maxRecDepth 100000
set_option linter.unusedVariables false
set_option maxHeartbeats 4000000
variable {w : World} {mg mb : Str → Option Value}
noncomputable def cap : Nat → Nat
  | 0 => 1
  | k + 1 => 1 + 3 * cap k
/-- a value that is drawn -/
noncomputable def Drawn (k : Nat) (v : V) : Prop := calm v ∧ ht v ≤ k ∧ sz v ≤ cap k
theorem cap_pos (k : Nat) : 1 ≤ cap k := by cases k <;> simp [cap]
theorem drawn_leaf {v : V} (h : v ∈ leaves) (k : Nat) : Drawn k v := by
  have := cap_pos k
  simp only [leaves, List.mem_cons, List.mem_nil_iff, or_false] at h
  rcases h with rfl | rfl | rfl | rfl | rfl | rfl | rfl | rfl | rfl <;> exact ⟨trivial, Nat.zero_le _, by simpa [sz] using this⟩
theorem drawn_face {k : Nat} {kk : Fin 3} {v : V} (h : Drawn k v) : Drawn (k + 1) (.face kk v) := by
  obtain ⟨h1, h2, h3⟩ := h
  refine ⟨h1, by simp only [ht]; omega, ?_⟩
  simp only [sz, cap]
  omega
theorem drawn_all {k : Nat} : ∀ {us : List V}, (∀ u ∈ us, Drawn k u) → calms us ∧ hts us ≤ k ∧ szs us ≤ us.length * cap k
  | [], _ => ⟨trivial, Nat.zero_le _, by simp [szs]⟩
  | u :: us, h => by
    obtain ⟨a1, a2, a3⟩ := h u (.head _)
    obtain ⟨b1, b2, b3⟩ := drawn_all (us := us) fun x hx => h x (.tail _ hx)
    refine ⟨⟨a1, b1⟩, by simp only [hts]; omega, ?_⟩
    simp only [szs, List.length_cons, Nat.succ_mul]
    omega
theorem drawn_many {k : Nat} {s : Bool} {us : List V} (hl : us.length ≤ 3) (h : ∀ u ∈ us, Drawn k u) : Drawn (k + 1) (.many s us) := by
  obtain ⟨h1, h2, h3⟩ := drawn_all h
  refine ⟨⟨by omega, h1⟩, by simp only [ht]; omega, ?_⟩
  simp only [sz, cap]
  have : us.length * cap k ≤ 3 * cap k := Nat.mul_le_mul_right _ hl
  omega
theorem value_ok {prog : Program} {a r : Addr} : ∀ (k : Nat) (M : LMap) (Q : D → LMap → Prop), k ≤ 5 → Src M a r → (∀ v M', Drawn k v → Src M' a r → Same M M' a r → Q (dat v) M') → Fn prog w (GB w.params mg mb) (.ref 178) (14 + k) [.lst a, .int k] M Q := by
  intro k
  induction k with
  | zero =>
    intro M Q _ S q
    refine (fn_cells (K := hd.heap_39 w.params) (xs := ["source", "deep"]) (n := 13) rfl (by rfl) gb_lim ?hb (fun uu => rfl) (by decide) (by decide) ?_ : FnX prog w _ _ _ _ _ _ (fun uu => False)).fn (fun uu x => x)
    case hb => walk_at "fn2"
    intro A base past stk L C Q0 O
    have hu : A.units + 3 + 10 * 13 < cLine := O.units
    repeat walk_at "dd"
    walk_at "df"
    repeat walk_at "dd"
    refine take_ok S (by decide) (by decide) fun d M' b1 b2 S' k => ?_
    repeat walk_at "dd"
    refine ite_t (by simp only [decide_eq_true_eq]; omega) ?_
    repeat walk_at "dd"
    walk_at "df"
    repeat walk_at "dd"
    refine leaf_ok S' fun v M'' hv S'' k' => ?_
    exact ⟨M'', Sub.refl _, q v M'' (drawn_leaf hv 0) S'' (Same.trans k k')⟩
  | succ k ih =>
    intro M Q hk5 S q
    refine (fn_cells (K := hd.heap_39 w.params) (xs := ["source", "deep"]) (n := 14 + k) rfl (by rfl) gb_lim ?hb (fun uu => rfl) (by decide) (by decide) ?_ : FnX prog w _ _ _ _ _ _ (fun uu => False)).fn (fun uu x => x)
    case hb => walk_at "fn2"
    intro A base past stk L C Q0 O
    have hu : A.units + 3 + 10 * (14 + k) < cLine := O.units
    repeat walk_at "dd"
    refine ite_t (by simp only [decide_eq_true_eq]; omega) ?_
    repeat walk_at "dd"
    walk_at "df"
    repeat walk_at "dd"
    refine take_ok S (by decide) (by decide) fun d M' b1 b2 S' k1 => ?_
    repeat walk_at "dd"
    cases h1 : decide (d < 2) with
    | true =>
      refine ite_tt ?_
      repeat walk_at "dd"
      walk_at "df"
      repeat walk_at "dd"
      refine leaf_ok S' fun v M'' hv S'' k' => ?_
      exact ⟨M'', Sub.refl _, q v M'' (drawn_leaf hv _) S'' (Same.trans k1 k')⟩
    | false =>
      refine ite_ff ?_
      repeat walk_at "dd"
      cases h2 : (d == 2) with
      | true =>
        refine ite_tt ?_
        repeat walk_at "dd"
        walk_at "df"
        repeat walk_at "dd"
        intro b hb
        repeat walk_at "dd"
        refine one_ok (S'.upd hb) (upd_same _ _ _) (S'.neA hb) (by decide) (by decide) fun ty M₂ hty S₂ k2 => ?_
        have hk2 : ∃ kk : Fin 3, kk ≠ 2 ∧ ty = typeD kk := by
          rcases List.mem_cons.mp hty with rfl | h
          · exact ⟨0, by decide, rfl⟩
          · rw [List.mem_singleton.mp h]; exact ⟨1, by decide, rfl⟩
        obtain ⟨kk, hkk, rfl⟩ := hk2
        repeat walk_at "dd"
        refine df__law_value (14 + k) O rfl (by first | exact rfl | trivial) (Nat.le_refl _) ?_
        repeat walk_at "dd"
        rw [show ((k + 1 : Nat) : Int) - 1 = (k : Nat) by omega]
        refine ih M₂ _ (by omega) S₂ fun v M₃ hv S₃ k3 => ?_
        repeat walk_at "dd"
        exact ⟨drp M₃ b, drp_sub _ _, q (.face kk v) _ (drawn_face hv) (S₃.drop b (S'.neA hb)) (Same.trans k1 ((Same.trans k2 k3).drop hb))⟩
      | false =>
        refine ite_ff ?_
        repeat walk_at "dd"
        cases h3 : decide (d < 5) with
        | true =>
          refine ite_tt ?_
          repeat walk_at "dd"
          refine ev_comp (fun uu => False) [(Str.ofString "source", .lst a), (Str.ofString "deep", .int ((k : Nat) + 1 : Nat))] O (.inr fun uu x => x) (cl := [(Str.ofString "source", L + 1), (Str.ofString "deep", L + 1 + 1)]) rfl (by decide +kernel) rfl (by decide +kernel) rfl ?_ ?_ ?_ (fun uu => rfl)
          · intro y c h
            rw [List.lookup_cons, List.lookup_cons] at h
            by_cases hy : y = Str.ofString "source"
            · subst hy
              exact h
            · by_cases hz : y = Str.ofString "deep"
              · subst hz
                exact h
              · rw [show (y == Str.ofString "source") = false by simpa using hy, show (y == Str.ofString "deep") = false by simpa using hz] at h
                cases h
          · intro Lc y e h
            rw [List.lookup_cons, List.lookup_cons] at h
            by_cases hy : y = Str.ofString "source"
            · subst hy
              cases h
              exact ⟨rfl, .inl rfl, .inl rfl, rfl⟩
            · by_cases hz : y = Str.ofString "deep"
              · subst hz
                cases h
                exact ⟨rfl, .inl rfl, .inl rfl, rfl⟩
              · rw [show (y == Str.ofString "source") = false by simpa using hy, show (y == Str.ofString "deep") = false by simpa using hz] at h
                cases h
          refine ie_range O (n_range _) b_range rfl (by first | exact rfl | trivial) rfl ?_
          repeat walk_at "dd"
          walk_at "df"
          repeat walk_at "dd"
          refine take_ok S' (by decide) (by decide) fun m M₂ c1 c2 S₂ k2 => ?_
          repeat walk_at "dd"
          refine ⟨0, 1 + m, 1, (1 + m).toNat, by constructor, by decide, PyProof.noPylong_small (by omega), ?_, ?_, tok_name _ _, ?_, fun Lc => ?_⟩
          · have : m = 0 ∨ m = 1 ∨ m = 2 := by omega
            rcases this with rfl | rfl | rfl <;> decide +kernel
          · rw [rangeSize_nat]; congr 1; omega
          · simp only [steps, List.length_map, List.length_range, sizeLine_eq]; omega
          refine comp_ind (fun i acc M' => Src M' a r ∧ Same M M' a r ∧ ∃ us : List V, acc = dats us ∧ us.length = i ∧ ∀ u ∈ us, Drawn k u) (fun i e acc M₃ past Oc he hi hJ => ?_) (fun uu uu uu uu => trivial) (fun acc M₃ hJ b hb => ?_) ⟨S₂, Same.trans k1 k2, [], rfl, rfl, fun uu h => nomatch h⟩
          · obtain ⟨S₃, k3, us, rfl, hul, hu3⟩ := hJ
            refine df__law_value (14 + k) Oc rfl (by first | exact rfl | trivial) (Nat.le_refl _) ?_
            repeat walk_at "dd"
            rw [show ((k + 1 : Nat) : Int) - 1 = (k : Nat) by omega]
            refine ih M₃ _ (by omega) S₃ fun v M₄ hv S₄ k4 => ?_
            refine ⟨S₄, Same.trans k3 k4, us ++ [v], ?_, by simp [hul], fun u hm => ?_⟩
            · rw [dats_eq, dats_eq, List.map_append]; rfl
            · rcases List.mem_append.mp hm with q | q
              · exact hu3 u q
              · rw [List.mem_singleton.mp q]; exact hv
          · obtain ⟨S₃, k3, us, rfl, hul, hu3⟩ := hJ
            have hul' : us.length ≤ 3 := by rw [hul]; simp only [steps, List.length_map, List.length_range]; omega
            repeat walk_at "dd"
            refine op_tuple_lst (upd_same _ _ _) (by rw [dats_len, sizeLine_eq]; omega) ?_
            repeat walk_at "dd"
            refine ⟨M₃, fun c ds e => (upd_ne fun z => by (first | exact (nb z hb e).elim | obtain rfl := sb z hb e | (rw [z, hb] at e; cases e))).trans e, q (.many true us) M₃ (drawn_many hul' hu3) S₃ k3⟩
        | false =>
          refine ite_ff ?_
          repeat walk_at "dd"
          refine ev_comp (fun uu => False) [(Str.ofString "source", .lst a), (Str.ofString "deep", .int ((k : Nat) + 1 : Nat))] O (.inr fun uu x => x) (cl := [(Str.ofString "source", L + 1), (Str.ofString "deep", L + 1 + 1)]) rfl (by decide +kernel) rfl (by decide +kernel) rfl ?_ ?_ ?_ (fun uu => rfl)
          · intro y c h
            rw [List.lookup_cons, List.lookup_cons] at h
            by_cases hy : y = Str.ofString "source"
            · subst hy
              exact h
            · by_cases hz : y = Str.ofString "deep"
              · subst hz
                exact h
              · rw [show (y == Str.ofString "source") = false by simpa using hy, show (y == Str.ofString "deep") = false by simpa using hz] at h
                cases h
          · intro Lc y e h
            rw [List.lookup_cons, List.lookup_cons] at h
            by_cases hy : y = Str.ofString "source"
            · subst hy
              cases h
              exact ⟨rfl, .inl rfl, .inl rfl, rfl⟩
            · by_cases hz : y = Str.ofString "deep"
              · subst hz
                cases h
                exact ⟨rfl, .inl rfl, .inl rfl, rfl⟩
              · rw [show (y == Str.ofString "source") = false by simpa using hy, show (y == Str.ofString "deep") = false by simpa using hz] at h
                cases h
          refine ie_range O (n_range _) b_range rfl (by first | exact rfl | trivial) rfl ?_
          repeat walk_at "dd"
          walk_at "df"
          repeat walk_at "dd"
          refine take_ok S' (by decide) (by decide) fun m M₂ c1 c2 S₂ k2 => ?_
          repeat walk_at "dd"
          refine ⟨0, 1 + m, 1, (1 + m).toNat, by constructor, by decide, PyProof.noPylong_small (by omega), ?_, ?_, tok_name _ _, ?_, fun Lc => ?_⟩
          · have : m = 0 ∨ m = 1 ∨ m = 2 := by omega
            rcases this with rfl | rfl | rfl <;> decide +kernel
          · rw [rangeSize_nat]; congr 1; omega
          · simp only [steps, List.length_map, List.length_range, sizeLine_eq]; omega
          refine comp_ind (fun i acc M' => Src M' a r ∧ Same M M' a r ∧ ∃ us : List V, acc = dats us ∧ us.length = i ∧ ∀ u ∈ us, Drawn k u) (fun i e acc M₃ past Oc he hi hJ => ?_) (fun uu uu uu uu => trivial) (fun acc M₃ hJ b hb => ?_) ⟨S₂, Same.trans k1 k2, [], rfl, rfl, fun uu h => nomatch h⟩
          · obtain ⟨S₃, k3, us, rfl, hul, hu3⟩ := hJ
            refine df__law_value (14 + k) Oc rfl (by first | exact rfl | trivial) (Nat.le_refl _) ?_
            repeat walk_at "dd"
            rw [show ((k + 1 : Nat) : Int) - 1 = (k : Nat) by omega]
            refine ih M₃ _ (by omega) S₃ fun v M₄ hv S₄ k4 => ?_
            refine ⟨S₄, Same.trans k3 k4, us ++ [v], ?_, by simp [hul], fun u hm => ?_⟩
            · rw [dats_eq, dats_eq, List.map_append]; rfl
            · rcases List.mem_append.mp hm with q | q
              · exact hu3 u q
              · rw [List.mem_singleton.mp q]; exact hv
          · obtain ⟨S₃, k3, us, rfl, hul, hu3⟩ := hJ
            have hul' : us.length ≤ 3 := by rw [hul]; simp only [steps, List.length_map, List.length_range]; omega
            repeat walk_at "dd"
            refine op_tuple_lst (upd_same _ _ _) (by rw [dats_len, sizeLine_eq]; omega) ?_
            repeat walk_at "dd"
            refine ⟨M₃, fun c ds e => (upd_ne fun z => by (first | exact (nb z hb e).elim | obtain rfl := sb z hb e | (rw [z, hb] at e; cases e))).trans e, q (.many false us) M₃ (drawn_many hul' hu3) S₃ k3⟩
end
section
open PySem PySem.W PyProof.Rows
set_option maxRecDepth 100000
set_option linter.unusedVariables false
set_option maxHeartbeats 4000000
variable {w : World} {mg mb : Str → Option Value}
mutual
/-- the lengths are small -/
noncomputable def fit : V → Prop
  | .face _ v => fit v
  | .many _ vs => vs.length ≤ 1000 ∧ fits vs
  | _ => True
noncomputable def fits : List V → Prop
  | [] => True
  | v :: vs => fit v ∧ fits vs
end
theorem fit_at : ∀ {vs : List V} {i : Nat} {v : V}, fits vs → vs[i]? = some v → fit v
  | u :: vs, 0, v, hc, h => by simp at h; subst h; exact hc.1
  | u :: vs, i + 1, v, hc, h => fit_at (vs := vs) (i := i) hc.2 (by simpa using h)
mutual
/-- alike: yes, no, a panic -/
noncomputable def alike : V → V → Option Bool
  | .face k v, o => match o with
    | .face k' v' => if k = k' then (if mayT k = true then alike v v' else .none) else some false
    | _ => some false
  | .many s vs, o => match o with
    | .many s' ws => if s = s' then alikes vs ws else some false
    | _ => some false
  | .loose k, o => if looseT k = tag o then .none else some false
  | v, o => if tag v = tag o then some (deq (dat v) (dat o)) else some false
noncomputable def alikes : List V → List V → Option Bool
  | [], ws => some ((0 : Nat) == ws.length)
  | v :: vs, ws => match ws with
    | [] => some false
    | w :: ws => match alike v w with
      | some true => alikes vs ws
      | r => r
end
noncomputable def resD : Option Bool → D
  | .none => .str (Str.ofString "panic")
  | some b => .bool b
noncomputable def typL : Fin 3 → List D
  | 0 => [.str (Str.ofString "int"), .str (Str.ofString "int")]
  | 1 => [.str (Str.ofString "named"), .str (Str.ofString "m.T")]
  | 2 => [.str (Str.ofString "map"), .tup [.str (Str.ofString "bool")], .tup [.str (Str.ofString "bool")]]
theorem typ_eq (k : Fin 3) : typeD k = .tup (typL k) := by match k with | 0 => rfl | 1 => rfl | 2 => rfl
theorem typ_plain (k : Fin 3) : plains (typL k) = true := by match k with | 0 => rfl | 1 => rfl | 2 => rfl
theorem typ_high (k : Fin 3) : highs (typL k) ≤ 1 := by match k with | 0 => decide | 1 => decide | 2 => decide
theorem typ_deq (k k' : Fin 3) : deqs (typL k) (typL k') = decide (k = k') := by
  match k, k' with
  | 0, 0 => rfl | 0, 1 => rfl | 0, 2 => rfl | 1, 0 => rfl | 1, 1 => rfl | 1, 2 => rfl | 2, 0 => rfl | 2, 1 => rfl | 2, 2 => rfl
theorem word_tags (s : Bool) : wordOf s ≠ Str.ofString "face" ∧ (∀ k, wordOf s ≠ looseT k) ∧ wordOf s ≠ Str.ofString "nil" ∧ wordOf s ≠ Str.ofString "bool" ∧ wordOf s ≠ Str.ofString "int" ∧ wordOf s ≠ Str.ofString "text" ∧ wordOf s ≠ Str.ofString "ptr" := by
  cases s <;> refine ⟨by decide, fun k => ?_, by decide, by decide, by decide, by decide, by decide⟩ <;> (match k with | 0 => decide | 1 => decide | 2 => decide)
theorem loose_tags (k : Fin 3) : looseT k ≠ Str.ofString "face" ∧ looseT k ≠ Str.ofString "nil" ∧ looseT k ≠ Str.ofString "bool" ∧ looseT k ≠ Str.ofString "int" ∧ looseT k ≠ Str.ofString "text" ∧ looseT k ≠ Str.ofString "ptr" := by
  match k with
  | 0 => decide
  | 1 => decide
  | 2 => decide
theorem word_inj {s s' : Bool} (h : wordOf s = wordOf s') : s = s' := by
  cases s <;> cases s' <;> first | rfl | exact absurd h (by decide)
theorem face_of {o : V} (h : Str.ofString "face" = tag o) : ∃ k v, o = .face k v := by
  cases o with
  | face k v => exact ⟨k, v, rfl⟩
  | loose k => exact absurd h.symm (loose_tags k).1
  | many s vs => exact absurd h.symm (word_tags s).1
  | _ => exact absurd h (by simp only [tag]; decide)
theorem many_of {s : Bool} {o : V} (h : wordOf s = tag o) : ∃ vs, o = .many s vs := by
  cases o with
  | many s' vs => exact ⟨vs, by rw [word_inj h]⟩
  | loose k => exact absurd h ((word_tags s).2.1 k)
  | face k v => exact absurd h (word_tags s).1
  | nil => exact absurd h (word_tags s).2.2.1
  | bool _ => exact absurd h (word_tags s).2.2.2.1
  | int _ => exact absurd h (word_tags s).2.2.2.2.1
  | text _ => exact absurd h (word_tags s).2.2.2.2.2.1
  | ptr _ _ => exact absurd h (word_tags s).2.2.2.2.2.2
end
section
open PySem PySem.W PyProof.Rows
set_option maxRecDepth 100000
set_option linter.unusedVariables false
set_option maxHeartbeats 4000000
variable {w : World} {mg mb : Str → Option Value}
theorem alike_ne {v o : V} (h : tag v ≠ tag o) : alike v o = some false := by
  cases v with
  | face k x =>
    cases o with
    | face k' y => exact absurd rfl h
    | _ => rfl
  | many s vs =>
    cases o with
    | many s' ws =>
      simp only [alike]
      rw [if_neg fun q => h (by rw [q]; rfl)]
    | _ => rfl
  | loose k => simp only [alike]; exact if_neg h
  | nil => simp only [alike]; rw [if_neg h]
  | bool _ => simp only [alike]; rw [if_neg h]
  | int _ => simp only [alike]; rw [if_neg h]
  | text _ => simp only [alike]; rw [if_neg h]
  | ptr _ _ => simp only [alike]; rw [if_neg h]
theorem ne_str_t {a b : Str} (h : a = b) : (a != b) = false := by rw [h]; simp
theorem ne_str_f {a b : Str} (h : a ≠ b) : (a != b) = true := by simpa using h
theorem alikes_step {vs ws : List V} {i : Nat} {v o : V} (hv : vs[i]? = some v) (ho : ws[i]? = some o) : alikes (vs.drop i) (ws.drop i) = match alike v o with | some true => alikes (vs.drop (i + 1)) (ws.drop (i + 1)) | r => r := by
  have h1 : vs.drop i = v :: vs.drop (i + 1) := by
    have hi : i < vs.length := by
      rcases Nat.lt_or_ge i vs.length with h | h
      · exact h
      · (first | exact (nne (List.getElem?_eq_none h) hv).elim | exact (dd (List.getElem?_eq_none h) hv rfl).elim | obtain rfl := some_inj (List.getElem?_eq_none h) hv | (rw [List.getElem?_eq_none h] at hv; cases hv))
    rw [List.getElem?_eq_getElem hi] at hv
    rw [List.drop_eq_getElem_cons hi, Option.some.inj hv]
  have h2 : ws.drop i = o :: ws.drop (i + 1) := by
    have hi : i < ws.length := by
      rcases Nat.lt_or_ge i ws.length with h | h
      · exact h
      · (first | exact (nne (List.getElem?_eq_none h) ho).elim | exact (dd (List.getElem?_eq_none h) ho rfl).elim | obtain rfl := some_inj (List.getElem?_eq_none h) ho | (rw [List.getElem?_eq_none h] at ho; cases ho))
    rw [List.getElem?_eq_getElem hi] at ho
    rw [List.drop_eq_getElem_cons hi, Option.some.inj ho]
  rw [h1, h2, alikes]
  all_goals (rcases alike v o with _ | b <;> first | rfl | (cases b <;> rfl))
theorem alikes_end {vs ws : List V} : alikes (vs.drop (min vs.length ws.length)) (ws.drop (min vs.length ws.length)) = some (decide (vs.length = ws.length)) := by
  rcases Nat.lt_trichotomy vs.length ws.length with h | h | h
  · have hm : min vs.length ws.length = vs.length := Nat.min_eq_left (Nat.le_of_lt h)
    rw [hm, List.drop_length, alikes, decide_eq_false (Nat.ne_of_lt h)]
    have : (0 : Nat) ≠ (ws.drop vs.length).length := by rw [List.length_drop]; omega
    simpa using this
  · have hm : min vs.length ws.length = vs.length := Nat.min_eq_left (Nat.le_of_eq h)
    rw [hm, List.drop_length, alikes, decide_eq_true h]
    have : (ws.drop vs.length).length = 0 := by rw [List.length_drop]; omega
    rw [this]; rfl
  · have hm : min vs.length ws.length = ws.length := Nat.min_eq_right (Nat.le_of_lt h)
    rw [hm, List.drop_length, decide_eq_false (Nat.ne_of_gt h)]
    cases e : vs.drop ws.length with
    | nil => have := congrArg List.length e; simp at this; omega
    | cons x xs => rfl
theorem word_loose (s : Bool) : ([D.str (Str.ofString "map"), D.str (Str.ofString "func"), D.str (Str.ofString "slice")].any fun y => deq y (.str (wordOf s))) = false := by cases s <;> rfl
theorem word_in (s : Bool) : (![D.str (Str.ofString "struct"), D.str (Str.ofString "array")].any fun y => deq y (.str (wordOf s))) = false := by cases s <;> rfl
theorem notTrue (r : Option Bool) : (resD r = .bool true ∧ (r != some true) = false) ∨ (resD r = .bool false ∧ (r != some true) = true) ∨ (∃ x, resD r = .str x ∧ (r != some true) = true) := by
  match r with
  | .none => exact .inr (.inr ⟨_, rfl, rfl⟩)
  | some true => exact .inl ⟨rfl, rfl⟩
  | some false => exact .inr (.inl ⟨rfl, rfl⟩)
noncomputable def isLeaf : V → Prop
  | .face _ _ => False
  | .many _ _ => False
  | .loose _ => False
  | _ => True
theorem plain_ints (xs : List Int) : plains (xs.map D.int) = true := by
  induction xs with
  | nil => rfl
  | cons i xs ih => simp only [List.map_cons, plains, plain, ih]; rfl
theorem high_ints (xs : List Int) : highs (xs.map D.int) = 0 := by
  induction xs with
  | nil => rfl
  | cons i xs ih => simp only [List.map_cons, highs, high, ih]; rfl
theorem leaf_plain {v : V} (h : isLeaf v) : plain (dat v) = true ∧ high (dat v) ≤ 2 := by
  cases v with
  | ptr n xs =>
    refine ⟨?_, ?_⟩
    · simp only [dat, plain, plains, plain_ints]; rfl
    · simp only [dat, high, highs, high_ints]; decide
  | face k v => exact h.elim
  | many s vs => exact h.elim
  | loose k => exact h.elim
  | _ => exact ⟨rfl, Nat.zero_le _⟩
theorem leaf_tag {v o : V} (h : isLeaf v) (ht : tag v = tag o) : isLeaf o := by
  cases o with
  | face k x =>
    obtain ⟨uu, uu, rfl⟩ := face_of (o := v) ht.symm
    exact h
  | many s vs =>
    obtain ⟨uu, rfl⟩ := many_of (o := v) ht.symm
    exact h
  | loose k =>
    have := loose_tags k
    cases v with
    | face k v => exact h.elim
    | many s vs => exact h.elim
    | loose k => exact h.elim
    | nil => exact absurd ht.symm this.2.1
    | bool _ => exact absurd ht.symm this.2.2.1
    | int _ => exact absurd ht.symm this.2.2.2.1
    | text _ => exact absurd ht.symm this.2.2.2.2.1
    | ptr _ _ => exact absurd ht.symm this.2.2.2.2.2
  | _ => trivial
theorem leaf_facts {v o : V} (h : isLeaf v) (ht : tag v = tag o) : high (dat v) ≤ 2 ∧ plain (dat v) = true ∧ plain (dat o) = true ∧ alike v o = some (deq (dat v) (dat o)) := by
  refine ⟨(leaf_plain h).2, (leaf_plain h).1, (leaf_plain (leaf_tag h ht)).1, ?_⟩
  cases v with
  | face k v => exact h.elim
  | many s vs => exact h.elim
  | loose k => exact h.elim
  | _ => simp only [alike]; exact if_pos ht
theorem leaf_facts2 {v o : V} (ht : tag v = tag o) (h : isLeaf v) : high (dat v) ≤ 2 ∧ plain (dat v) = true ∧ plain (dat o) = true ∧ alike v o = some (deq (dat v) (dat o)) := leaf_facts h ht
theorem alike_step {prog : Program} (n : Nat) (ih : ∀ (v o : V), Mine.ht v + 1 ≤ n → fit v → fit o → FnP prog w (GB w.params mg mb) (.ref 211) (11 + n) [dat v, dat o] (fun d => d = resD (alike v o)) fun uu => False) (v o : V) (hh : Mine.ht v ≤ n) (hv : fit v) (ho : fit o) :
    FnP prog w (GB w.params mg mb) (.ref 211) (12 + n) [dat v, dat o] (fun d => d = resD (alike v o)) fun uu => False := by
  rw [show 12 + n = (11 + n) + 1 by omega]
  refine fn_x (K := hd.heap_39 w.params) (xs := ["one", "other"]) (n := 11 + n) rfl (by rfl) gb_lim ?hb (by rfl) (by decide) (by rfl) ?_
  case hb => walk_at "fn2"
  intro A base past stk L C Q0 O
  have hu : A.units + 3 + 10 * (11 + n) < cLine := O.units
  repeat walk_at "dd"
  walk_at "df"
  repeat walk_at "dd"
  refine sort_ok ?_
  walk_at "df"
  repeat walk_at "dd"
  refine sort_ok ?_
  refine op_ne_str ?_
  refine ⟨_, rfl, ?_⟩
  by_cases ht : tag v = tag o
  · refine ite_f (ne_str_t ht) ?_
    repeat walk_at "dd"
    walk_at "df"
    repeat walk_at "dd"
    refine sort_ok ?_
    repeat walk_at "dd"
    intro c hc
    refine op_in_lst 0 (upd_same _ _ _) rfl rfl (by decide) (by show A.units + 3 + 1 + 0 < cLine; omega) ?_
    refine ⟨_, rfl, ?_⟩
    cases v with
    | loose k =>
      refine ite_t (by match k with | 0 => rfl | 1 => rfl | 2 => rfl) ?_
      repeat walk_at "dd"
      refine ⟨_, Sub.refl _, ?_⟩
      simp only [alike]
      rw [if_pos (show looseT k = tag o from ht)]
      rfl
    | face k v =>
      obtain ⟨k', v', rfl⟩ := face_of ht
      refine ite_f rfl ?_
      simp only [dat, tag, typ_eq]
      repeat walk_at "dd"
      refine op_ne_tups 1 (typ_high _) (by show A.units + 3 + 1 + 1 < cLine; omega) (typ_plain _) (typ_plain _) ?_
      refine ⟨_, rfl, ?_⟩
      rw [typ_deq]
      by_cases hk : k = k'
      · refine ite_f (by simp [hk]) ?_
        repeat walk_at "dd"
        walk_at "df"
        repeat walk_at "dd"
        rw [← typ_eq]
        refine may_ok ?_
        refine ⟨_, rfl, ?_⟩
        cases hm : mayT k with
        | true =>
          refine ite_tt ?_
          refine df__law_alike (11 + n) O rfl (by first | exact rfl | trivial) (Nat.le_refl _) ?_
          repeat walk_at "dd"
          refine FnP.fnEq up_glob (ih v v' (by simp only [Mine.ht] at hh; omega) hv ho) ?_
          refine ⟨_, Sub.refl _, ?_⟩
          simp only [alike]
          rw [if_pos hk, if_pos hm]
          rfl
        | false =>
          refine ite_ff ?_
          repeat walk_at "dd"
          refine ⟨_, Sub.refl _, ?_⟩
          simp only [alike]
          rw [if_pos hk, if_neg (by rw [hm]; decide)]
          rfl
      · refine ite_t (by simp [hk]) ?_
        repeat walk_at "dd"
        refine ⟨_, Sub.refl _, ?_⟩
        simp only [alike]
        rw [if_neg hk]
        rfl
    | many s vs =>
      obtain ⟨ws, rfl⟩ := many_of ht
      have hlv : vs.length ≤ 1000 := hv.1
      have hlw : ws.length ≤ 1000 := ho.1
      refine ite_f (word_loose s) ?_
      simp only [dat, tag]
      repeat walk_at "dd"
      refine ite_f (word_face s) ?_
      repeat walk_at "dd"
      intro c2 hc2
      refine op_notin_lst 0 (upd_same _ _ _) rfl rfl (by decide) (by show A.units + 3 + 1 + 0 < cLine; omega) ?_
      refine ⟨_, rfl, ?_⟩
      refine ite_f (word_in s) ?_
      repeat walk_at "dd"
      refine sx_zip (as := dats vs) (bs := dats ws) (fun i => alikes vs ws = alikes (vs.drop i) (ws.drop i)) O (n_zip _) b_zip rfl (by first | exact rfl | trivial) rfl PassesOwn.leaving rfl rfl (.head _) rfl rfl ?_ (fun i a b ha hb hJ => ?_) (fun hJ => ?_) rfl (fun uu => rfl)
      · repeat walk_at "dd"
        rfl
      · obtain ⟨x, hx, rfl⟩ := dats_some ha
        obtain ⟨y, hy, rfl⟩ := dats_some hb
        have call := ih x y (Nat.le_trans (Nat.succ_le_succ (ht_at hx)) (by simp only [Mine.ht] at hh; omega)) (fit_at hv.2 hx) (fit_at ho.2 hy)
        repeat walk_at "dd"
        refine df__law_alike (11 + n) O rfl (by first | exact rfl | trivial) (Nat.le_refl _) ?_
        repeat walk_at "dd"
        refine FnP.fnEq up_glob call ?_
        repeat walk_at "dd"
        refine op_isnot_true (notTrue (alike x y)) ?_
        refine ⟨_, rfl, ?_⟩
        have hst := alikes_step hx hy
        cases hr : (alike x y != some true) with
        | true =>
          refine ite_tt ?_
          refine df__law_alike (11 + n) O rfl (by first | exact rfl | trivial) (Nat.le_refl _) ?_
          repeat walk_at "dd"
          refine FnP.fnEq up_glob call ?_
          refine ⟨_, Sub.refl _, ?_⟩
          simp only [alike, if_true]
          rw [hJ, hst]
          match h : alike x y, hr with
          | .none, _ => rfl
          | some false, _ => rfl
        | false =>
          refine ite_ff ?_
          rw [hJ, hst]
          have : alike x y = some true := by simpa using hr
          rw [this]
      · rw [dats_len, dats_len, alikes_end] at hJ
        repeat walk_at "dd"
        refine op_len_tup (by rw [dats_len]; omega) ?_
        repeat walk_at "dd"
        refine op_len_tup (by rw [dats_len]; omega) ?_
        repeat walk_at "dd"
        refine ⟨_, Sub.refl _, ?_⟩
        simp only [alike, if_true]
        rw [hJ, dats_len, dats_len]
        show D.bool _ = D.bool _
        congr 1
        by_cases q : vs.length = ws.length
        · rw [decide_eq_true q, q]; simp
        · rw [decide_eq_false q]; exact beq_eq_false_iff_ne.mpr fun e => q (by omega)
    | _ =>
      have hf := leaf_facts2 ht trivial
      refine ite_f rfl ?_
      simp only [tag]
      repeat walk_at "dd"
      intro c2 hc2
      refine op_notin_lst 0 (upd_same _ _ _) rfl rfl (by decide) (by show A.units + 3 + 1 + 0 < cLine; omega) ?_
      refine ⟨_, rfl, ?_⟩
      refine ite_t rfl ?_
      repeat walk_at "dd"
      refine op_eq_dat 2 hf.1 (by show A.units + 3 + 2 < cLine; omega) hf.2.1 hf.2.2.1 ?_
      exact ⟨_, Sub.refl _, by rw [hf.2.2.2]; rfl⟩
  · refine ite_t (ne_str_f ht) ?_
    repeat walk_at "dd"
    exact ⟨_, Sub.refl _, by rw [alike_ne ht]; rfl⟩
theorem alike_ok {prog : Program} : ∀ (n : Nat) (v o : V), Mine.ht v ≤ n → fit v → fit o → FnP prog w (GB w.params mg mb) (.ref 211) (12 + n) [dat v, dat o] (fun d => d = resD (alike v o)) fun uu => False := by
  intro n
  induction n with
  | zero => exact fun v o => alike_step 0 (fun v o h => absurd h (by omega)) v o
  | succ n ih =>
    refine alike_step (n + 1) fun v o h hv ho => ?_
    rw [show 11 + (n + 1) = 12 + n by omega]
    exact ih v o (by omega) hv ho
end
section
open PySem PySem.W PyProof.Rows
open Builtin Builtin.ObjectAttr
set_option maxRecDepth 100000
set_option linter.unusedVariables false
set_option maxHeartbeats 4000000

/-- the exception's record -/
noncomputable def excO (t : Addr) (dd : Option Addr) : Obj := { cls := .ref 52, dict := dd, data := .fields #[.ref t, .none, .none, .none, .bool false, .none] }
theorem cls52 (P : Params) : ∃ cd, clsIn (hd.heap_39 P) 52 = some cd ∧ cd.mro = [.ref 52, .ref 32, .type "Exception", .type "BaseException", .type "object"] ∧ cd.hasDict = true := ⟨_, rfl, rfl, rfl⟩
theorem sa52 (P : Params) : findIn (hd.heap_39 P) (.ref 52) "__setattr__" = some (some (.builtin "object.__setattr__")) := by kernel_rfl
theorem exc_inst {h : Heap} {e t : Addr} (he : h.get? e = some (excO t .none)) : InstAt h e (excO t .none) 52 .none := ⟨he, rfl, rfl, trivial⟩
theorem exc_instD {h : Heap} {e t da : Addr} {od : Obj} (he : h.get? e = some (excO t (some da))) (hd : h.get? da = some od) : InstAt h e (excO t (some da)) 52 (some od) := ⟨he, rfl, rfl, hd⟩
theorem refuse52 (self : Value) : refuseLoop self "__setattr__" [.ref 52, .ref 32, .type "Exception", .type "BaseException", .type "object"] = pure () := by
  rw [refuseLoop_ref, refuseLoop_ref]
  exact PySem.F.store_Exception.passes self

section
variable {prog : Program} {w : World} {A : Around} {E : Value → Shared → Prop} {h : Heap} {g : Array GenState} {d : PySem.Drawn} {tk : Nat} {os : OsState} {e t da : Addr} {v : Value}

theorem sa_open {name : Str} {ox : Obj} {od : Option Obj} {R : Result → Shared → Prop} {s : Shared} {nt : Tok} (X : (hd.heap_39 w.params).In s.heap) (I : InstAt s.heap e ox 52 od) (hna : findIn (hd.heap_39 w.params) (.ref 52) name = some none)
    (h : wpAny (model prog w) A.in1 (storeInOwnDict (.ref e) (.ref 52) (.str name nt) name v false)
      (fun fin s' => match fin with | .done f => R (.ok f) s' | .again c' => c'.quiet = true ∧ codeAny (model prog w) A c' R s') (fun e s' => R (.error e) s') s) :
    codeAny (model prog w) A (.call (.builtin "object.__setattr__") ⟨[.ref e, .str name nt, v], []⟩) R s := by
  have SF := PySem.F.store_object
  refine hide fun uu kg => ?_
  obtain ⟨cd, hc, hm, uu⟩ := cls52 w.params
  refine kg ?_
  have sub : Looks (model prog w) s.heap (isInstance (.ref e) (.type "object")) true := I.type.andThen (looks_mroIn X (by unfold mroIn; rw [hc, Option.bind_some, hm]; rfl))
  refine codeAny_call_builtin SF.slot.plain SF.entry (@check_slot (model prog w) _ _ s "object.__setattr__" "object" "__setattr__" (.ref e) [.str name nt, v] [] _ SF.kind SF.split sub (SF.args (.ref e) (.str name nt) v) ?_)
  have hmr : Looks (model prog w) s.heap (mroOf (.ref 52)) cd.mro := (looks_clsIn X hc).andThen .now
  have L3 : Looks (model prog w) s.heap (storeTaker? .none) .none := .now
  rw [osa_eq, refuse_eq]
  refine wpAny_bind (wpAny_bind (I.type.here (wpAny_bind (hmr.here ?_))))
  rw [hm, refuse52]
  refine wpAny_pure (wpAny_bind (I.type.here (wpAny_bind ((looks_findIn X hna).here (wpAny_bind (L3.here ?_))))))
  exact h

theorem set0 {name : Str} {Q : Unit → Shared → Prop} {s : Shared} (X : (hd.heap_39 w.params).In s.heap) (he : s.heap.get? e = some (excO t .none)) (hna : findIn (hd.heap_39 w.params) (.ref 52) name = some none)
    (hq : ∀ h' tk' da, h'.get? e = some (excO t (some da)) → s.heap.get? da = none → h'.Ns1 da (fun y => if y = name then some v else none) → (∀ b o, b ≠ e → s.heap.get? b = some o → h'.get? b = some o) → Q () { s with heap := h', toks := tk' }) :
    wpAny (model prog w) A (setAttr (.ref e) name v) Q E s := by
  refine set_plain X (exc_inst he) (sa52 _) (sa_open (s := { s with toks := s.toks + 1 }) X (exc_inst he) hna ?_)
  refine hide fun uu kg => ?_
  obtain ⟨cd, hc, hm, hdct⟩ := cls52 w.params
  refine kg ?_
  refine wpAny_bind (wpAny_pure (wpAny_bind (wpAny_bind (wpAny_loadPart he (wpAny_bind (Looks.here (s := { s with toks := s.toks + 1 }) (looks_clsIn X hc) ?_))))))
  rw [hdct]
  have he₁ : (s.heap.push { cls := .type "dict", data := .dict #[] }).get? e = some (excO t .none) := Heap.get?_push_of_some _ he
  have hxs : e ≠ s.heap.objs.size := Nat.ne_of_lt (Heap.lt_size he)
  refine wpAny_bind (wpAny_alloc' ?_)
  refine wpAny_bind (wpAny_update' he₁ ?_)
  refine wpAny_pure ?_
  have hgd : ((s.heap.push { cls := .type "dict", data := .dict #[] }).update e fun o => { cls := o.cls, dict := some s.heap.objs.size, data := o.data, slots := o.slots }).get? s.heap.objs.size
      = some { cls := .type "dict", data := .dict #[] } :=
    (Heap.get?_update_ne _ _ _ _ hxs.symm).trans (Heap.get?_push_at rfl rfl)
  have hnd : ((s.heap.push { cls := .type "dict", data := .dict #[] }).update e fun o => { cls := o.cls, dict := some s.heap.objs.size, data := o.data, slots := o.slots }).Ns s.heap.objs.size (fun uu => none) :=
    ⟨_, #[], _, hgd, rfl, fun e he => absurd he (by simp), fun uu => rfl⟩
  show wpAny _ _ (storeInDict s.heap.objs.size (.str name _) name v) _ _ _
  unfold storeInDict newKeyGuard
  refine wpAny_bind (wpAny_pure (wpAny_bind (wpAny_nsSet1 (Heap.Ns1.of_empty hnd) fun h' hn' hs => ?_)))
  refine hide fun uu kg => ?_
  obtain ⟨oD, esD, epD, hoD, hdD, hcD⟩ := hn'.count (Within.cons name v Within.nil)
  refine kg ?_
  refine wpAny_bind (wpAny_lookBehind hoD (by rw [hdD]; exact pastItsLine_dict (Nat.le_trans hcD (by rw [List.length_cons, List.length_nil, sizeLine_eq]; omega))) ?_)
  refine wpAny_pure (hq h' _ s.heap.objs.size ?_ (get?_size_none _) hn' fun b o hb hbo => ?_)
  · exact (hs.2 e hxs).trans (Heap.get?_update_self _ he₁ rfl)
  · exact (hs.2 b (Nat.ne_of_lt (Heap.lt_size hbo))).trans ((Heap.get?_update_ne _ _ _ _ hb).trans (Heap.get?_push_of_some _ hbo))

theorem set1 {name : Str} {Q : Unit → Shared → Prop} {s : Shared} {m : Str → Option Value} {ns : List Str} (X : (hd.heap_39 w.params).In s.heap) (he : s.heap.get? e = some (excO t (some da))) (hn : s.heap.Ns1 da m) (hne : da ≠ e) (hw : Within m ns) (hl : ns.length ≤ 100)
    (hna : findIn (hd.heap_39 w.params) (.ref 52) name = some none)
    (hq : ∀ h' tk', h'.get? e = some (excO t (some da)) → h'.Ns1 da (fun y => if y = name then some v else m y) → (∀ b o, b ≠ da → s.heap.get? b = some o → h'.get? b = some o) → Q () { s with heap := h', toks := tk' }) :
    wpAny (model prog w) A (setAttr (.ref e) name v) Q E s := by
  refine hide fun uu kg => ?_
  obtain ⟨od, es, ep, hod, hdd, hrest⟩ := id hn
  refine kg ?_
  refine set_plain X (exc_instD he hod) (sa52 _) (sa_open (s := { s with toks := s.toks + 1 }) X (exc_instD he hod) hna ?_)
  refine hide fun uu kg => ?_
  obtain ⟨cd, hc, hm, hdct⟩ := cls52 w.params
  refine kg ?_
  refine wpAny_bind (wpAny_pure (wpAny_bind (wpAny_bind (wpAny_loadPart he (wpAny_bind (Looks.here (s := { s with toks := s.toks + 1 }) (looks_clsIn X hc) ?_))))))
  rw [hdct]
  refine wpAny_pure (a := some da) ?_
  show wpAny _ _ (storeInDict da (.str name _) name v) _ _ _
  unfold storeInDict newKeyGuard
  refine wpAny_bind (wpAny_pure (wpAny_bind (wpAny_nsSet1 hn fun h' hn' hs => ?_)))
  refine hide fun uu kg => ?_
  obtain ⟨oD, esD, epD, hoD, hdD, hcD⟩ := hn'.count (Within.cons name v hw)
  refine kg ?_
  refine wpAny_bind (wpAny_lookBehind hoD (by rw [hdD]; exact pastItsLine_dict (Nat.le_trans hcD (by rw [List.length_cons, sizeLine_eq]; omega))) ?_)
  exact wpAny_pure (hq h' _ ((hs.2 e (Ne.symm hne)).trans he) hn' fun b o hb hbo => (hs.2 b hb).trans hbo)
end
end
section
open PySem PySem.W PyProof.Rows
open Builtin Builtin.ObjectAttr
set_option maxRecDepth 100000
set_option linter.unusedVariables false
set_option maxHeartbeats 4000000
section
variable {prog : Program} {w : World} {A : Around} {E : Value → Shared → Prop} {s : Shared} {e t da : Addr} {v : Value} {env : Env} {mg mb : Str → Option Value} {base : Heap}

theorem call_attr {o : Expr} {name : Str} {apos pos : Pos} {args : List Expr} {Q : Value → Shared → Prop}
    (h : wpAny (model prog w) A (eval o env) (fun ov s₁ => ∀ pl, wpAny (model prog w) A (getMethod ov name pl) (fun p s₂ => wpAny (model prog w) A (callWith pos p.1 p.2 (backTo pos (starEach args env)) []) Q E s₂) E s₁) E s)
    (hbase : attributeBase o name env (eval o env) = eval o env)
    (hfew : ((backTo pos (starEach args env)).all (fun x => !x.1) && (backToKw pos (keywordEach [] env)).all (fun x => x.1.isSome)
      && decide (args.length + ([] : List Keyword).length + (if ([] : List Keyword).isEmpty then 0 else 1) < 30)) = true)
    (hline : (apos.endLine == pos.line) = true) :
    wpAny (model prog w) A (eval (.Call (.Attribute o name apos) args [] pos) env) Q E s := by
  rw [arm_eval_Call, hbase]
  refine wpAny_bind (wpAny_mono h (fun ov s₁ h₁ => ?_) fun uu uu e => e)
  refine wpAny_bind (wpAny_standAt ?_)
  have hform : methodCallForm (args.length + ([] : List Keyword).length) (backTo pos (starEach args env)) (backToKw pos (keywordEach [] env)) = true := hfew
  have hpos : methodCallPos true o env apos pos = pure pos := by unfold methodCallPos; simp [hline]
  unfold methodCall
  rw [hform]
  unfold calleeOf
  rw [if_pos rfl]
  refine wpAny_bind (wpAny_holding (wpAny_mono (h₁ _) (fun p s₂ h₂ => ?_) fun uu uu e => e))
  exact wpAny_bind (wpAny_of_eq hpos h₂)

theorem read_chan (P : Params) : readsIn (hd.heap_39 P) 32 (.type "type") = true := by kernel_rfl
theorem find_chan (P : Params) : findCls (hd.heap_39 P) (.ref 32) (.type "type") "__init__" = some (.val (.ref 29)) := by kernel_rfl
theorem ga_chan (P : Params) : specialIn (hd.heap_39 P) (.ref 32) "__getattribute__" = some (some (.builtin "type.__getattribute__")) := by kernel_rfl
theorem method_chan {pl : Sem Bool} {Q : Value × List Value → Shared → Prop} (X : (hd.heap_39 w.params).In s.heap) (h : Q (.ref 29, []) { s with toks := s.toks + 1 }) : wpAny (model prog w) A (getMethod (.ref 32) "__init__" pl) Q E s :=
  method_cls X (ga_chan _) (cls_value X (read_chan _) (find_chan _) rfl h)

theorem find_exc (P : Params) : findCls (hd.heap_39 P) (.type "Exception") (.type "type") "__init__" = some (.val (.builtin "Exception.__init__")) := by kernel_rfl
theorem ga_type (P : Params) : findIn (hd.heap_39 P) (.type "type") "__getattribute__" = some (some (.builtin "type.__getattribute__")) := by kernel_rfl
theorem sub_type (P : Params) : subIn (hd.heap_39 P) (.type "type") (.type "type") = some true := by kernel_rfl
theorem special_exc : specialOf (.type "Exception") "__getattribute__" = pure (some (.builtin "type.__getattribute__")) := by kernel_rfl
theorem type_exc : typeOf (.type "Exception") = pure (.type "type") := by kernel_rfl
theorem opaque_exc : opaqueClassAbove (.type "Exception") = pure none := by kernel_rfl
theorem method_exc {pl : Sem Bool} {Q : Value × List Value → Shared → Prop} (X : (hd.heap_39 w.params).In s.heap) (h : Q (.builtin "Exception.__init__", []) { s with toks := s.toks + 1 }) : wpAny (model prog w) A (getMethod (.type "Exception") "__init__" pl) Q E s := by
  unfold getMethod
  refine wpAny_bind (wpAny_of_eq special_exc ?_)
  dsimp only
  refine wp_tt canon_tga ?_
  refine wpAny_bind ?_
  refine cls_open X (Looks.of_pure opaque_exc) (Looks.of_pure type_exc) (ga_type _) (looks_hook X (r := .none) rfl) (sub_type _) (find_exc _) (wpAny_pure ?_)
  show wpAny _ _ (handedOut (.builtin "Exception.__init__")) _ _ _
  rw [handedOut_of rfl]
  exact wpAny_pure (wpAny_pure h)
end
end
section
open PySem PySem.W PyProof.Rows
open Builtin Builtin.ObjectAttr
set_option maxRecDepth 100000
set_option linter.unusedVariables false
set_option maxHeartbeats 4000000
section
variable {prog : Program} {w : World} {A : Around} {E : Value → Shared → Prop} {s : Shared} {e t da : Addr} {v : Value} {env : Env} {mg mb : Str → Option Value} {base : Heap}

theorem cls52_at (P : Params) : ∃ nm q N bs hdct sn sub ab col dd k0 k1 k2 k3 k5, (hd.heap_39 P).lookup 52 = some (excClassObj nm q 52 N bs [.ref 32, .type "Exception", .type "BaseException", .type "object"] hdct sn sub ab col dd k0 k1 k2 k3 k5 "Exception.__new__") :=
  ⟨_, _, _, _, _, _, _, _, _, _, _, _, _, _, _, rfl⟩
theorem check_initV {M : Model} {B nid initId : String} {bmB bm : List Value} {nm q : Str} {C N : Addr} {bs : List Value} {hdct : Bool} {sn : List Str} {sub : List Value} {ab : Bool} {col : Option Bool} {dd : Option Addr} {k0 k1 k2 k3 k5 : Option Value} {newId : String} (F : ExcBaseFacts B nid initId bmB) (T : Tl bmB bm) {oe : Obj} {rest : List Value} {Q : Unit → Shared → Prop} {h : Heap} {g : Array GenState} {d : PySem.Drawn} {tk : Nat} {os : OsState}
    (hC : h.get? C = some (excClassObj nm q C N bs bm hdct sn sub ab col dd k0 k1 k2 k3 k5 newId)) (he : h.get? e = some oe) (hcls : oe.cls = .ref C) (hq : Q () ⟨h, g, d, tk, os⟩) :
    wpAny M A (checkBuiltinCall initId ⟨.ref e :: rest, []⟩) Q E ⟨h, g, d, tk, os⟩ := by
  have hcB : (Value.ref C :: bm).contains (.type B) = true := by rw [List.contains_cons, T.has _ _ F.hasB, Bool.or_true]
  have hshort := F.noStar
  simp only [checkBuiltinCall, F.initKind, F.initSplit, F.initRow]
  repeat (first | (with_reducible refine wpAny_loadPart_at he ?_; rw [hcls]) | with_reducible refine wpAny_loadPart_at hC ?_ | (with_reducible refine wpAny_isSubtype_exc hC ?_; rw [hcB]) | wp_step)
  refine wpAny_onRaise ?_
  rw [show ∀ (a b : String) (n : Nat), Bind.check ⟨.positional, "*", B, .self, [⟨"args", .varPos, false⟩]⟩ a b n (List.map (fun x => x.fst) ({ pos := Value.ref e :: rest } : Args).kw) = pure () from
    fun a b n => check_star_args _ _ _ _ _ _]
  exact wpAny_pure hq
theorem tl52 : Tl [.type "Exception", .type "BaseException", .type "object"] [.ref 32, .type "Exception", .type "BaseException", .type "object"] := ⟨fun X b h => by
  rw [List.contains_cons, h]; rfl⟩

theorem bexc {Q : Value → Shared → Prop} (X : (hd.heap_39 w.params).In s.heap) (he : s.heap.get? e = some (excO t .none))
    (hq : ∀ h' t', h'.get? e = some (excO t' .none) → (∀ b o, b ≠ e → s.heap.get? b = some o → h'.get? b = some o) → Q .none { s with heap := h' }) :
    wpAny (model prog w) A (call (.builtin "Exception.__init__") [.ref e, v]) Q E s := by
  have F := PySem.F.excBase_Exception
  refine hide fun uu kg => ?_
  obtain ⟨nm, q, N, bs, hdct, sn, sub, ab, col, dd, k0, k1, k2, k3, k5, h52⟩ := cls52_at w.params
  refine kg ?_
  have hC := X _ _ h52
  refine wpAny_call (codeAny_call_builtin F.init.plain F.initEntry ?_)
  refine check_initV F tl52 hC he rfl ?_
  show wpAny _ _ (Builtin.«BaseException.__init__» ⟨[.ref e, v], []⟩) _ _ s
  unfold Builtin.«BaseException.__init__»
  dsimp only
  refine wp_ff (by simp) ?_
  unfold newTuple Builtin.BaseException.bexcPut
  have he₁ := Heap.get?_push_of_some (h := s.heap) { cls := .type "tuple", data := .seq ([v] : List Value).toArray } he
  refine wpAny_bind (wpAny_newObj_type (wpAny_bind (wpAny_bind (wpAny_field (x := .ref t) he₁ rfl rfl (wpAny_bind (wpAny_setField he₁ rfl (Nat.succ_pos _) ?_))))) (by size_fits))
  refine wpAny_letGo (wpAny_pure ?_)
  refine hq _ s.heap.objs.size ?_ fun b o hb hbo => ?_
  · exact Heap.get?_update_self _ he₁ rfl
  · rw [Heap.get?_update_other _ _ (Ne.symm hb)]
    exact Heap.get?_push_of_some _ hbo

theorem call_low {K : Frag} {f : Addr} {oc : Value} {od : Option Addr} {osl : Array (Option Value)} {name qual : Str} {params : Arguments} {body : List Stmt} {scope : Scope} {dV kV doc pm cdv ct : Value} {an : Option Addr} {vs : List Value} {binds : List (Str × Value)} {Q : Value → Shared → Prop}
    (hK : K.lookup f = some ⟨oc, od, .func (fnOf name qual params body scope dV kV doc pm an cdv ct), osl⟩) (hcd : codeIn K cdv qual = true) (X : K.In s.heap) (hlim : s.heap.NoLimit) (hd : A.depth < recursionLimit)
    (hbind : BindsTo s (fnOf name qual params body scope dV kV doc pm an cdv ct) ⟨vs, []⟩ binds) (hcell : (scope.names.all fun x => x.2 != .cell) = true) (hloc : ∀ x ∈ binds, scope.names.lookup x.1 = some .local)
    (hbody : ∀ L h₁, h₁.Ns L (fun x => binds.reverse.lookup x) → s.heap.get? L = none → (∀ b o, s.heap.get? b = some o → h₁.get? b = some o) → wpAny (model prog w) (A.deeper (envOf qual scope L f cdv)) (execs body (envOf qual scope L f cdv)) (fun fl s' => Q (match fl with | .ret v => v | _ => .none) s') (fun uu uu => False) { s with heap := h₁, toks := s.toks + binds.length })
    (hco : scope.isCoroutine = false := by rfl) (hgen : scope.isGenerator = false := by rfl) (hk : scope.kind = .function := by rfl) : wpAny (model prog w) A (call (.ref f) vs) Q E s := by
  refine wpAny_call (codeAny_call_def (fd := fnOf name qual params body scope dV kV doc pm an cdv ct) (body := body) (binds := binds) hd (X _ _ hK) rfl hlim (codeRec_of X hcd) rfl hbind (fun x hx' => by
      have := List.all_eq_true.mp hcell x hx'
      simpa using this) hloc (fun h₁ hns hk₁ => ?_) hco hgen hk)
  exact wpAny_mono (hbody _ h₁ hns (get?_size_none _) hk₁) (fun uu uu x => x) fun uu uu x => x.elim

theorem nm_loc {x : Str} {p : Pos} {m : Str → Option Value} {Q : Value → Shared → Prop} (hk : env.scope.kind = .function) (hn : s.heap.Ns env.locals m) (hv : m x = some v) (h : Q v s) (hl : env.kindOf x = some .local := by rfl) (hd : (x == ("__debug__" : Str)) = false := by decide) :
    wpAny (model prog w) A (eval (.Name x p) env) Q E s := wpAny_Name (wpAny_loadName_local hk hl hn hv h) hd

theorem spot_dflt (P : Params) : ∃ u, (hd.heap_39 P).lookup 22 = some { cls := .type "tuple", data := .seq #[.int 0 u] } := ⟨_, rfl⟩
theorem g_Chan (P : Params) : nsIn (hd.heap_39 P) mainGlobals "ChanError" = some (some (.ref 32)) := rfl
theorem n_Exc (P : Params) : nsIn (hd.heap_39 P) mainGlobals "Exception" = some none := rfl
theorem b_Exc : bootBuiltins "Exception" = some (.type "Exception") := rfl
theorem na_message (P : Params) : findIn (hd.heap_39 P) (.ref 52) "message" = some none := by kernel_rfl
theorem na_spot (P : Params) : findIn (hd.heap_39 P) (.ref 52) "spot" = some none := by kernel_rfl
theorem na_value (P : Params) : findIn (hd.heap_39 P) (.ref 52) "value" = some none := by kernel_rfl

theorem init29 {x : Str} {u : Tok} {Q : Value → Shared → Prop} (G : GB w.params mg mb base) (B : base.StaysIn s.heap) (he : s.heap.get? e = some (excO t .none)) (hbe : base.get? e = .none) (hdep : A.depth < recursionLimit)
    (hq : ∀ h' tk' t' da m, h'.get? e = some (excO t' (some da)) → s.heap.get? da = none → da ≠ e → h'.Ns1 da m → Within m ["spot", "message"] → (∀ b o, b ≠ e → s.heap.get? b = some o → h'.get? b = some o) → Q .none { s with heap := h', toks := tk' }) :
    wpAny (model prog w) A (call (.ref 29) [.ref e, .str x u]) Q E s := by
  have X : (hd.heap_39 w.params).In s.heap := G.kin.keeps B
  obtain ⟨u0, h22⟩ := spot_dflt w.params
  refine call_low (K := hd.heap_39 w.params) (f := 29) (binds := [("self", .ref e), ("message", .str x u), ("spot", .int 0 u0)]) rfl (by rfl) X (G.top.nolimit.keeps B) hdep ?hb (by rfl) ?hl ?_
  case hb => exact BindsTo.of_defaults (T := 22) rfl (X _ _ h22) rfl rfl rfl
  case hl => intro y hy; simp only [List.mem_cons, List.mem_nil_iff, or_false] at hy; rcases hy with rfl | rfl | rfl <;> rfl
  intro L h₁ hns hL k₁
  have B₁ : base.StaysIn h₁ := fun b o hb => k₁ b o (B b o hb)
  have eL : e ≠ L := fun q => by (first | exact (nb q hL he).elim | obtain rfl := sb q hL he | (rw [q, hL] at he; cases he))
  refine wpAny_execs_cons ?_
  refine wpAny_Expr ?_
  refine call_attr ?_ rfl rfl rfl
  refine Calls.Name_function_global rfl rfl (Calls.loadGlobal_builtin (mg := mg) (mb := mb) (G.top.g.keeps B₁) (mg_none_of G.kin G.top.g (n_Exc _)) (G.top.b.keeps B₁) ((G.top.builtins _ (by decide)).trans b_Exc) ?_) (by decide)
  intro pl
  refine method_exc (s := { s with heap := h₁, toks := s.toks + 3 }) (G.kin.keeps B₁) ?_
  refine PyProof.Rows.callWith_builtin1 (spliced_more (nm_loc rfl hns rfl (spliced_more (nm_loc rfl hns rfl (spliced_none ?_)))))
  refine bexc (s := { s with heap := h₁, toks := s.toks + 3 + 1 }) (G.kin.keeps B₁) (k₁ _ _ he) fun h₂ t' he₂ k₂ => ?_
  have hns₂ := hns.at (h' := h₂) fun o ho => k₂ _ _ (Ne.symm eL) ho
  have B₂ : base.StaysIn h₂ := fun b o hb => k₂ b o (fun q => by (first | exact (nb q hbe hb).elim | obtain rfl := sb q hbe hb | (rw [q, hbe] at hb; cases hb))) (B₁ b o hb)
  refine wpAny_execs_cons ?_
  refine plainObj_wpAny_Assign_Attribute (nm_loc rfl hns₂ rfl (nm_loc rfl hns₂ rfl ?_)) rfl
  refine set0 (s := { s with heap := h₂, toks := s.toks + 3 + 1 }) (G.kin.keeps B₂) he₂ (na_message _) fun h₃ tk₃ da he₃ hda hn₃ k₃ => ?_
  have daL : da ≠ L := fun q => by
    refine hide fun uu kg => ?_
    obtain ⟨o, uu, uu, ho, uu⟩ := hns₂
    refine kg ?_
    rw [← q, hda] at ho; cases ho
  have dae : da ≠ e := fun q => by rw [q] at hda; rw [show h₂.get? e = .none from hda] at he₂; cases he₂
  have hns₃ := hns₂.at (h' := h₃) fun o ho => k₃ _ _ (Ne.symm eL) ho
  have B₃ : base.StaysIn h₃ := fun b o hb => k₃ b o (fun q => by (first | exact (nb q hbe hb).elim | obtain rfl := sb q hbe hb | (rw [q, hbe] at hb; cases hb))) (B₂ b o hb)
  refine wpAny_execs_cons ?_
  refine plainObj_wpAny_Assign_Attribute (nm_loc rfl hns₃ rfl (nm_loc rfl hns₃ rfl ?_)) rfl
  refine set1 (s := { s with heap := h₃, toks := tk₃ }) (ns := ["message"]) (G.kin.keeps B₃) he₃ hn₃ dae (Within.cons _ _ Within.nil) (by decide) (na_spot _) fun h₄ tk₄ he₄ hn₄ k₄ => ?_
  refine wpAny_execs_nil ?_
  have old : ∀ b, s.heap.get? b ≠ .none → b ≠ e → h₂.get? b ≠ .none := fun b hb hbe q => by
    cases z : s.heap.get? b with
    | none => exact hb z
    | some o => (first | exact (nne (k₂ b o hbe (k₁ b o z)) q).elim | exact (dd (k₂ b o hbe (k₁ b o z)) q rfl).elim | obtain rfl := some_inj (k₂ b o hbe (k₁ b o z)) q | (rw [k₂ b o hbe (k₁ b o z)] at q; cases q))
  have hda0 : s.heap.get? da = .none := by
    exact none_of fun o z => by exact absurd hda (old da (by rw [z]; exact fun q => nomatch q) dae)
  refine hq h₄ tk₄ t' da _ he₄ hda0 dae hn₄ (Within.cons _ _ (Within.cons _ _ Within.nil)) fun b o hb hbo => ?_
  exact k₄ b o (fun q => by (first | exact (nb q hda0 hbo).elim | obtain rfl := sb q hda0 hbo | (rw [q, hda0] at hbo; cases hbo))) (k₃ b o hb (k₂ b o hb (k₁ b o hbo)))

theorem k_29 (P : Params) : ∃ oc od fd osl, (hd.heap_39 P).lookup 29 = some ⟨oc, od, .func fd, osl⟩ := ⟨_, _, _, _, rfl⟩
theorem init49 {Q : Value → Shared → Prop} (G : GB w.params mg mb base) (B : base.StaysIn s.heap) (he : s.heap.get? e = some (excO t .none)) (hbe : base.get? e = .none) (hdep : A.depth + 1 < recursionLimit)
    (hq : ∀ h' tk' t' da m, h'.get? e = some (excO t' (some da)) → s.heap.get? da = none → da ≠ e → h'.Ns da m → m "value" = some v → (∀ b o, b ≠ e → s.heap.get? b = some o → h'.get? b = some o) → Q .none { s with heap := h', toks := tk' }) :
    wpAny (model prog w) A (call (.ref 49) [.ref e, v]) Q E s := by
  have X : (hd.heap_39 w.params).In s.heap := G.kin.keeps B
  refine call_low (K := hd.heap_39 w.params) (f := 49) (binds := [("self", .ref e), ("value", v)]) rfl (by rfl) X (G.top.nolimit.keeps B) (by omega) ?hb (by rfl) ?hl ?_
  case hb => exact BindsTo.of_eq rfl
  case hl => intro y hy; simp only [List.mem_cons, List.mem_nil_iff, or_false] at hy; rcases hy with rfl | rfl <;> rfl
  intro L h₁ hns hL k₁
  have B₁ : base.StaysIn h₁ := fun b o hb => k₁ b o (B b o hb)
  have eL : e ≠ L := fun q => by (first | exact (nb q hL he).elim | obtain rfl := sb q hL he | (rw [q, hL] at he; cases he))
  refine wpAny_execs_cons ?_
  refine wpAny_Expr ?_
  refine call_attr ?_ rfl rfl rfl
  refine Calls.Name_function_global rfl rfl (Calls.loadGlobal_global (mg := mg) (G.top.g.keeps B₁) (mg_of G.kin G.top.g (g_Chan _)) ?_) (by decide)
  intro pl
  refine method_chan (s := { s with heap := h₁, toks := s.toks + 2 }) (G.kin.keeps B₁) ?_
  refine hide fun uu kg => ?_
  obtain ⟨oc, od, fd, osl, hK⟩ := k_29 w.params
  refine kg ?_
  refine Calls.callWith_function (o := ⟨oc, od, .func fd, osl⟩) (fd := fd) (Calls.evalArgs_plain (spliced_more (nm_loc rfl hns rfl (spliced_more (Calls.Constant_str (spliced_none ?_))))))
  refine ⟨⟨(G.kin.keeps B₁) _ _ hK, rfl⟩, ?_⟩
  refine init29 (s := { s with heap := h₁, toks := s.toks + 2 + 1 + 1 }) G B₁ (k₁ _ _ he) hbe (by show A.depth + 1 < _; omega) fun h₂ tk₂ t' da m he₂ hda dae hn₂ hw k₂ => ?_
  have daL : da ≠ L := fun q => by
    refine hide fun uu kg => ?_
    obtain ⟨o, uu, uu, ho, uu⟩ := hns
    refine kg ?_
    rw [← q, hda] at ho; cases ho
  have hns₂ := hns.at (h' := h₂) fun o ho => k₂ _ _ (Ne.symm eL) ho
  have B₂ : base.StaysIn h₂ := fun b o hb => k₂ b o (fun q => by (first | exact (nb q hbe hb).elim | obtain rfl := sb q hbe hb | (rw [q, hbe] at hb; cases hb))) (B₁ b o hb)
  refine wpAny_execs_cons ?_
  refine plainObj_wpAny_Assign_Attribute (nm_loc rfl hns₂ rfl (nm_loc rfl hns₂ rfl ?_)) rfl
  refine set1 (s := { s with heap := h₂, toks := tk₂ }) (ns := ["spot", "message"]) (G.kin.keeps B₂) he₂ hn₂ dae hw (by decide) (na_value _) fun h₃ tk₃ he₃ hn₃ k₃ => ?_
  refine wpAny_execs_nil ?_
  have hda0 : s.heap.get? da = .none := by
    exact none_of fun o z => by exact absurd ((k₁ da o z).symm.trans hda) (fun q => nomatch q)
  exact hq h₃ tk₃ t' da _ he₃ hda0 dae hn₃.ns (if_pos rfl) fun b o hb hbo => k₃ b o (fun q => by (first | exact (nb q hda0 hbo).elim | obtain rfl := sb q hda0 hbo | (rw [q, hda0] at hbo; cases hbo))) (k₂ b o hb (k₁ b o hbo))

theorem k_49 (P : Params) : ∃ oc od fd osl, (hd.heap_39 P).lookup 49 = some ⟨oc, od, .func fd, osl⟩ ∧ oc = .type "function" := ⟨_, _, _, _, rfl, rfl⟩
theorem init_52 (P : Params) : findIn (hd.heap_39 P) (.ref 52) "__init__" = some (some (.ref 49)) := by kernel_rfl
/-- the class is called -/
theorem make52 {Q : Value → Shared → Prop} (G : GB w.params mg mb base) (B : base.StaysIn s.heap) (hdep : A.depth + 2 < recursionLimit)
    (hq : ∀ h' tk' t' e da m, h'.get? e = some (excO t' (some da)) → s.heap.get? e = .none → s.heap.get? da = none → da ≠ e → h'.Ns da m → m "value" = some v → (∀ b o, s.heap.get? b = some o → h'.get? b = some o) → Q (.ref e) { s with heap := h', toks := tk' }) :
    wpAny (model prog w) A (call (.ref 52) [v]) Q E s := by
  have X : (hd.heap_39 w.params).In s.heap := G.kin.keeps B
  refine hide fun uu kg => ?_
  obtain ⟨nm, q, N, bs, hdct, sn, sub, ab, col, dd, k0, k1, k2, k3, k5, h52⟩ := cls52_at w.params
  refine kg ?_
  have hC := X _ _ h52
  refine hide fun uu kg => ?_
  obtain ⟨oc, od, fd, osl, hK, hoc⟩ := k_49 w.params
  refine kg ?_
  refine call_excV PySem.F.excBase_Exception tl52 hC (looks_findIn X (init_52 _)) (X _ _ hK) hoc (fun h₁ e M => ?_) (by size_fits)
  refine hide fun uu kg => ?_
  obtain ⟨t, he, ht0, ht⟩ := M.there
  refine kg ?_
  have he0 : s.heap.get? e = .none := M.new
  have hbe : base.get? e = .none := by
    exact none_of fun o z => by (first | exact (nne (B e o z) he0).elim | exact (dd (B e o z) he0 rfl).elim | obtain rfl := some_inj (B e o z) he0 | (rw [B e o z] at he0; cases he0))
  refine init49 (s := { s with heap := h₁ }) G (fun b o hb => M.keeps b o (B b o hb)) he hbe (by show A.depth + 1 + 1 < _; omega) fun h₂ tk₂ t' da m he₂ hda dae hn₂ hv k₂ => ⟨rfl, ?_⟩
  refine hq h₂ tk₂ t' e da m he₂ he0 ?_ dae hn₂ hv fun b o hb => k₂ b o (fun q => by (first | exact (nb q he0 hb).elim | obtain rfl := sb q he0 hb | (rw [q, he0] at hb; cases hb))) (M.keeps b o hb)
  exact none_of fun o z => by exact absurd ((M.keeps da o z).symm.trans hda) (fun q => nomatch q)
end
end
section
open PySem PySem.W PyProof.Rows
open Builtin Builtin.ObjectAttr
set_option maxRecDepth 100000
set_option linter.unusedVariables false
set_option maxHeartbeats 4000000
noncomputable def cmpB : Array UInt8 := #[99, 111, 109, 112, 97, 114, 105, 110, 103, 32, 117, 110, 99, 111, 109, 112, 97, 114, 97, 98, 108, 101, 32, 116, 121, 112, 101]
noncomputable def hashB : Array UInt8 := #[104, 97, 115, 104, 32, 111, 102, 32, 117, 110, 104, 97, 115, 104, 97, 98, 108, 101, 32, 116, 121, 112, 101]
/-- the written texts and their octets -/
noncomputable def Enc (x : Str) (b : Array UInt8) : Prop := (∀ t u, Builtin.«str.encode» ⟨[.str x t, .str "ascii" u], []⟩ = (do ret (← mkBytes b))) ∧ b.size ≤ 100
theorem enc_cmp : Enc "comparing uncomparable type" cmpB := ⟨fun t u => by kernel_rfl, by decide⟩
theorem enc_hash : Enc "hash of unhashable type" hashB := ⟨fun t u => by kernel_rfl, by decide⟩

section
variable {prog : Program} {w : World} {A : Around} {E : Value → Shared → Prop} {s : Shared} {e t da : Addr} {v : Value} {env : Env} {mg mb : Str → Option Value} {base : Heap}

theorem call_encode {x : Str} {b : Array UInt8} {t u : Tok} {Q : Value → Shared → Prop} (hx : Enc x b) (h : Q (.bytes b s.toks) { s with toks := s.toks + 1 }) : wpAny (model prog w) A (call (.builtin "str.encode") [.str x t, .str "ascii" u]) Q E s := by
  refine wpAny_call (codeAny_call_builtin PySem.F.slot_str_encode.plain PySem.F.entry_str_encode (PySem.F.slot_str_encode.check _ _ _ _ _ _ _ _ (typeIs_str s x t) (PySem.F.args_str_encode_2 _ _) ?_))
  rw [hx.1]
  exact wpAny_bind (wpAny_mkBytes (wpAny_pure h) (by have := hx.2; rw [sizeLine_eq]; omega))

theorem g_GoPanic (P : Params) : nsIn (hd.heap_39 P) mainGlobals "GoPanic" = some (some (.ref 52)) := rfl
theorem g_RUNTIME (P : Params) : nsIn (hd.heap_39 P) mainGlobals "RUNTIME_ERROR" = some (some (.ref 55)) := rfl

/-- what the maker of panics gives -/
noncomputable def PanicAt (h h' : Heap) (e : Addr) (b : Array UInt8) : Prop := ∃ t da tt m x y k, h'.get? e = some (excO t (some da)) ∧ h.get? e = .none ∧ h.get? da = .none ∧ da ≠ e ∧ h'.Ns da m ∧ m "value" = some (.ref tt) ∧ h'.get? tt = some (tupO #[x, y, .bytes b k] 0)
theorem make62 {x : Str} {b : Array UInt8} {u : Tok} {Q : Value → Shared → Prop} (hx : Enc x b) (G : GB w.params mg mb base) (B : base.StaysIn s.heap) (hdep : A.depth + 3 < recursionLimit)
    (hq : ∀ h' tk' e, PanicAt s.heap h' e b → (∀ b o, s.heap.get? b = some o → h'.get? b = some o) → Q (.ref e) { s with heap := h', toks := tk' }) :
    wpAny (model prog w) A (call (.ref 62) [.str x u]) Q E s := by
  have X : (hd.heap_39 w.params).In s.heap := G.kin.keeps B
  refine call_low (K := hd.heap_39 w.params) (f := 62) (binds := [("text", .str x u)]) rfl (by rfl) X (G.top.nolimit.keeps B) (by omega) ?hb (by rfl) ?hl ?_
  case hb => exact BindsTo.of_eq rfl
  case hl => intro y hy; simp only [List.mem_cons, List.mem_nil_iff, or_false] at hy; rcases hy with rfl; rfl
  intro L h₁ hns hL k₁
  have B₁ : base.StaysIn h₁ := fun b o hb => k₁ b o (B b o hb)
  refine wpAny_execs_cons (wpAny_Return_some ?_)
  refine Call_Name rfl (Calls.Name_function_global rfl rfl (Calls.loadGlobal_global (mg := mg) (G.top.g.keeps B₁) (mg_of G.kin G.top.g (g_GoPanic _)) ?_) (by decide))
  unfold callWith
  refine wpAny_bind (wpAny_holding (wpAny_mono (Q := fun a s₂ => ∃ h₂ tk₂ tt x y k, a = ⟨[.ref tt], []⟩ ∧ s₂ = { s with heap := h₂, toks := tk₂ } ∧ (∀ b o, h₁.get? b = some o → h₂.get? b = some o) ∧ h₂.get? tt = some (tupO #[x, y, .bytes b k] 0)) (E := fun uu uu => False) (Calls.evalArgs_plain (spliced_more (wpAny_Tuple ?_))) (fun a s₂ h₂ => wpAny_bind (wpAny_standAt ?_)) fun uu uu x => x.elim))
  · refine spliced_more (Calls.Constant_str (spliced_more (Calls.Name_function_global rfl rfl (Calls.loadGlobal_global (mg := mg) (G.top.g.keeps B₁) (mg_of G.kin G.top.g (g_RUNTIME _)) (spliced_more ?_)) (by decide))))
    refine wpAny_Call_method_late rfl rfl rfl rfl (nm_loc rfl hns rfl ?_)
    refine ⟨"str", "str.encode", PySem.F.plainAttrs_str, PySem.F.slot_str_encode, PySem.F.type_str_encode, typeIs_str _ _ _, (fun uu e => nomatch e), ?_⟩
    refine Calls.callWith_builtin rfl (Calls.evalArgs_plain (spliced_more (Calls.Constant_str (spliced_none ?_))))
    refine call_encode hx (spliced_none ⟨by size_fits, spliced_none ?_⟩)
    refine ⟨_, _, _, _, _, _, rfl, rfl, fun b o e => Heap.get?_push_of_some _ e, Heap.get?_push_size _ rfl⟩
  · refine hide fun uu kg => ?_
    obtain ⟨h₂, tk₂, tt, y, z, k, rfl, rfl, k₂, htt⟩ := h₂
    refine kg ?_
    refine hide fun uu kg => ?_
    obtain ⟨nm, q, N, bs, hdct, sn, sub, ab, col, dd, k0, k1, k2, k3, k5, h52⟩ := cls52_at w.params
    refine kg ?_
    have B₂ : base.StaysIn h₂ := fun b o hb => k₂ b o (B₁ b o hb)
    have hC := G.kin.keeps B₂ _ _ h52
    refine wpAny_bind (wpAny_keeperOf_exc (h := h₂) hC ?_)
    refine wpAny_bind (make52 (s := { s with heap := h₂, toks := tk₂ }) G B₂ (by show A.depth + 1 + 2 < _; omega) fun h₃ tk₃ t' e da m he he0 hda dae hn hv k₃ => wpAny_bind (wpAny_holding (wpAny_point (wpAny_pure ?_))))
    have old : ∀ b o, s.heap.get? b = some o → h₂.get? b = some o := fun b o e => k₂ b o (k₁ b o e)
    have fresh : ∀ b, h₂.get? b = .none → s.heap.get? b = .none := fun b hb => by
      exact none_of fun o z => by (first | exact (nne (old b o z) hb).elim | exact (dd (old b o z) hb rfl).elim | obtain rfl := some_inj (old b o z) hb | (rw [old b o z] at hb; cases hb))
    exact hq h₃ tk₃ e ⟨t', da, tt, m, y, z, k, he, fresh e he0, fresh da hda, dae, hn, hv, k₃ _ _ htt⟩ fun b o e => k₃ b o (old b o e)
end
end
section
open PySem PySem.W PyProof.Rows
open Builtin Builtin.ObjectAttr
set_option maxRecDepth 100000
set_option linter.unusedVariables false
set_option maxHeartbeats 4000000
section
variable {prog : Program} {w : World} {C : Cx} {s s₁ s' : Shared} {ρ ρ₁ : Locs} {M M₁ : LMap} {n : Nat} {mg mb : Str → Option Value} {X : Array UInt8 → Prop}

theorem k_62 (P : Params) : ∃ oc od fd osl, (hd.heap_39 P).lookup 62 = some ⟨oc, od, .func fd, osl⟩ := ⟨_, _, _, _, rfl⟩
theorem raise_made {A : Around} {E : Value → Shared → Prop} {env : Env} {x : Sem Value} {Q : Flow → Shared → Prop} (hh : A.handled = none)
    (h : wpAny (model prog w) A x (fun v s₁ => ∃ e t da, v = .ref e ∧ (hd.heap_39 w.params).In s₁.heap ∧ s₁.heap.get? e = some (excO t (some da)) ∧ E (.ref e) s₁) E s) :
    wpAny (model prog w) A (raiseStmt env (some x) none) Q E s := by
  refine hide fun uu kg => ?_
  obtain ⟨nm, q, N, bs, hdct, sn, sub, ab, col, dd, k0, k1, k2, k3, k5, h52⟩ := cls52_at w.params
  refine kg ?_
  have hcB : (Value.ref 52 :: [Value.ref 32, .type "Exception", .type "BaseException", .type "object"]).contains (.type "BaseException") = true := by decide
  unfold raiseStmt
  refine wpAny_bind (wpAny_mono h (fun v s₁ h₁ => ?_) fun uu uu x => x)
  refine hide fun uu kg => ?_
  obtain ⟨e, t, da, rfl, X, he, hE⟩ := h₁
  refine kg ?_
  have hC := X _ _ h52
  refine hide fun uu kg => ?_
  obtain ⟨hp, g, d, tk, os⟩ := s₁
  refine kg ?_
  unfold excO at he
  repeat (first | with_reducible refine wpAny_loadPart_at he ?_ | with_reducible refine wpAny_loadPart_at hC ?_ | (with_reducible refine wpAny_isSubtype_exc hC ?_; rw [hcB]) | wp_step)
  exact wpAny_raiseNew_none hh hE

theorem sx_raise {x : Str} {b : Array UInt8} {np cpos pos cp : Pos} {kk : Nat} {Q : Option D → Locs → LMap → Prop} (hx : Enc x b) (O : CxOk (GB w.params mg mb) C n) (hn : 5 ≤ n) (hk : C.env.kindOf "runtime_panic" = some .globalImplicit) (hE : Takes C X) (hX : X b) :
    Sx prog w C ρ M (.Raise (some (.Call (.Name "runtime_panic" np) [.Constant (.str x) kk cp] [] cpos)) none pos) Q := fun s S => by
  have G := O.glob
  have hdep := O.depth
  rw [arm_exec_Raise]
  refine wpAny_bind (wpAny_standAt (raise_made O.handled (wpAny_bind (wpAny_mono (Q := fun v s₁ => ∃ e t da, v = .ref e ∧ (hd.heap_39 w.params).In s₁.heap ∧ s₁.heap.get? e = some (excO t (some da)) ∧ C.E (.ref e) s₁) (E := C.E) ?_ (fun v s₃ h₃ => wpAny_bind (wpAny_standAt (wpAny_pure h₃))) fun uu uu x => x))))
  have B := S.stays
  refine Call_Name rfl (Calls.Name_function_global O.kind hk (Calls.loadGlobal_global (mg := mg) (by rw [O.globals]; exact G.top.g.keeps B) (mg_of G.kin G.top.g (g_runtime_panic _)) ?_) (by decide))
  refine hide fun uu kg => ?_
  obtain ⟨oc, od, fd, osl, hK⟩ := k_62 w.params
  refine kg ?_
  refine Calls.callWith_function (o := ⟨oc, od, .func fd, osl⟩) (fd := fd) (Calls.evalArgs_plain (spliced_more (Calls.Constant_str (spliced_none ?_))))
  refine ⟨⟨(G.kin.keeps B) _ _ hK, rfl⟩, ?_⟩
  refine make62 (s := { s with toks := s.toks + 1 }) hx G B (by omega) fun h' tk' e P k => ?_
  refine hide fun uu kg => ?_
  obtain ⟨t, da, tt, m, y, z, u, he, he0, hda, dae, hn, hv, htt⟩ := P
  refine kg ?_
  have none_base : ∀ a, s.heap.get? a = .none → C.base.get? a = .none := fun a ha => by
    exact none_of fun o q => by (first | exact (nne (B a o q) ha).elim | exact (dd (B a o q) ha rfl).elim | obtain rfl := some_inj (B a o q) ha | (rw [B a o q] at ha; cases ha))
  have none_past : ∀ a, s.heap.get? a = .none → C.past.of a = .none := fun a ha => by
    exact none_of fun o q => by
      obtain ⟨uu, sl, e⟩ := S.past _ _ q
      (first | exact (nne ha e).elim | exact (dd ha e rfl).elim | obtain rfl := some_inj ha e | (rw [ha] at e; cases e))
  have B' : C.base.StaysIn h' := fun b o q => k b o (B b o q)
  refine ⟨e, t, da, rfl, G.kin.keeps B', he, hE .none True _ _ ?_⟩
  refine ⟨B', fun env hen => ?_, fun b o q => ?_, S.like.up, e, rfl, none_base e he0, ⟨⟨_, _, da, tt, m, u, b, y, z, he, rfl, rfl, rfl, hn, hv, ⟨_, htt, rfl, _, rfl⟩, hX, none_past da hda⟩⟩, _, _, he, rfl, .inl ⟨trivial, rfl⟩⟩
  · refine hide fun uu kg => ?_
    obtain ⟨h1, L, o, es, nn, h2, h3, h4, h5⟩ := S.frames env hen
    refine kg ?_
    exact ⟨h1, L, o, es, nn, h2, h3, k _ _ h4, h5⟩
  · obtain ⟨h1, sl, h2⟩ := S.past b o q
    exact ⟨h1, sl, k _ _ h2⟩
end
end
section
open PySem PySem.W PyProof.Rows
open Builtin Builtin.ObjectAttr
set_option maxRecDepth 100000
set_option linter.unusedVariables false
set_option maxHeartbeats 4000000
section
variable {prog : Program} {w : World} {A : Around} {E : Value → Shared → Prop} {s : Shared} {e t da : Addr} {v : Value} {env : Env} {mg mb : Str → Option Value} {base : Heap}

theorem isStr_key {n : Str} {t : Tok} {name : Str} : (Value.str n t).isStr name = (n == name) := rfl
theorem lookIn_of {o : Obj} {es : Array DictEntry} {ep : Nat} {name : Str} {v : Value} (hd : o.data = .dict es ep) (hk : StrKeys es) (hf : nsFind es name = some v) : lookIn name o = some (some v) := by
  unfold lookIn
  rw [hd]
  dsimp only
  have e : nsFind es name = (es.toList.find? (·.key.isStr name)).map (·.val) := by
    unfold nsFind findBy
    first
      | (rw [← Array.find?_toList]; done)
      | rfl
      | (rw [← Array.find?_toList]; rfl)
  rw [e] at hf
  obtain ⟨en, he, rfl⟩ := Option.map_eq_some_iff.mp hf
  rw [he]
theorem ga_52 (P : Params) : findIn (hd.heap_39 P) (.ref 52) "__getattribute__" = some (some (.builtin "BaseException.__getattribute__")) := by kernel_rfl
theorem hook_52 (P : Params) : (if onTheHeap (.ref 52) then findIn (hd.heap_39 P) (.ref 52) "__getattr__" else some none) = some none := by kernel_rfl
theorem hasd_52 (P : Params) : hasDictIn (hd.heap_39 P) 52 = true := by kernel_rfl
theorem nog (F : Frag) : noGet F none = true := by first | rfl | (unfold noGet; rfl)
theorem oga_eq (self : Value) (name : Str) (tk : Tok) : ∃ k : Value → Found → Sem PySem.Fin, Builtin.«object.__getattribute__» ⟨[self, .str name tk], []⟩ = (typeOf self >>= fun tp => find self tp name >>= k tp) ∧ ∀ tp v, k tp (.value v) = ret v := ⟨_, rfl, fun uu uu => rfl⟩
theorem exc_ne : (onTheHeap (Value.ref 52) && Value.builtin "BaseException.__getattribute__" == Value.builtin "object.__getattribute__") = false := by
  rw [show (Value.builtin "BaseException.__getattribute__" == Value.builtin "object.__getattribute__") = false from by decide +kernel, Bool.and_false]

theorem get_excval {oe : Obj} {m : Str → Option Value} {v : Value} {Q : Value → Shared → Prop} {expr : Bool} (X : (hd.heap_39 w.params).In s.heap) (he : s.heap.get? e = some oe) (hc : oe.cls = .ref 52) (hno : notCls oe = true) (hdd : oe.dict = some da) (hn : s.heap.Ns da m) (hv : m "value" = some v) (hh : handedIn v = true)
    (hq : Q v { s with toks := s.toks + 1 }) : wpAny (model prog w) A (getAttr (.ref e) "value" expr) Q E s := by
  refine hide fun uu kg => ?_
  obtain ⟨od, es, ep, hod, hdd', hk, hf⟩ := hn
  refine kg ?_
  have I : InstAt s.heap e oe 52 (some od) := ⟨he, hc, hno, by rw [hdd]; exact hod⟩
  have hl : lookIn "value" od = some (some v) := lookIn_of hdd' hk ((hf _).trans hv)
  have hfo : findObj (hd.heap_39 w.params) 52 (some od) "value" = some (.value v) := findObj_own (hasd_52 _) (na_value _) (nog _) hl
  refine hide fun uu kg => ?_
  obtain ⟨hp, g, d, tk, os⟩ := s
  refine kg ?_
  have L0 := I.type (M := model prog w)
  have L1 := looks_findIn (M := model prog w) X (ga_52 w.params)
  have LB : Looks (model prog w) hp (hookBefore (.ref 52)) none := looks_hook X (hook_52 _)
  have FG := PySem.F.attr_Exception
  unfold getAttr getAttrBy
  refine wpAny_bind (wpAny_mkText (wpAny_holding (wpAny_bind (L0.at (wpAny_bind (L1.at ?_))))))
  dsimp only
  rw [exc_ne, if_neg (by decide)]
  unfold getAttrByItsOwn
  refine wpAny_bind (LB.at (wpAny_bind (wpAny_attempt (wpAny_holding ?_))))
  unfold callGetattribute
  rw [show (expr && onTheHeap (Value.builtin "BaseException.__getattribute__")) = false from Bool.and_false _, if_neg (by decide)]
  unfold boundAndCalled
  rw [FG.ga.bind]
  refine wpAny_bind (wpAny_pure ?_)
  show wpAny _ _ (call (.builtin "BaseException.__getattribute__") [.ref e, .str "value" tk]) _ _ _
  have hk : builtinKind "BaseException.__getattribute__" = some .slot := by decide +kernel
  have hsplit : splitId "BaseException.__getattribute__" = some ("BaseException", "__getattribute__") := by decide +kernel
  refine hide fun uu kg => ?_
  obtain ⟨cd, hcd, hm, uu⟩ := cls52 w.params
  refine kg ?_
  have sub : Looks (model prog w) hp (isInstance (.ref e) (.type "BaseException")) true := I.type.andThen (looks_mroIn X (by unfold mroIn; rw [hcd, Option.bind_some, hm]; rfl))
  refine wpAny_call (codeAny_call_builtin FG.ga.plain PySem.F.entry_bexc_ga (@check_slot (model prog w) _ _ ⟨hp, g, d, tk + 1, os⟩ "BaseException.__getattribute__" "BaseException" "__getattribute__" (.ref e) [.str "value" tk] [] _ hk hsplit sub (PySem.F.args_bexc_ga _ _) ?_))
  obtain ⟨k, hke, hkv⟩ := oga_eq (.ref e) "value" tk
  rw [hke]
  refine wpAny_bind (L0.at (wpAny_bind ((looks_find (M := model prog w) X I hfo).at ?_)))
  rw [hkv]
  refine wpAny_pure ?_
  show wpAny _ _ (handedOut v) _ _ _
  rw [handedOut_of hh]
  exact wpAny_pure hq
end
end
section
open PySem PySem.W PyProof.Rows
open PyProof.Rows.TI (gone gone_get gone_none gone_some)
set_option maxRecDepth 100000
set_option linter.unusedVariables false
set_option maxHeartbeats 4000000
section
variable {prog : Program} {w : World} {C : Cx} {s s₁ s' : Shared} {ρ ρ₁ : Locs} {M M₁ : LMap} {G : Heap → Prop} {n : Nat} {mg mb : Str → Option Value} {X : Array UInt8 → Prop}

/-- the own names are turned in some way -/
theorem sit_names {h' : Heap} {tk : Nat} {m m' : Str → Option Value} (S : Sit C s ρ M) (hob : C.base.get? C.env.locals = .none) (hop : C.past.of C.env.locals = .none) (hm : s.heap.Ns C.env.locals m)
    (hn : h'.Ns C.env.locals m') (hs : Heap.SameBut C.env.locals s.heap h') : Sit C { s with heap := h', toks := tk } [] M := by
  refine hide fun uu kg => ?_
  obtain ⟨oL, esL, epL, hoL, hdL, uu⟩ := id hm
  refine kg ?_
  have notL : ∀ b o, s.heap.get? b = some o → (∀ es n, o.data ≠ .dict es n) → h'.get? b = some o := fun b o e hd => (hs.2 b fun q => by (first | exact (nb q hoL e).elim | obtain rfl := sb q hoL e | (rw [q, hoL] at e; cases e)); exact hd _ _ hdL).trans e
  have tups : TupsStay s.heap h' := fun a vs ⟨n, ho⟩ => ⟨n, notL a _ ho (fun es k q => by cases q)⟩
  refine ⟨fun b o e => (hs.2 b fun q => by (first | exact (nb q hob e).elim | obtain rfl := sb q hob e | (rw [q, hob] at e; cases e))).trans (S.stays b o e), fun env he => ?_, fun a ds e => ?_, fun a ha => ?_, ⟨_, hn⟩, fun y c e => ?_, S.inj, (fun y e hy => nomatch hy), fun b o e => ⟨(S.past b o e).1, (S.past b o e).2.imp fun sl z => (hs.2 b fun q => by (first | exact (nb q hop e).elim | obtain rfl := sb q hop e | (rw [q, hop] at e; cases e))).trans z⟩, S.like.up, S.tab.same hs (let ⟨o, _, _, ho, _⟩ := hn; ⟨o, ho⟩)⟩
  · refine hide fun uu kg => ?_
    obtain ⟨hk, L, o, es, n, hf, hb, ho, hd⟩ := S.frames env he
    refine kg ?_
    by_cases q : L = C.env.locals
    · refine hide fun uu kg => ?_
      obtain ⟨o', es', ep', ho', hd', uu⟩ := hn
      refine kg ?_
      exact ⟨hk, L, o', es', ep', hf, hb, by rw [q]; exact ho', hd'⟩
    · exact ⟨hk, L, o, es, n, hf, hb, (hs.2 L q).trans ho, hd⟩
  · exact ⟨(S.lists a ds e).1, (S.lists a ds e).2.turn (fun vs n e => notL a _ e fun es k q => by cases q) tups fun b o vs e hd uu => notL b o e fun es k q => by (first | exact (nne hd q).elim | exact (dd hd q rfl).elim | obtain rfl := some_inj hd q | (rw [hd] at q; cases q))⟩
  · refine hide fun uu kg => ?_
    obtain ⟨o, ho, h1, h2⟩ := S.own a ha
    refine kg ?_
    by_cases q : a = C.env.locals
    · refine hide fun uu kg => ?_
      obtain ⟨o', es', ep', ho', hd', uu⟩ := hn
      refine kg ?_
      exact ⟨o', by rw [q]; exact ho', (fun xs n z => by rw [hd'] at z; cases z), fun vs z => by (first | exact (nne hd' z).elim | exact (dd hd' z rfl).elim | obtain rfl := some_inj hd' z | (rw [hd'] at z; cases z))⟩
    · exact ⟨o, (hs.2 a q).trans ho, h1, h2⟩
  · refine hide fun uu kg => ?_
    obtain ⟨v', o, ho, hd⟩ := S.cells y c e
    refine kg ?_
    exact ⟨v', o, notL c o ho (fun es k q => by (first | exact (nne hd q).elim | exact (dd hd q rfl).elim | obtain rfl := some_inj hd q | (rw [hd] at q; cases q))), hd⟩

/-- what a try takes as its base: all but the frames -/
noncomputable def tryBase (C : Cx) (s : Shared) : Heap := gone s.heap (frs C.stk)
noncomputable def tryPast (C : Cx) (s : Shared) : Was := ⟨fun b => if b ∈ frs C.stk then s.heap.get? b else .none, s⟩
noncomputable abbrev tryCx (C : Cx) (s : Shared) (E : Value → Shared → Prop) : Cx := { A := C.A, env := C.env, base := tryBase C s, past := tryPast C s, stk := C.stk, own := [], E }
theorem tryUp (S : Sit C s ρ M) : ∀ b o, C.base.get? b = some o → (tryBase C s).get? b = some o := fun b o e => by
  have : b ∉ frs C.stk := fun q => by (first | exact (nne (S.frames.mem q).1 e).elim | exact (dd (S.frames.mem q).1 e rfl).elim | obtain rfl := some_inj (S.frames.mem q).1 e | (rw [(S.frames.mem q).1] at e; cases e))
  exact (gone_get this).trans (S.stays b o e)
theorem tryOk (up : Up G) (O : CxOk G C n) (S : Sit C s ρ M) {E : Value → Shared → Prop} : CxOk G (tryCx C s E) n :=
  ⟨O.frames, O.depth, O.units, O.handled, up _ _ O.glob (tryUp S), fun uu z => (nomatch z), fun uu z => (nomatch z), O.kind, O.globals, O.builtins⟩
theorem trySit (S : Sit C s ρ M) {E : Value → Shared → Prop} : Sit (tryCx C s E) s ρ noM := by
  refine ⟨fun b o e => (gone_some e).2, fun env he => ?_, lists_noM, ownOk_nil _, S.ns, S.cells, S.inj, S.names, fun b o e => ?_, Like.refl s, S.tab⟩
  · refine hide fun uu kg => ?_
    obtain ⟨hk, L, o, es, n, hf, hb, ho, hd⟩ := S.frames env he
    refine kg ?_
    exact ⟨hk, L, o, es, n, hf, gone_none (List.mem_filterMap.mpr ⟨env, he, hf⟩), ho, hd⟩
  · change (if b ∈ frs C.stk then s.heap.get? b else none) = some o at e
    by_cases q : b ∈ frs C.stk
    · rw [if_pos q] at e
      refine hide fun uu kg => ?_
      obtain ⟨uu, o', es, n, ho', hd⟩ := S.frames.mem q
      refine kg ?_
      rw [e] at ho'
      cases ho'
      exact ⟨⟨es, n, hd⟩, o.slots, e⟩
    · (first | exact (nne (if_neg q) e).elim | exact (dd (if_neg q) e rfl).elim | obtain rfl := some_inj (if_neg q) e | (rw [if_neg q] at e; cases e))
theorem tryStep {k : Value} {o : Prop} {v : Value} (F : Fly (tryBase C s) (tryPast C s) C.stk X k o v s') : Step [] C.stk s noM s' noM := by
  refine ⟨fun b ob e uu uu => ?_, fun b ob e => ?_, fun a h => absurd rfl h, F.like⟩
  · by_cases q : b ∈ frs C.stk
    · obtain ⟨uu, sl, h⟩ := F.was b ob (show (if b ∈ frs C.stk then s.heap.get? b else none) = some ob by rw [if_pos q]; exact e)
      exact ⟨sl, h, fun z => absurd q z⟩
    · exact ⟨ob.slots, F.stays b ob ((gone_get q).trans e), fun uu => rfl⟩
  · by_cases q : b ∈ frs C.stk
    · obtain ⟨uu, sl, h⟩ := F.was b ob (show (if b ∈ frs C.stk then s.heap.get? b else none) = some ob by rw [if_pos q]; exact e)
      exact ⟨_, h⟩
    · exact ⟨ob, F.stays b ob ((gone_get q).trans e)⟩
end
end
section
open PySem PySem.W PyProof.Rows
set_option maxRecDepth 100000
set_option linter.unusedVariables false
set_option maxHeartbeats 4000000
theorem Fly.monoX {X X' : Array UInt8 → Prop} (k : ∀ b, X b → X' b) {base : Heap} {past : Was} {stk : List Env} {ok : Value} {o : Prop} {v : Value} {s : Shared} (F : Fly base past stk X ok o v s) : Fly base past stk X' ok o v s := by
  refine hide fun uu kg => ?_
  obtain ⟨e, h1, h2, P, h3⟩ := F.is
  refine kg ?_
  refine ⟨F.stays, F.frames, F.was, F.like, e, h1, h2, ?_, h3⟩
  refine hide fun uu kg => ?_
  obtain ⟨oe, vs, da, t, m, k', b, x, y, a1, a2, a3, a4, a5, a6, a7, a8, a9⟩ := P.is
  refine kg ?_
  exact ⟨oe, vs, da, t, m, k', b, x, y, a1, a2, a3, a4, a5, a6, a7, k _ a8, a9⟩
theorem FnX.monoX {prog : Program} {w : World} {G : Heap → Prop} {f : Value} {n : Nat} {ds : List D} {M : LMap} {Q : D → LMap → Prop} {X X' : Array UInt8 → Prop} (h : FnX prog w G f n ds M Q X) (k : ∀ b, X b → X' b) : FnX prog w G f n ds M Q X' :=
  fun A stk base past s vs E h1 h2 h3 h4 h5 h6 h7 h8 ht h9 h10 hlk h11 => h A stk base past s vs E h1 h2 h3 h4 h5 h6 h7 h8 ht h9 h10 hlk fun v s' F => h11 v s' (Fly.monoX k F)
variable {w : World} {mg mb : Str → Option Value}
noncomputable def looseL : List D := [.str (Str.ofString "slice"), .str (Str.ofString "map"), .str (Str.ofString "func")]
theorem loose_rep (P : Params) (h : Heap) (X : (hd.heap_39 P).In h) : Rep h (.ref 63) (.tup looseL) :=
  .tup ⟨_, X _ _ rfl⟩ (.cons (.str _ _) (.cons (.str _ _) (.cons (.str _ _) .nil)))
theorem g_LOOSE (P : Params) : nsIn (hd.heap_39 P) mainGlobals (Str.ofString "LOOSE_TAGS") = some (some (.ref 63)) := rfl
theorem gn_loose {prog : Program} {C : Cx} {ρ : Locs} {M : LMap} {n : Nat} {Q : D → LMap → Prop} {pos : Pos} (O : CxOk (GB w.params mg mb) C n) (hx : C.env.kindOf (Str.ofString "LOOSE_TAGS") = some .globalImplicit) (q : Q (.tup looseL) M) : Ev prog w C ρ M (.Name (Str.ofString "LOOSE_TAGS") pos) Q :=
  ev_global O (g_LOOSE _) (loose_rep _) q hx (by decide)
/-- a call's end: a truth, or the panic -/
noncomputable def EqX (r : Option Bool) : Array UInt8 → Prop := fun b => b = cmpB ∧ r = .none
noncomputable def EqQ (r : Option Bool) : D → Prop := fun d => ∃ b, r = some b ∧ d = .bool b
noncomputable abbrev EqFn (prog : Program) (w : World) (mg mb : Str → Option Value) (f : Addr) (n : Nat) (v o : V) : Prop :=
  FnP prog w (GB w.params mg mb) (.ref f) n [dat v, dat o, .raw (.ref 166)] (EqQ (alike v o)) (EqX (alike v o))
theorem word_loose2 (s : Bool) : (looseL.any fun y => deq y (.str (wordOf s))) = false := by cases s <;> rfl
theorem loose_in (k : Fin 3) : (looseL.any fun y => deq y (.str (looseT k))) = true := by match k with | 0 => rfl | 1 => rfl | 2 => rfl

theorem faces_ok {prog : Program} (n : Nat) (ih : ∀ (v o : V), ht v + 1 ≤ n → fit v → fit o → EqFn prog w mg mb 84 (10 + 2 * n) v o) (k k' : Fin 3) (v v' : V) (hh : ht v + 1 ≤ n) (hv : fit v) (ho : fit v') :
    EqFn prog w mg mb 77 (11 + 2 * n) (.face k v) (.face k' v') := by
  rw [show 11 + 2 * n = (10 + 2 * n) + 1 by omega]
  refine fn_x (K := hd.heap_39 w.params) (xs := ["one", "other", "may_compare"]) (n := 10 + 2 * n) rfl (by rfl) gb_lim ?hb (by rfl) (by decide) (by rfl) ?_
  case hb => walk_at "fn3"
  intro A base past stk L C Q0 O
  have hu : A.units + 3 + 10 * (10 + 2 * n) < cLine := O.units
  simp only [dat, typ_eq]
  repeat walk_at "dd"
  refine op_ne_tups 1 (typ_high _) (by show A.units + 3 + 1 + 1 < cLine; omega) (typ_plain _) (typ_plain _) ?_
  refine ⟨_, rfl, ?_⟩
  rw [typ_deq]
  by_cases hk : k = k'
  · refine ite_f (by simp [hk]) ?_
    repeat walk_at "dd"
    refine hide fun uu kg => ?_
    obtain ⟨uu, uu, uu, uu, hK⟩ := k__law_may w.params
    refine kg ?_
    refine ev_loc 166 10 O (by omega) rfl hK (by decide) (by decide) (by first | exact rfl | trivial) ?_
    repeat walk_at "dd"
    rw [← typ_eq]
    refine may_ok ?_
    refine ⟨_, rfl, ?_⟩
    cases hm : mayT k with
    | true =>
      refine ite_ff ?_
      repeat walk_at "dd"
      refine dx_values_equal (10 + 2 * n) O rfl (by first | exact rfl | trivial) (Nat.le_refl _) (takes_cx O rfl) ?_
      repeat walk_at "dd"
      have e : alike (.face k v) (.face k' v') = alike v v' := by
        simp only [alike]
        rw [if_pos hk, if_pos hm]
      rw [e]
      refine (ih v v' hh hv ho).at up_glob fun d hd => ?_
      exact ⟨_, Sub.refl _, e.symm ▸ hd⟩
    | false =>
      refine ite_tt ?_
      repeat walk_at "dd"
      refine sx_raise enc_cmp O (by omega) rfl (takes_cx O rfl) ⟨rfl, ?_⟩
      simp only [alike]
      rw [if_pos hk, if_neg (by rw [hm]; decide)]
  · refine ite_t (by simp [hk]) ?_
    repeat walk_at "dd"
    refine ⟨_, Sub.refl _, false, ?_, rfl⟩
    simp only [alike]
    rw [if_neg hk]

theorem equal_step {prog : Program} (n : Nat) (ih : ∀ (v o : V), ht v + 1 ≤ n → fit v → fit o → EqFn prog w mg mb 84 (10 + 2 * n) v o) (v o : V) (hh : Mine.ht v ≤ n) (hv : fit v) (ho : fit o) :
    EqFn prog w mg mb 84 (12 + 2 * n) v o := by
  rw [show 12 + 2 * n = (11 + 2 * n) + 1 by omega]
  refine fn_x (K := hd.heap_39 w.params) (xs := ["one", "other", "may_compare"]) (n := 11 + 2 * n) rfl (by rfl) gb_lim ?hb (by rfl) (by decide) (by rfl) ?_
  case hb => walk_at "fn3"
  intro A base past stk L C Q0 O
  have hu : A.units + 3 + 10 * (11 + 2 * n) < cLine := O.units
  repeat walk_at "dd"
  walk_at "df"
  repeat walk_at "dd"
  refine tag_ok ?_
  repeat walk_at "dd"
  walk_at "df"
  repeat walk_at "dd"
  refine tag_ok ?_
  refine op_ne_str ?_
  refine ⟨_, rfl, ?_⟩
  by_cases ht : tag v = tag o
  · refine ite_f (ne_str_t ht) ?_
    repeat walk_at "dd"
    refine gn_loose O rfl ?_
    refine op_in_tup 0 rfl rfl (by decide) (by show A.units + 3 + 1 + 0 < cLine; omega) ?_
    refine ⟨_, rfl, ?_⟩
    cases v with
    | loose k =>
      refine ite_t (loose_in k) ?_
      repeat walk_at "dd"
      refine sx_raise enc_cmp O (by omega) rfl (takes_cx O rfl) ⟨rfl, ?_⟩
      simp only [alike]
      rw [if_pos (show looseT k = tag o from ht)]
    | face k v =>
      obtain ⟨k', v', rfl⟩ := face_of ht
      refine ite_f rfl ?_
      simp only [tag]
      repeat walk_at "dd"
      refine dx_faces_equal (11 + 2 * n) O rfl (by first | exact rfl | trivial) (Nat.le_refl _) (takes_cx O rfl) ?_
      repeat walk_at "dd"
      refine (faces_ok n ih k k' v v' (by simp only [Mine.ht] at hh; omega) hv ho).at up_glob fun d hd => ?_
      exact ⟨_, Sub.refl _, hd⟩
    | many s vs =>
      obtain ⟨ws, rfl⟩ := many_of ht
      have hlv : vs.length ≤ 1000 := hv.1
      have hlw : ws.length ≤ 1000 := ho.1
      refine ite_f (word_loose2 s) ?_
      simp only [dat, tag]
      repeat walk_at "dd"
      refine ite_f (word_face s) ?_
      repeat walk_at "dd"
      refine op_notin_tup 0 rfl rfl (by decide) (by show A.units + 3 + 1 + 0 < cLine; omega) ?_
      refine ⟨_, rfl, ?_⟩
      refine ite_f (word_in s) ?_
      repeat walk_at "dd"
      refine sx_zip (as := dats vs) (bs := dats ws) (fun i => alikes vs ws = alikes (vs.drop i) (ws.drop i)) O (n_zip _) b_zip rfl (by first | exact rfl | trivial) rfl PassesOwn.leaving rfl rfl (.head _) rfl rfl ?_ (fun i a b ha hb hJ => ?_) (fun hJ => ?_) rfl (fun uu => rfl)
      · repeat walk_at "dd"
        rfl
      · obtain ⟨x, hx, rfl⟩ := dats_some ha
        obtain ⟨y, hy, rfl⟩ := dats_some hb
        have call := ih x y (Nat.le_trans (Nat.succ_le_succ (ht_at hx)) (by simp only [Mine.ht] at hh; omega)) (fit_at hv.2 hx) (fit_at ho.2 hy)
        have hst := alikes_step hx hy
        have hal : alike (.many s vs) (.many s ws) = alikes vs ws := by simp only [alike, if_true]
        have callx := FnX.monoX call (X' := EqX (alike (.many s vs) (.many s ws))) fun b hb => ⟨hb.1, by rw [hal, hJ, hst, hb.2]⟩
        repeat walk_at "dd"
        refine dx_values_equal (10 + 2 * n) O rfl (by first | exact rfl | trivial) (by omega) (takes_cx O rfl) ?_
        repeat walk_at "dd"
        refine FnP.at up_glob callx fun d hd => ?_
        obtain ⟨r, hr, rfl⟩ := hd
        refine ⟨r, rfl, ?_⟩
        cases r with
        | true =>
          refine ite_ff ?_
          rw [hJ, hst, hr]
        | false =>
          refine ite_tt ?_
          repeat walk_at "dd"
          exact ⟨_, Sub.refl _, false, by rw [hal, hJ, hst, hr], rfl⟩
      · rw [dats_len, dats_len, alikes_end] at hJ
        repeat walk_at "dd"
        refine op_len_tup (by rw [dats_len]; omega) ?_
        repeat walk_at "dd"
        refine op_len_tup (by rw [dats_len]; omega) ?_
        repeat walk_at "dd"
        refine ⟨_, Sub.refl _, decide (vs.length = ws.length), ?_, ?_⟩
        · simp only [alike, if_true]
          exact hJ
        · rw [dats_len, dats_len]
          show D.bool _ = D.bool _
          congr 1
          by_cases q : vs.length = ws.length
          · rw [decide_eq_true q, q]; simp
          · rw [decide_eq_false q]; exact beq_eq_false_iff_ne.mpr fun e => q (by omega)
    | _ =>
      have hf := leaf_facts2 ht trivial
      refine ite_f rfl ?_
      simp only [tag]
      repeat walk_at "dd"
      refine op_notin_tup 0 rfl rfl (by decide) (by show A.units + 3 + 1 + 0 < cLine; omega) ?_
      refine ⟨_, rfl, ?_⟩
      refine ite_t rfl ?_
      repeat walk_at "dd"
      refine op_eq_dat 2 hf.1 (by show A.units + 3 + 2 < cLine; omega) hf.2.1 hf.2.2.1 ?_
      exact ⟨_, Sub.refl _, _, hf.2.2.2, rfl⟩
  · refine ite_t (ne_str_f ht) ?_
    repeat walk_at "dd"
    exact ⟨_, Sub.refl _, false, alike_ne ht, rfl⟩
theorem equal_ok {prog : Program} : ∀ (n : Nat) (v o : V), Mine.ht v ≤ n → fit v → fit o → EqFn prog w mg mb 84 (12 + 2 * n) v o := by
  intro n
  induction n with
  | zero => exact fun v o => equal_step 0 (fun v o h => absurd h (by omega)) v o
  | succ n ih =>
    refine equal_step (n + 1) fun v o h hv ho => ?_
    rw [show 10 + 2 * (n + 1) = 12 + 2 * n by omega]
    exact ih v o (by omega) hv ho
end
section
open PySem PySem.W PyProof.Rows
set_option maxRecDepth 100000
set_option linter.unusedVariables false
set_option maxHeartbeats 4000000
variable {w : World} {mg mb : Str → Option Value}
mutual
/-- the key, or a panic -/
noncomputable def key : V → Option D
  | .loose _ => .none
  | .face k v => if mayT k = true then (key v).map fun d => .tup [.str (Str.ofString "face"), .tup (typL k), d] else .none
  | .many s vs => (keys vs).map fun ds => .tup [.str (wordOf s), .tup ds]
  | .nil => some (.tup [.str (tag .nil), dat .nil])
  | .bool b => some (.tup [.str (tag (.bool b)), dat (.bool b)])
  | .int i => some (.tup [.str (tag (.int i)), dat (.int i)])
  | .text b => some (.tup [.str (tag (.text b)), dat (.text b)])
  | .ptr n xs => some (.tup [.str (tag (.ptr n xs)), dat (.ptr n xs)])
noncomputable def keys : List V → Option (List D)
  | [] => some []
  | v :: vs => match key v with
    | .none => .none
    | some d => (keys vs).map (d :: ·)
end
theorem keys_none : ∀ {vs : List V} {i : Nat} {v : V}, vs[i]? = some v → key v = .none → keys vs = .none
  | u :: vs, 0, v, h, hk => by
    simp at h; subst h; simp only [keys, hk]
  | u :: vs, i + 1, v, h, hk => by
    have := keys_none (vs := vs) (i := i) (by simpa using h) hk
    simp only [keys]
    cases key u with
    | none => rfl
    | some d => simp [this]
theorem keys_take : ∀ {vs : List V} {i : Nat} {v : V} {acc : List D} {d : D}, vs[i]? = some v → keys (vs.take i) = some acc → key v = some d → keys (vs.take (i + 1)) = some (acc ++ [d])
  | u :: vs, 0, v, acc, d, h, ha, hk => by
    simp at h; subst h
    simp only [List.take_zero, keys, Option.some.injEq] at ha
    subst ha
    simp [keys, hk]
  | u :: vs, i + 1, v, acc, d, h, ha, hk => by
    simp only [List.take_succ_cons, keys] at ha ⊢
    cases hu : key u with
    | none => (first | exact (nne hu ha).elim | exact (dd hu ha rfl).elim | obtain rfl := some_inj hu ha | (rw [hu] at ha; cases ha))
    | some e =>
      rw [hu] at ha
      obtain ⟨acc', h1, rfl⟩ := Option.map_eq_some_iff.mp ha
      have := keys_take (vs := vs) (i := i) (by simpa using h) h1 hk
      simp [this]
theorem keys_len : ∀ {vs : List V} {acc : List D}, keys vs = some acc → acc.length = vs.length
  | [], acc, h => by simp only [keys, Option.some.injEq] at h; subst h; rfl
  | v :: vs, acc, h => by
    simp only [keys] at h
    cases hk : key v with
    | none => (first | exact (nne hk h).elim | exact (dd hk h rfl).elim | obtain rfl := some_inj hk h | (rw [hk] at h; cases h))
    | some d =>
      rw [hk] at h
      obtain ⟨acc', h1, rfl⟩ := Option.map_eq_some_iff.mp h
      simp [keys_len h1]
noncomputable def KeyX (r : Option D) : Array UInt8 → Prop := fun b => b = hashB ∧ r = .none
noncomputable abbrev KeyFn (prog : Program) (w : World) (mg mb : Str → Option Value) (n : Nat) (v : V) : Prop :=
  FnP prog w (GB w.params mg mb) (.ref 89) n [dat v, .raw (.ref 166)] (fun d => key v = some d) (KeyX (key v))

theorem key_step {prog : Program} (n : Nat) (ih : ∀ (v : V), ht v + 1 ≤ n → fit v → KeyFn prog w mg mb (11 + n) v) (v : V) (hh : Mine.ht v ≤ n) (hv : fit v) :
    KeyFn prog w mg mb (12 + n) v := by
  rw [show 12 + n = (11 + n) + 1 by omega]
  refine fn_cells (K := hd.heap_39 w.params) (xs := ["value", "may_compare"]) (n := 11 + n) rfl (by rfl) gb_lim ?hb (fun uu => rfl) (by decide) (by decide) ?_
  case hb => walk_at "fn2"
  intro A base past stk L C Q0 O
  have hu : A.units + 3 + 10 * (11 + n) < cLine := O.units
  repeat walk_at "dd"
  walk_at "df"
  repeat walk_at "dd"
  refine tag_ok ?_
  repeat walk_at "dd"
  refine gn_loose O rfl ?_
  refine op_in_tup 0 rfl rfl (by decide) (by show A.units + 3 + 1 + 0 < cLine; omega) ?_
  refine ⟨_, rfl, ?_⟩
  cases v with
  | loose k =>
    refine ite_t (loose_in k) ?_
    repeat walk_at "dd"
    exact sx_raise enc_hash O (by omega) rfl (takes_cells O rfl) ⟨rfl, rfl⟩
  | face k v =>
    refine ite_f rfl ?_
    simp only [tag, dat, typ_eq]
    repeat walk_at "dd"
    refine hide fun uu kg => ?_
    obtain ⟨uu, uu, uu, uu, hK⟩ := k__law_may w.params
    refine kg ?_
    refine ev_loc 166 10 O (by omega) rfl hK (by decide) (by decide) (by first | exact rfl | trivial) ?_
    repeat walk_at "dd"
    rw [← typ_eq]
    refine may_ok ?_
    refine ⟨_, rfl, ?_⟩
    cases hm : mayT k with
    | true =>
      refine ite_ff ?_
      simp only [typ_eq]
      repeat walk_at "dd"
      refine dx_value_key (11 + n) O rfl (by first | exact rfl | trivial) (Nat.le_refl _) (takes_cells O rfl) ?_
      repeat walk_at "dd"
      refine FnP.at up_glob (FnX.monoX (ih v (by simp only [Mine.ht] at hh; omega) hv) (X' := KeyX (key (.face k v))) fun b hb => ⟨hb.1, by simp only [key]; rw [if_pos hm, hb.2]; rfl⟩) fun d hd => ?_
      repeat walk_at "dd"
      refine ⟨_, Sub.refl _, ?_⟩
      simp only [key]
      rw [if_pos hm, hd]
      rfl
    | false =>
      refine ite_tt ?_
      repeat walk_at "dd"
      refine sx_raise enc_hash O (by omega) rfl (takes_cells O rfl) ⟨rfl, ?_⟩
      simp only [key]
      rw [if_neg (by rw [hm]; decide)]
  | many s vs =>
    have hlv : vs.length ≤ 1000 := hv.1
    refine ite_f (word_loose2 s) ?_
    simp only [dat, tag]
    repeat walk_at "dd"
    refine ite_f (word_face s) ?_
    repeat walk_at "dd"
    refine op_in_tup 0 rfl rfl (by decide) (by show A.units + 3 + 1 + 0 < cLine; omega) ?_
    refine ⟨_, rfl, ?_⟩
    refine ite_t (by cases s <;> rfl) ?_
    repeat walk_at "dd"
    refine ev_comp (KeyX (key (.many s vs))) [(Str.ofString "may_compare", .raw (.ref 166))] O (.inl ⟨takes_cells O rfl, L, stk, rfl, rfl⟩) (cl := [(Str.ofString "may_compare", L + 1)]) rfl (by decide +kernel) rfl (by decide +kernel) rfl ?_ ?_ ?_ (fun uu => rfl)
    · intro y c h
      rw [List.lookup_cons] at h
      by_cases hy : y = Str.ofString "may_compare"
      · subst hy
        exact h
      · rw [show (y == Str.ofString "may_compare") = false by simpa using hy] at h
        cases h
    · intro Lc y e h
      rw [List.lookup_cons] at h
      by_cases hy : y = Str.ofString "may_compare"
      · subst hy
        cases h
        exact ⟨rfl, .inl rfl, .inl rfl, rfl⟩
      · rw [show (y == Str.ofString "may_compare") = false by simpa using hy] at h
        cases h
    refine ie_tup O ?_
    repeat walk_at "dd"
    refine ⟨tok_name _ _, by rw [dats_len, sizeLine_eq]; omega, fun Lc => ?_⟩
    refine comp_ind (fun i acc M' => M' = (fun uu => .none) ∧ keys (vs.take i) = some acc) (fun i e acc M₃ past Oc he hi hJ => ?_) (fun uu uu uu uu => trivial) (fun acc M₃ hJ b hb => ?_) ⟨rfl, rfl⟩
    · obtain ⟨rfl, hJ⟩ := hJ
      obtain ⟨x, hx, rfl⟩ := dats_some he
      have call := ih x (Nat.le_trans (Nat.succ_le_succ (ht_at hx)) (by simp only [Mine.ht] at hh; omega)) (fit_at hv.2 hx)
      have callx := FnX.monoX call (X' := KeyX (key (.many s vs))) fun b hb => ⟨hb.1, by simp only [key]; rw [keys_none hx hb.2]; rfl⟩
      refine dx_value_key (11 + n) Oc rfl (by first | exact rfl | trivial) (Nat.le_refl _) (fun k o v s' F => ⟨k, o, F⟩) ?_
      repeat walk_at "dd"
      refine FnP.at up_glob callx fun d hd => ?_
      exact ⟨rfl, keys_take hx hJ hd⟩
    · obtain ⟨rfl, hJ⟩ := hJ
      rw [dats_len, List.take_length] at hJ
      have hal : acc.length ≤ 1000 := by rw [keys_len hJ]; exact hlv
      repeat walk_at "dd"
      refine op_tuple_lst (upd_same _ _ _) (by rw [sizeLine_eq]; omega) ?_
      repeat walk_at "dd"
      refine ⟨fun uu => .none, (fun c ds e => nomatch e), ?_⟩
      simp only [key, hJ]
      rfl
  | _ =>
    refine ite_f rfl ?_
    simp only [tag]
    repeat walk_at "dd"
    refine op_in_tup 0 rfl rfl (by decide) (by show A.units + 3 + 1 + 0 < cLine; omega) ?_
    refine ⟨_, rfl, ?_⟩
    refine ite_f rfl ?_
    repeat walk_at "dd"
    exact ⟨_, Sub.refl _, rfl⟩
theorem key_ok {prog : Program} : ∀ (n : Nat) (v : V), Mine.ht v ≤ n → fit v → KeyFn prog w mg mb (12 + n) v := by
  intro n
  induction n with
  | zero => exact fun v => key_step 0 (fun v h => absurd h (by omega)) v
  | succ n ih =>
    refine key_step (n + 1) fun v h hv => ?_
    rw [show 11 + (n + 1) = 12 + n by omega]
    exact ih v (by omega) hv
end
section
open PySem PySem.W PyProof.Rows
open PyProof.Rows.TI (gone gone_get gone_none gone_some)
set_option maxRecDepth 100000
set_option linter.unusedVariables false
set_option maxHeartbeats 4000000
section
variable {prog : Program} {w : World} {C : Cx} {s s₁ s' : Shared} {ρ ρ₁ : Locs} {M M₁ : LMap} {G : Heap → Prop} {n : Nat} {mg mb : Str → Option Value} {X : Array UInt8 → Prop}
theorem mem_frs {env : Env} {stk : List Env} {L : Addr} (hf : env.frame = some L) : L ∈ frs (env :: stk) := by
  unfold frs
  rw [List.filterMap_cons, hf]
  exact .head _

/-- the clause of _law_called -/
theorem clause {Q : Option D → Locs → LMap → Prop} {v : Value} {L : Addr} {outer : List Env} {b : Array UInt8} {p1 p2 p3 p4 p5 p6 p7 p8 p9 p10 p11 p12 : Pos} {k1 k2 k3 : Nat} (O : CxOk G C n) (hGB : ∀ base, G base → GB w.params mg mb base) (S : Sit C s ρ noM) (hstk : C.stk = C.env :: outer) (hf : C.env.frame = some L) (hloc : C.env.locals = L) (hown : L ∈ C.own)
    (kt : C.env.kindOf "told" = some .local) (kx : C.env.kindOf "text" = some .local) (kg : C.env.kindOf "GoPanic" = some .globalImplicit)
    (hb : ρ.lookup (Str.ofString "text") = some (D.bytes b)) (hX : ∀ x, X x → x = b) (F : Fly (tryBase C s) (tryPast C s) C.stk X .none False v s₁)
    (hQ : X b → Q (some (.str "panic")) [] noM) :
    wpAny (model prog w) C.A (handleBy v C.env [.ExceptHandler (some (.Name "GoPanic" p1)) (some "told") [.Return (some (.IfExp (.Compare (.Subscript (.Attribute (.Name "told" p2) "value" p3) (.Constant (.int 2) k1 p4) p5) [.Eq] [.Name "text" p6] p7) (.Constant (.str "panic") k2 p8) (.Constant (.str "other") k3 p9) p10)) p11] p12])
      (PostF C s noM Q) C.E s₁ := by
  have T₁ := tryStep F
  have S₁ : Sit C s₁ ρ noM := S.ev T₁ lists_noM
  have GBc := hGB _ O.glob
  refine hide fun uu kz => ?_
  obtain ⟨nm, q, N, bs, hdct, sn, sub, ab, col, dd, k0, k1', k2', k3', k5, h52⟩ := cls52_at w.params
  refine kz ?_
  obtain ⟨e, rfl, hen, P, hm⟩ := id F.is
  refine hide fun uu kz => ?_
  obtain ⟨oe0, vs0, da0, t0, m0, u0, b0, x0, y0, a1, a2, a3, a4, a5, a6, a7, a8, a9⟩ := P.is
  refine kz ?_
  refine wpAny_handleBy_cons (codeAny_handlers_test ?_) (by intro z; cases z)
  refine Calls.Name_function_global O.kind kg (Calls.loadGlobal_global (mg := mg) (by rw [O.globals]; exact GBc.top.g.keeps S₁.stays) (mg_of GBc.kin GBc.top.g (g_GoPanic _)) ?_) (by decide)
  have hC := (GBc.kin.keeps S₁.stays) _ _ h52
  refine wpAny_excMatches_sub_self hC a1 a2 (by decide) (codeAny_handlers_suite_as ?_)
  refine F.setFlight (fl := none) fun h₂ F₂ => ?_
  have T₂ := tryStep F₂
  have S₂ : Sit C { s₁ with heap := h₂ } ρ noM := S.ev T₂ lists_noM
  refine hide fun uu kz => ?_
  obtain ⟨e', hee, hen', P₂, hm₂⟩ := id F₂.is
  refine kz ?_
  cases hee
  refine hide fun uu kz => ?_
  obtain ⟨oe, vs, da, t, m, u, b', x, y, b1, b2, b3, b4, b5, b6, b7, b8, b9⟩ := P₂.is
  refine kz ?_
  have hbb := hX _ b8
  subst hbb
  obtain ⟨mL, hmL⟩ := S₂.ns
  have hLs : h₂.Ns L mL := hloc ▸ hmL
  refine hide fun uu kz => ?_
  obtain ⟨oL, esL, epL, hoL, hdL, uu⟩ := id hLs
  refine kz ?_
  have hLf : L ∈ frs C.stk := by rw [hstk]; exact mem_frs hf
  have daL : da ≠ L := fun z => by
    have h9 : (if da ∈ frs C.stk then s.heap.get? da else none) = none := b9
    rw [z, if_pos hLf] at h9
    refine hide fun uu kz => ?_
    obtain ⟨uu, uu, uu, uu, h, uu⟩ := S.frames.mem hLf
    refine kz ?_
    (first | exact (nne h9 h).elim | exact (dd h9 h rfl).elim | obtain rfl := some_inj h9 h | (rw [h9] at h; cases h))
  have eL : e ≠ L := fun z => by rw [z] at b1; rw [hoL] at b1; cases b1; (first | exact (nne b3 hdL).elim | exact (dd b3 hdL rfl).elim | obtain rfl := some_inj b3 hdL | (rw [b3] at hdL; cases hdL))
  have tL : t ≠ L := fun z => by
    refine hide fun uu kz => ?_
    obtain ⟨ot, hot, uu, nt, hdt⟩ := b7
    refine kz ?_
    rw [z] at hot; rw [hoL] at hot; cases hot; (first | exact (nne hdt hdL).elim | exact (dd hdt hdL rfl).elim | obtain rfl := some_inj hdt hdL | (rw [hdt] at hdL; cases hdL))
  refine wpAny_storeName_local kt hmL (fun h₃ hn₃ hs₃ => ?_) (by rw [O.kind]; rfl)
  have keep : ∀ a o, a ≠ L → h₂.get? a = some o → h₃.get? a = some o := fun a o ha e => (hs₃.2 a (by rw [hloc]; exact ha)).trans e
  refine wpAny_mono (Q := fun (f : Flow) s' => ∃ t k, f = .ret (.str (Str.ofString "panic") t) ∧ s' = { s₁ with heap := h₃, toks := k }) (E := fun _ _ => False) ?walk (fun f s' hw => ?fin) (fun _ _ x => x.elim)
  case fin =>
    obtain ⟨tp, k, rfl, rfl⟩ := hw
    refine wpAny_nameGoes kt hn₃ (by rw [O.kind]; rfl) fun h₄ m₄ hn₄ hs₄ => ?_
    have hs₂₄ : Heap.SameBut C.env.locals h₂ h₄ := hs₃.trans hs₄
    have S₄ := sit_names (tk := k + 1) S₂ (O.ownBase _ (hloc ▸ hown)) (O.ownPast _ (hloc ▸ hown)) hmL hn₄ hs₂₄
    refine hide fun uu kz => ?_
    obtain ⟨o4, uu, uu, ho4, uu⟩ := id hn₄
    refine kz ?_
    have T₄ : Step C.own C.stk { s₁ with heap := h₂ } noM { s₁ with heap := h₄, toks := k + 1 } noM := step_ofOwn hs₂₄ (hloc ▸ hown) ⟨o4, ho4⟩
    exact ⟨[], noM, T₂.weaken.trans T₄, S₄, .str "panic", .str _ _, hQ b8⟩
  refine wpAny_execs_cons (wpAny_Return_some (wpAny_IfExp (wpAny_isTrue_Compare1 ?_ (by rfl))))
  refine Subscript_ (Attribute_any_ (nm_loc O.kind hn₃ (if_pos rfl) ?_ kt) rfl)
  refine get_excval (GBc.kin.keeps (fun a o z => ?_)) (keep _ _ eL b1) b2 (by unfold notCls; rw [b3]) b4 ?_ b6 rfl ?_
  · exact keep a o (fun q => by rw [q] at z; have := O.ownBase L hown; rw [this] at z; cases z) (S₂.stays a o z)
  · exact b5.at fun o ho => keep _ _ daL ho
  have ht : IsTup h₃ t [x, y, .bytes b' u].toArray := by
    refine hide fun uu kz => ?_
    obtain ⟨ot, hot, hct, nt, hdt⟩ := b7
    refine kz ?_
    refine ⟨ot, keep _ _ tL hot, hct, nt, ?_⟩
    exact hdt
  refine wpAny_Constant_int (item_tupleT ht (by decide) (by decide) (j := 2) rfl rfl ?_ rfl)
  obtain ⟨v', B', r'⟩ := S₂.names _ _ hb
  obtain ⟨u2, rfl⟩ := r'.bytes_
  have htx : mL "text" = some (.bytes b' u2) := by
    rcases B' with ⟨_, m', hm', hv⟩ | ⟨z, _⟩
    · rw [ns_unique hmL hm']; exact hv
    · rcases z with z | z <;> rw [kx] at z <;> cases z
  refine nm_loc O.kind hn₃ ((if_neg (by decide)).trans htx) ?_ kx
  refine eq_bytes (wpAny_truthy_bool ?_)
  rw [show (b'.toList == b'.toList) = true from by simp, if_pos rfl]
  refine Calls.Constant_str ?_
  exact ⟨_, _, rfl, rfl⟩
end
end
section
open PySem PySem.W PyProof.Rows
set_option maxRecDepth 100000
set_option linter.unusedVariables false
set_option maxHeartbeats 4000000
variable {w : World} {mg mb : Str → Option Value}
theorem called_ok {prog : Program} {G : Heap → Prop} (up : Up G) (hGB : ∀ base, G base → GB w.params mg mb base) {a : Addr} {oc : Value} {od : Option Addr} {fd : FuncData} {osl : Array (Option Value)} (hf : ∀ base, G base → base.get? a = some ⟨oc, od, .func fd, osl⟩) {n : Nat} {Qd : D → Prop} {X : Array UInt8 → Prop} {b : Array UInt8} (hX : ∀ x, X x → x = b)
    (call : FnP prog w G (.ref a) n [] Qd X) : FnP prog w G (.ref 218) (n + 1) [.raw (.ref a), .bytes b] (fun d => Qd d ∨ (d = .str (Str.ofString "panic") ∧ X b)) fun uu => False := by
  refine fn_x (G := G) (K := hd.heap_39 w.params) (xs := ["call", "text"]) (n := n) rfl (by rfl) (fun base h => gb_lim base (hGB base h)) ?hb (by rfl) (by decide) (by rfl) ?_
  case hb => walk_at "fn2"
  intro A base past stk L C Q0 O
  have hKa : ∀ base, G base → Frag.In [(a, (⟨oc, od, .func fd, osl⟩ : Obj))] base := fun base h b o e => by
    rw [List.lookup_cons] at e
    by_cases q : b = a
    · subst q
      simp only [beq_self_eq_true] at e
      cases e
      exact hf base h
    · rw [show (b == a) = false by simpa using q] at e; cases e
  have hK' : ([(a, (⟨oc, od, .func fd, osl⟩ : Obj))] : Frag).lookup a = some ⟨oc, od, .func fd, osl⟩ := by
    rw [List.lookup_cons]; simp only [beq_self_eq_true]
  refine ss_cons fun s S => ?_
  refine wpAny_Try_except ?_
  refine wpAny_execs_cons (wpAny_Return_some ?_)
  refine wpAny_mono (Q := Post (tryCx C s _) s noM fun d uu => Qd d) (E := _) (((ev_callx (K := [(a, (⟨oc, od, .func fd, osl⟩ : Obj))]) (X := X) (tryOk up O S) hKa (Nat.le_refl n) hK' ?hE (ev_name (d := .raw (.ref a)) rfl ⟨rfl, evs_nil call⟩ rfl rfl rfl) trivial) : Ev prog w (tryCx C s _) _ noM _ _) s (trySit S)) (fun v s₁ P => ?_) fun uu uu x => x
  case hE =>
    intro k o v s' F
    refine F.note O.frames rfl rfl fun h₂ F₂ => F₂.setFlight (fl := none) fun h₃ F₃ => ?_
    refine clause (mg := mg) (mb := mb) (X := X) O hGB S rfl rfl rfl (.head _) rfl rfl rfl rfl hX F₃ fun hb => ?_
    exact ⟨noM, Sub.refl _, .inr ⟨rfl, hb⟩⟩
  refine hide fun uu kg => ?_
  obtain ⟨d, M₁, T, Ls, r, q⟩ := P
  refine kg ?_
  exact ⟨_, noM, T.toNo.weaken, S.ev T.toNo lists_noM, d, r, noM, Sub.refl _, .inl q⟩
end
section
open PySem PySem.W PyProof.Rows
set_option maxRecDepth 100000
set_option linter.unusedVariables false
set_option maxHeartbeats 4000000
theorem deqs_ints (xs : List Int) : deqs (xs.map D.int) (xs.map D.int) = true := by
  induction xs with
  | nil => rfl
  | cons i xs ih => simp only [List.map_cons, deqs, deq, ih, Bool.and_true, beq_self_eq_true]
theorem leaf_refl {v : V} (h : isLeaf v) : deq (dat v) (dat v) = true := by
  cases v with
  | face k v => exact h.elim
  | many s vs => exact h.elim
  | loose k => exact h.elim
  | nil => rfl
  | bool b => cases b <;> rfl
  | int i => simp only [dat, deq, beq_self_eq_true]
  | text b => simp only [dat, deq, beq_self_eq_true]
  | ptr n xs => simp only [dat, deq, deqs, deqs_ints, beq_self_eq_true, Bool.and_true]
theorem leaf_key {v : V} (h : isLeaf v) : key v = some (.tup [.str (tag v), dat v]) := by
  cases v with
  | face k v => exact h.elim
  | many s vs => exact h.elim
  | loose k => exact h.elim
  | _ => rfl
theorem leaf_alike {v o : V} (h : isLeaf v) (ht : tag v = tag o) : alike v o = some (deq (dat v) (dat o)) := (leaf_facts h ht).2.2.2
mutual
theorem key_self : ∀ v : V, (key v = .none ∧ alike v v = .none) ∨ (∃ d, key v = some d ∧ alike v v = some true)
  | .loose k => .inl ⟨rfl, by simp only [alike]; exact if_pos rfl⟩
  | .face k v => by
    simp only [key, alike, if_true]
    cases hm : mayT k with
    | false => exact .inl ⟨if_neg (by decide), if_neg (by decide)⟩
    | true =>
      rw [if_pos rfl, if_pos rfl]
      rcases key_self v with ⟨h1, h2⟩ | ⟨d, h1, h2⟩
      · exact .inl ⟨by rw [h1]; rfl, h2⟩
      · exact .inr ⟨_, by rw [h1]; rfl, h2⟩
  | .many s vs => by
    simp only [key, alike, if_true]
    rcases keys_self vs with ⟨h1, h2⟩ | ⟨d, h1, h2⟩
    · exact .inl ⟨by rw [h1]; rfl, h2⟩
    · exact .inr ⟨_, by rw [h1]; rfl, h2⟩
  | .nil => .inr ⟨_, rfl, rfl⟩
  | .bool b => .inr ⟨_, rfl, by rw [leaf_alike (v := .bool b) trivial rfl, leaf_refl (v := .bool b) trivial]⟩
  | .int i => .inr ⟨_, rfl, by rw [leaf_alike (v := .int i) trivial rfl, leaf_refl (v := .int i) trivial]⟩
  | .text b => .inr ⟨_, rfl, by rw [leaf_alike (v := .text b) trivial rfl, leaf_refl (v := .text b) trivial]⟩
  | .ptr n xs => .inr ⟨_, rfl, by rw [leaf_alike (v := .ptr n xs) trivial rfl, leaf_refl (v := .ptr n xs) trivial]⟩
theorem keys_self : ∀ vs : List V, (keys vs = .none ∧ alikes vs vs = .none) ∨ (∃ d, keys vs = some d ∧ alikes vs vs = some true)
  | [] => .inr ⟨[], rfl, rfl⟩
  | v :: vs => by
    simp only [keys, alikes]
    rcases key_self v with ⟨h1, h2⟩ | ⟨d, h1, h2⟩
    · exact .inl ⟨by rw [h1], by rw [h2]⟩
    · rw [h1, h2]
      rcases keys_self vs with ⟨h3, h4⟩ | ⟨ds, h3, h4⟩
      · exact .inl ⟨by rw [h3]; rfl, h4⟩
      · exact .inr ⟨_, by rw [h3]; rfl, h4⟩
end
theorem key_head {w : V} {e : D} (h : key w = some e) : ∃ r, e = .tup (.str (tag w) :: r) := by
  cases w with
  | loose k => cases h
  | face k v =>
    simp only [key] at h
    split at h
    · obtain ⟨d, uu, rfl⟩ := Option.map_eq_some_iff.mp h; exact ⟨_, rfl⟩
    · cases h
  | many s vs =>
    simp only [key] at h
    obtain ⟨d, uu, rfl⟩ := Option.map_eq_some_iff.mp h; exact ⟨_, rfl⟩
  | nil => cases h; exact ⟨_, rfl⟩
  | bool b => cases h; exact ⟨_, rfl⟩
  | int i => cases h; exact ⟨_, rfl⟩
  | text b => cases h; exact ⟨_, rfl⟩
  | ptr n xs => cases h; exact ⟨_, rfl⟩
theorem key_apart {v w : V} {d e : D} (hv : key v = some d) (hw : key w = some e) (h : tag v ≠ tag w) : deq d e = false := by
  obtain ⟨r, rfl⟩ := key_head hv
  obtain ⟨q, rfl⟩ := key_head hw
  have : (tag v == tag w) = false := by simpa using h
  simp only [deq, deqs, this, Bool.false_and]
theorem leaf_law {v w : V} {d e : D} (h : isLeaf v) (hv : key v = some d) (hw : key w = some e) : alike v w = some (deq d e) := by
  by_cases ht : tag v = tag w
  · have hl := leaf_tag h ht
    rw [leaf_alike h ht]
    rw [leaf_key h] at hv
    rw [leaf_key hl] at hw
    cases hv; cases hw
    have : (tag v == tag w) = true := by simpa using ht
    simp only [deq, deqs, this, Bool.true_and, Bool.and_true]
  · rw [alike_ne ht, key_apart hv hw ht]
mutual
theorem key_law : ∀ (v w : V) (d e : D), key v = some d → key w = some e → alike v w = some (deq d e)
  | .loose k, w, d, e, hv, _ => nomatch hv
  | .face k v, w, d, e, hv, hw => by
    by_cases ht : tag (.face k v) = tag w
    · obtain ⟨k', v', rfl⟩ := face_of ht
      simp only [key] at hv hw
      split at hv
      · rename_i hm
        split at hw
        · rename_i hm'
          obtain ⟨a, ha, rfl⟩ := Option.map_eq_some_iff.mp hv
          obtain ⟨b, hb, rfl⟩ := Option.map_eq_some_iff.mp hw
          simp only [alike, deq, deqs, typ_deq, beq_self_eq_true, Bool.true_and, Bool.and_true]
          by_cases hk : k = k'
          · rw [if_pos hk, if_pos hm, key_law v v' a b ha hb, decide_eq_true hk, Bool.true_and]
          · rw [if_neg hk, decide_eq_false hk, Bool.false_and]
        · cases hw
      · cases hv
    · rw [alike_ne ht, key_apart hv hw ht]
  | .many s vs, w, d, e, hv, hw => by
    by_cases ht : tag (.many s vs) = tag w
    · obtain ⟨ws, rfl⟩ := many_of ht
      simp only [key] at hv hw
      obtain ⟨a, ha, rfl⟩ := Option.map_eq_some_iff.mp hv
      obtain ⟨b, hb, rfl⟩ := Option.map_eq_some_iff.mp hw
      simp only [alike, if_true, deq, deqs, beq_self_eq_true, Bool.true_and, Bool.and_true]
      exact keys_law vs ws a b ha hb
    · rw [alike_ne ht, key_apart hv hw ht]
  | .nil, w, d, e, hv, hw => leaf_law (v := .nil) trivial hv hw
  | .bool b, w, d, e, hv, hw => leaf_law (v := .bool b) trivial hv hw
  | .int i, w, d, e, hv, hw => leaf_law (v := .int i) trivial hv hw
  | .text b, w, d, e, hv, hw => leaf_law (v := .text b) trivial hv hw
  | .ptr n xs, w, d, e, hv, hw => leaf_law (v := .ptr n xs) trivial hv hw
theorem keys_law : ∀ (vs ws : List V) (d e : List D), keys vs = some d → keys ws = some e → alikes vs ws = some (deqs d e)
  | [], [], d, e, hv, hw => by
    simp only [keys, Option.some.injEq] at hv hw
    subst hv; subst hw; rfl
  | [], w :: ws, d, e, hv, hw => by
    simp only [keys, Option.some.injEq] at hv
    subst hv
    simp only [keys] at hw
    cases hk : key w with
    | none => (first | exact (nne hk hw).elim | exact (dd hk hw rfl).elim | obtain rfl := some_inj hk hw | (rw [hk] at hw; cases hw))
    | some b =>
      rw [hk] at hw
      obtain ⟨bs, uu, rfl⟩ := Option.map_eq_some_iff.mp hw
      rfl
  | v :: vs, [], d, e, hv, hw => by
    simp only [keys, Option.some.injEq] at hw
    subst hw
    simp only [keys] at hv
    cases hk : key v with
    | none => (first | exact (nne hk hv).elim | exact (dd hk hv rfl).elim | obtain rfl := some_inj hk hv | (rw [hk] at hv; cases hv))
    | some b =>
      rw [hk] at hv
      obtain ⟨bs, uu, rfl⟩ := Option.map_eq_some_iff.mp hv
      rfl
  | v :: vs, w :: ws, d, e, hv, hw => by
    simp only [keys] at hv hw
    cases hk : key v with
    | none => (first | exact (nne hk hv).elim | exact (dd hk hv rfl).elim | obtain rfl := some_inj hk hv | (rw [hk] at hv; cases hv))
    | some a =>
      cases hl : key w with
      | none => (first | exact (nne hl hw).elim | exact (dd hl hw rfl).elim | obtain rfl := some_inj hl hw | (rw [hl] at hw; cases hw))
      | some b =>
        rw [hk] at hv
        rw [hl] at hw
        obtain ⟨as, h1, rfl⟩ := Option.map_eq_some_iff.mp hv
        obtain ⟨bs, h2, rfl⟩ := Option.map_eq_some_iff.mp hw
        simp only [alikes, deqs]
        rw [key_law v w a b hk hl]
        cases deq a b with
        | false => rfl
        | true => simpa using keys_law vs ws as bs h1 h2
end
end
section
open PySem PySem.W PyProof.Rows
open PySem.Calls
set_option maxRecDepth 100000
set_option linter.unusedVariables false
section
variable {prog : Program} {w : World} {C : Cx} {s s₁ s' : Shared} {ρ ρ₁ ρ' : Locs} {M M₁ M' : LMap} {G : Heap → Prop} {n : Nat}

theorem codeAmong_more (pos : Pos) (a b : Int) (c : Value) (l : List Value) (h : TriplesOk l) {cv : Value} (e : codeAmong pos (l ++ [rawInt a, rawInt b, c]) = some cv) : codeAmong pos l = some cv ∨ cv = c := by
  fun_induction TriplesOk l with
  | case1 =>
    simp only [List.nil_append, codeAmong, rawInt] at e
    split at e
    · exact .inr (Option.some.inj e).symm
    · cases e
  | case2 a' t b' u x rest ih =>
    simp only [List.cons_append, codeAmong] at e ⊢
    split at e
    · rename_i hc
      rw [if_pos hc]; exact .inl e
    · rename_i hc
      rw [if_neg hc]; exact ih h e
  | case3 l h1 h2 => exact h.elim

/-- a lambda is made -/
theorem make_lambda {params : Arguments} {body : Expr} {scope : Scope} {pos : Pos} {c : Addr} {clos : List (Str × Addr)} {mg : Str → Option Value} {R : Value → Shared → Prop} (S : Sit C s ρ M) (hM : M tabA = some [])
    (hge : C.env.globals = mainGlobals) (hg : C.base.Ns mainGlobals mg) (hcode : C.env.code = .ref c) (Cd : CodeHd C.base c tabA) (hB : C.base.BuiltinsAt mg tabA)
    (hcl : closureFor scope C.env = pure clos) (hq : C.env.qual ++ "<lambda>" = tabQ) (hdef : defaultsOf params C.env = ([], []))
    (h : ∀ f cv ctv h' tk, h'.get? f = some { cls := .type "function", data := .func (kla_fn "<lambda>" tabQ params body scope clos ((mg "__name__").getD .none) cv ctv) } → h'.CodeRec cv tabQ → s.heap.get? f = .none →
      (∀ b o, b ≠ tabA → s.heap.get? b = some o → h'.get? b = some o) → Step [] C.stk s M { s with heap := h', toks := tk } M → Lists C.base h' M → R (.ref f) { s with heap := h', toks := tk }) :
    wpAny (model prog w) C.A (eval (.Lambda params body scope pos) C.env) R C.E s := by
  refine kla_eval hdef ?_
  rw [hq]
  have hgs := hg.keeps S.stays
  have Cs := Cd.keeps S.stays
  have hbt : C.base.get? tabA = .none := (S.lists tabA [] hM).1
  refine hide fun uu kg => ?_
  obtain ⟨bm, ob, b1, b2, b3, b4, b5, b6⟩ := hB
  refine kg ?_
  have hBs : s.heap.BuiltinsAt mg tabA := ⟨bm, ob, b1, b2, b3, b4, S.stays _ _ b5, b6⟩
  obtain ⟨ps, hP, ht, hc⟩ : TabOk s.heap := by
    rcases (S.lists tabA [] hM).2 with ⟨q, _⟩ | ⟨_, x⟩
    · exact absurd rfl q
    · exact x
  have hgP : mainGlobals ≠ tabA := by decide
  cases q : codeAmong pos ps.toList with
  | none =>
    refine kla_makeFunction (mg := mg) hcl hge hgs hcode Cs hP ht q hgP hBs fun c' ctv h' tk hx hge hlt hrec htb => ?_
    have keep : ∀ b o, b ≠ tabA → s.heap.get? b = some o → (h'.push (kla_obj "<lambda>" tabQ params body scope clos ((mg "__name__").getD .none) c' ctv)).get? b = some o := fun b o hb e => Heap.get?_push_of_some _ (hx b o hb e)
    have hf0 : s.heap.get? h'.objs.size = .none := by
      exact none_of fun o e => by
        have hlt' := Heap.lt_size e
        exact absurd (Nat.lt_of_lt_of_le hlt' hge) (Nat.not_lt.mpr (Nat.le_of_lt hlt))
    have T : Step [] C.stk s M { s with heap := h'.push (kla_obj "<lambda>" tabQ params body scope clos ((mg "__name__").getD .none) c' ctv), toks := tk } M := by
      refine ⟨fun b o e hb uu => ⟨o.slots, keep b o (fun z => by (first | exact (nb z hM hb).elim | obtain rfl := sb z hM hb | (rw [z, hM] at hb; cases hb))) e, fun uu => rfl⟩, fun b o e => ?_, fun uu h => .inl h, rfl⟩
      by_cases z : b = tabA
      · subst z; exact ⟨_, Heap.get?_push_of_some _ htb⟩
      · exact ⟨o, keep b o z e⟩
    have tu : TupsStay s.heap (h'.push (kla_obj "<lambda>" tabQ params body scope clos ((mg "__name__").getD .none) c' ctv)) := fun a vs ⟨k, e⟩ => ⟨k, keep a _ (fun z => by (first | exact (nb z hP e).elim | obtain rfl := sb z hP e | (rw [z, hP] at e; cases e))) e⟩
    refine h _ _ ctv _ tk (Heap.get?_push_size _ rfl) (hrec.push _) hf0 keep T fun a ds e => ⟨(S.lists a ds e).1, ?_⟩
    rcases (S.lists a ds e).2 with ⟨z, vs, ⟨k, ho⟩, rs⟩ | ⟨z, _⟩
    · exact .inl ⟨z, vs, ⟨k, keep a _ z ho⟩, rs.mono tu⟩
    · refine .inr ⟨z, _, Heap.get?_push_of_some _ htb, ?_, fun pos' cv e => ?_⟩
      · rw [Array.toList_append]; exact TriplesOk_snoc _ _ _ _ ht
      · rw [Array.toList_append] at e
        rcases codeAmong_more _ _ _ _ _ ht e with e | e
        · refine hide fun uu kg => ?_
          obtain ⟨c0, o, vs, t, e1, e2, e3, e4⟩ := hc pos' cv e
          refine kg ?_
          exact ⟨c0, o, vs, t, e1, keep _ _ (fun z => by (first | exact (nb z hP e2).elim | obtain rfl := sb z hP e2 | (rw [z, hP] at e2; cases e2)); cases e3; have := (Array.getElem?_eq_some_iff.mp e4); exact absurd e4 (by
            have : ∀ l : List Value, TriplesOk l → ∀ q t, l[1]? ≠ some (.str q t) := fun l hl q t => by
              match l, hl with
              | [], _ => simp
              | .int _ _ :: .int _ _ :: _ :: _, _ => simp
            have := this _ ht tabQ t
            rwa [← Array.getElem?_toList])) e2, e3, e4⟩
        · rw [e]; exact hrec.push _
  | some cv =>
    refine kla_makeFunctionHit (mg := mg) hcl hge hgs hcode Cs hP ht q hBs fun ctv h' tk hk hsz => ?_
    have keep : ∀ b o, s.heap.get? b = some o → (h'.push { cls := .type "function", data := .func (kla_fn "<lambda>" tabQ params body scope clos ((mg "__name__").getD .none) cv ctv) }).get? b = some o := fun b o e => Heap.get?_push_of_some _ (hk b o e)
    have hf0 : s.heap.get? h'.objs.size = .none := by
      exact none_of fun o e => by exact absurd (Nat.lt_of_lt_of_le (Heap.lt_size e) hsz) (Nat.lt_irrefl _)
    exact h _ cv ctv _ tk (Heap.get?_push_size _ rfl) ((hc pos cv q).keeps keep) hf0 (fun b o uu e => keep b o e) (Step.ofKeeps keep) (S.lists.mono keep)
end
end
section
open PySem PySem.W PyProof.Rows
open PySem.Calls
open PyProof.Rows.TI (gone gone_get gone_none gone_some)
set_option maxRecDepth 100000
set_option linter.unusedVariables false
section
variable {prog : Program} {w : World} {C : Cx} {s s₁ s' : Shared} {ρ ρ₁ ρ' : Locs} {M M₁ M' : LMap} {G : Heap → Prop} {n : Nat}

/-- a lambda and what it has caught -/
structure LamAt (h : Heap) (f : Addr) (params : Arguments) (body : Expr) (scope : Scope) (clos : List (Str × Addr)) (pm cv ctv : Value) (ρ' : Locs) : Prop where
  fn : h.get? f = some { cls := .type "function", data := .func (kla_fn "<lambda>" tabQ params body scope clos pm cv ctv) }
  code : h.CodeRec cv tabQ
  cells : ∀ y c, clos.lookup y = some c → ∃ v, h.IsCell c v
  names : ∀ y d, ρ'.lookup y = some d → scope.names.lookup y = some .free ∧ ∃ c v, clos.lookup y = some c ∧ h.IsCell c (some v) ∧ Rep h v d
theorem LamAt.mono {h h' : Heap} {f : Addr} {params : Arguments} {body : Expr} {scope : Scope} {clos : List (Str × Addr)} {pm cv ctv : Value} (x : LamAt h f params body scope clos pm cv ctv ρ') (k : ∀ b o, h.get? b = some o → h'.get? b = some o) : LamAt h' f params body scope clos pm cv ctv ρ' := by
  refine ⟨k _ _ x.fn, x.code.keeps k, fun y c e => ?_, fun y d e => ?_⟩
  · refine hide fun uu kg => ?_
    obtain ⟨v, o, ho, hd⟩ := x.cells y c e
    refine kg ?_
    exact ⟨v, o, k _ _ ho, hd⟩
  · refine hide fun uu kg => ?_
    obtain ⟨h1, c, v, h2, ⟨o, ho, hd⟩, r⟩ := x.names y d e
    refine kg ?_
    exact ⟨h1, c, v, h2, ⟨o, k _ _ ho, hd⟩, r.mono fun uu uu ⟨j, e⟩ => ⟨j, k _ _ e⟩⟩

theorem fn_lam {f : Addr} {params : Arguments} {body : Expr} {scope : Scope} {clos : List (Str × Addr)} {pm cv ctv : Value} {Q : D → LMap → Prop} {X : Array UInt8 → Prop}
    (hG : ∀ base, G base → base.NoLimit ∧ LamAt base f params body scope clos pm cv ctv ρ') (hinj : ∀ x y c, clos.lookup x = some c → clos.lookup y = some c → x = y)
    (hbind : bindArgs (kla_fn "<lambda>" tabQ params body scope clos pm cv ctv) ⟨[], []⟩ = pure []) (hcell : ∀ x ∈ scope.names, x.2 ≠ .cell)
    (hbody : ∀ A base past stk L, CxOk G (cxOf (model prog w) A (envX tabQ scope L f cv clos) base past stk L X) n → Ev prog w (cxOf (model prog w) A (envX tabQ scope L f cv clos) base past stk L X) ρ' M body fun d M' => Q d M')
    (hco : scope.isCoroutine = false := by rfl) (hgen : scope.isGenerator = false := by rfl) (hk : scope.kind = .function := by rfl) : FnX prog w G (.ref f) (n + 1) [] M Q X := by
  intro A stk base past s vs E hfr hd hu hh hGb B F L ht R hp hlk hE
  cases R
  obtain ⟨hlim, Lm⟩ := hG base hGb
  have Ls := Lm.mono B
  refine wpAny_call (kla_callFunE (by omega) Ls.fn rfl hco hgen rfl Ls.code ?_)
  rw [hbind]
  refine wpAny_pure (wpAny_newFunctionEnv hcell (by intro x hx; simp at hx) (fun h₁ hns hsb => ⟨(hlim.keeps B).fresh _ hsb, ?_⟩) hk)
  have hk₁ : ∀ b o, s.heap.get? b = some o → h₁.get? b = some o := fun b o e => hsb.extBut b o (Nat.ne_of_lt (Heap.lt_size e)) (Heap.get?_push_of_some _ e)
  have hL : s.heap.get? s.heap.objs.size = .none := get?_size_none _
  have hbL : base.get? s.heap.objs.size = .none := B.fresh
  have hpL : past.of s.heap.objs.size = .none := by
    exact none_of fun o q => by
      obtain ⟨uu, sl, e⟩ := hp _ _ q
      (first | exact (nne hL e).elim | exact (dd hL e rfl).elim | obtain rfl := some_inj hL e | (rw [hL] at e; cases e))
  refine hide fun uu kg => ?_
  obtain ⟨oL, es, ep, hoL, hdL, hks, hfs⟩ := id hns
  refine kg ?_
  have K1 : CxOk G (cxOf (model prog w) A (envX tabQ scope s.heap.objs.size f cv clos) base past stk s.heap.objs.size X) n := by
    refine ⟨deeper_frames hfr, ?_, ?_, hh, hGb, fun a ha => ?_, fun a ha => ?_, hk, rfl, rfl⟩
    · show A.depth + 1 + n < recursionLimit
      omega
    · show A.units + 3 + 10 * n < cLine
      omega
    · rw [List.mem_singleton.mp ha]; exact hbL
    · rw [List.mem_singleton.mp ha]; exact hpL
  have L1 := Ls.mono hk₁
  have S1 : Sit (cxOf (model prog w) A (envX tabQ scope s.heap.objs.size f cv clos) base past stk s.heap.objs.size X) { s with heap := h₁, toks := s.toks + ([] : List (Str × Value)).length } ρ' M := by
    refine ⟨fun b o e => hk₁ b o (B b o e), fun env he => ?_, L.mono hk₁, fun a ha => ?_, ⟨_, hns⟩, L1.cells, hinj, fun x d e => ?_, fun b o e => ⟨(hp b o e).1, (hp b o e).2.imp fun sl z => hk₁ _ _ z⟩, hlk.up, ht.mono fun b o e => ⟨o, hk₁ b o e⟩⟩
    · rcases List.mem_cons.mp he with rfl | he
      · exact ⟨by show scope.kind ≠ .module; rw [hk]; decide, _, oL, es, ep, rfl, hbL, hoL, hdL⟩
      · refine hide fun uu kg => ?_
        obtain ⟨q1, L', o, es', n', q2, q3, q4, q5⟩ := F env he
        refine kg ?_
        exact ⟨q1, L', o, es', n', q2, q3, hk₁ _ _ q4, q5⟩
    · rw [List.mem_singleton.mp ha]
      exact ⟨oL, hoL, (fun xs n z => by (first | exact (nne hdL z).elim | exact (dd hdL z rfl).elim | obtain rfl := some_inj hdL z | (rw [hdL] at z; cases z))), fun vs z => by (first | exact (nne hdL z).elim | exact (dd hdL z rfl).elim | obtain rfl := some_inj hdL z | (rw [hdL] at z; cases z))⟩
    · refine hide fun uu kg => ?_
      obtain ⟨h1, c, v, h2, h3, r⟩ := L1.names x d e
      refine kg ?_
      exact ⟨v, .inr ⟨.inr h1, c, h2, h3⟩, r⟩
  show codeAny _ _ (.expr body (envX tabQ scope s.heap.objs.size f cv clos)) _ _
  refine kla_codeExpr (wpAny_mono (hbody A base past stk _ K1 _ S1) (fun v s' P => ?_) fun e s' h' => ?_)
  · refine hide fun uu kg => ?_
    obtain ⟨d, M', T, L', r, q⟩ := P
    refine kg ?_
    have T' : Step [] stk s M s' M' := (T.weaken (own := [s.heap.objs.size])).leave hk₁ (fun a ha => by rw [List.mem_singleton.mp ha]; exact hL) rfl (.head _)
    exact ⟨d, M', T', L', r, q⟩
  · exact wpAny_mono h' (fun uu s'' F => hE _ _ F) fun uu uu x => x.elim

/-- a contract whose ground is the heap as it stands -/
theorem FnP.run {G₁ : Heap → Prop} {f : Value} {n' : Nat} {ds : List D} {P : D → Prop} (h : FnP prog w G₁ f n' ds P fun uu => False) (O : CxOk G C n) (hn : n' ≤ n) (S : Sit C s ρ M) {vs : List Value} (R : Reps s.heap vs ds) (hG : G₁ (gone s.heap (frs C.stk))) :
    wpAny (model prog w) C.A (call f vs) (fun v s' => ∃ d, Step [] C.stk s M s' M ∧ Lists C.base s'.heap M ∧ Rep s'.heap v d ∧ P d) C.E s := by
  have hdp := O.depth
  have hun := O.units
  refine wpAny_mono (h C.A C.stk (gone s.heap (frs C.stk)) ⟨fun uu => .none, s⟩ s vs C.E O.frames (by omega) (by omega) O.handled hG (fun b o e => (gone_some e).2) (fun env he => ?_) (fun a ds e => nomatch e) S.tab R (fun uu uu e => nomatch e) (Like.refl s) fun v s' F => (F.no fun uu x => x).elim) (fun v s' P => ?_) fun uu uu x => x
  · refine hide fun uu kg => ?_
    obtain ⟨hk, L, o, es, n, hf, hb, ho, hd⟩ := S.frames env he
    refine kg ?_
    exact ⟨hk, L, o, es, n, hf, gone_none (List.mem_filterMap.mpr ⟨env, he, hf⟩), ho, hd⟩
  · refine hide fun uu kg => ?_
    obtain ⟨d, M', T, L', r, p⟩ := P
    refine kg ?_
    have tu := T.tups (ownOk_nil _) (fun a ds e => nomatch e : Lists C.base s.heap (fun uu => .none)) S.frames
    have ex : ∀ b o, s.heap.get? b = some o → (∀ es n, o.data ≠ .dict es n) → s'.heap.get? b = some o := fun b o e hd => by
      obtain ⟨sl, e', q'⟩ := T.keep b o e rfl (fun z => nomatch z)
      rw [q' (S.frames.notSeq e hd)] at e'
      exact e'
    exact ⟨d, ⟨fun b o e uu ho => T.keep b o e rfl ho, T.there, fun a h => .inl h, T.rest⟩, fun a es e => ⟨(S.lists a es e).1, (S.lists a es e).2.turn (fun vs n z => ex a _ z fun es n q => by cases q) tu fun c o vs z hd uu => ex c o z fun es n q => by (first | exact (nne hd q).elim | exact (dd hd q rfl).elim | obtain rfl := some_inj hd q | (rw [hd] at q; cases q))⟩, r, p⟩
end
end
section
open PySem PySem.W PyProof.Rows
open PySem.Calls
set_option maxRecDepth 100000
set_option linter.unusedVariables false
section
variable {M : Model} {A : Around} {E : Value → Shared → Prop} {s : Shared}
theorem newEnv_cell {kd : ScopeKind} {n0 n2 x : Str} {k0 k2 : NameKind} {g1 g2 : Bool} {mo : List (Str × Const)} {globals : Addr} {qual : Str} {outer : Env} {bt : Addr} {Q : Env → Shared → Prop} (h0 : k0 ≠ .cell) (h2 : k2 ≠ .cell)
    (h : Q (newEnv { kind := kd, names := [(n0, k0), (x, .cell), (n2, k2)], isGenerator := g1, isCoroutine := g2, more := mo } s.heap.objs.size globals [(x, s.heap.objs.size + 1)] qual none .none (some outer) bt)
      { s with heap := (s.heap.push { cls := .type "dict", data := .dict #[] }).push { cls := .type "cell", data := .cell none } }) :
    wpAny M A (newFunctionEnv { kind := kd, names := [(n0, k0), (x, .cell), (n2, k2)], isGenerator := g1, isCoroutine := g2, more := mo } globals [] [] qual none .none (some outer) bt) Q E s := by
  have e0 : (k0 == NameKind.cell) = false := by simpa using h0
  have e2 : (k2 == NameKind.cell) = false := by simpa using h2
  simp only [newFunctionEnv, Option.isSome_some, if_true]
  refine wpAny_bind (wpAny_alloc ?_)
  simp only [List.forIn_cons, List.forIn_nil, e0, e2, Bool.false_eq_true, if_false, beq_self_eq_true, if_true, pure_bind]
  refine wpAny_bind (wpAny_bind (wpAny_bind (wpAny_alloc (wpAny_pure (wpAny_pure (wpAny_pure ?_))))))
  rw [show (s.heap.push { cls := .type "dict", data := .dict #[] }).objs.size = s.heap.objs.size + 1 from Heap.size_push ..]
  exact h
end
section
variable {prog : Program} {w : World} {C : Cx} {s s₀ s₁ s' : Shared} {ρ ρ₀ ρ₁ ρ' : Locs} {M M₀ M₁ M' : LMap} {G : Heap → Prop} {n : Nat}

/-- a comprehension whose name is a cell -/
theorem CS.storeCell (F : CF G n C cenv s₀ ρ M₀ Da Lc) (S : CS C cenv s₀ ρ M₀ W Da Lc ρm acc s' M') {x : Str} {px : Pos} {v : Value} {Kc : Addr} {kv : Option Value} {E : Value → Shared → Prop} {R : Unit → Shared → Prop} (hx : cenv.kindOf x = some .cell) (hcc : cenv.cells.lookup x = some Kc) (hK : Kc ∈ W) (hDK : Da ≠ Kc) (hCK : Lc ≠ Kc) (hc : s'.heap.IsCell Kc kv)
    (h : ∀ s₃, CS C cenv s₀ ρ M₀ W Da Lc ρm acc s₃ M' → s₃.heap.IsCell Kc (some v) → (∀ b o, s'.heap.get? b = some o → (∀ v, o.data ≠ .cell v) → s₃.heap.get? b = some o) → R () s₃) : wpAny (model prog w) C.A (assign (.Name x px) cenv v) R E s' := by
  refine wpAny_assign_Name (wpAny_storeName_cell F.kind hx hcc hc fun h3 hn3 hs3 => ?_)
  have nCell : ∀ b o, s'.heap.get? b = some o → (∀ v, o.data ≠ .cell v) → h3.get? b = some o := fun b o e hdd => (hs3.2 b fun q => by
    obtain ⟨o', ho', hd'⟩ := hc
    obtain rfl := sb q ho' e; exact hdd _ hd').trans e
  have tu3 : TupsStay s'.heap h3 := fun b us ⟨j, e⟩ => ⟨j, nCell b _ e fun v q => by cases q⟩
  have L3 : Lists C.base h3 M' := fun b es e =>
    ⟨(S.sit.lists b es e).1, (S.sit.lists b es e).2.turn (fun vs n e => nCell b _ e fun v q => by cases q) tu3 fun c o vs e hdd uu => nCell c o e fun v q => dd hdd q rfl⟩
  have T3 : Step [Kc] C.stk s' M' { s' with heap := h3 } M' := by
    obtain ⟨oN, hoN, uu⟩ := hn3
    refine ⟨fun b o e uu hb => ⟨o.slots, (hs3.2 b fun q => hb (List.mem_singleton.mpr q)).trans e, fun uu => rfl⟩, fun b o e => ?_, fun uu h => .inl h, rfl⟩
    by_cases q : b = Kc
    · exact ⟨oN, by rw [q]; exact hoN⟩
    · exact ⟨o, (hs3.2 b q).trans e⟩
  exact h _ ((CS.past F S T3 L3 tu3 (fun b hb => by rw [List.mem_singleton.mp hb]; exact S.freshW _ hK) (fun q => hDK (List.mem_singleton.mp q)) (fun q => hCK (List.mem_singleton.mp q))).lessW (fun b hb => by
    rcases List.mem_append.mp hb with q | q
    · rw [List.mem_singleton.mp q]; exact hK
    · exact q) S.freshW) hn3 nCell
/-- the loop of a comprehension whose name is a cell -/
theorem compc_loop {elt iter : Expr} {x : Str} {px : Pos} {scope : Scope} {pos : Pos} {a Kc : Addr} {kv : Option Value} {T : Expr → Prop} {Ok : LMap → Prop} {St : Nat → Heap → Prop} {Mid : Nat → Value → Heap → Prop} {ds : List D} {Q : List D → LMap → Prop} {R : Result → Shared → Prop}
    (F : CF G n C cenv s₀ ρ M₀ Da Lc) (hx : cenv.kindOf x = some .cell) (hcc : cenv.cells = [(x, Kc)]) (I : Iter prog w C.A C.base a wr T Ok St Mid ds) (hT : T (.Name x px)) (hw : ∀ b ∈ wr, b ∈ W) (hK : Kc ∈ W) (hDK : Da ≠ Kc) (hCK : Lc ≠ Kc) (hKt : Kc ≠ tabA) (S : CS C cenv s₀ ρ M₀ W Da Lc [] [] s' M') (hSt : St 0 s'.heap) (hcel : s'.heap.IsCell Kc kv)
    (hL : Comp1L prog w (nrCx C cenv) [] x elt Ok ds [] M' Q) (hR : ∀ s'' M'' acc', CS C cenv s₀ ρ M₀ W Da Lc [] acc' s'' M'' → Q acc' M'' → R (.ok .next) s'') :
    codeAny (model prog w) C.A (.compLoop (.ListComp elt [⟨.Name x px, iter, [], 0⟩] scope pos) 0 (.ref a) (.ref Da) cenv) R s' := by
  have hlk : cenv.cells.lookup x = some Kc := by rw [hcc, List.lookup_cons]; simp only [beq_self_eq_true]
  have only : ∀ {y c}, cenv.cells.lookup y = some c → y = x ∧ c = Kc := fun {y c} e => by
    rw [hcc] at e
    exact look1 (P := fun y c => y = x ∧ c = Kc) ⟨rfl, rfl⟩ y c e
  refine codeAny_compLoop_go (fun k s₂ => ∃ i M₂ acc₂ kv, i + k = ds.length ∧ CS C cenv s₀ ρ M₀ W Da Lc [] acc₂ s₂ M₂ ∧ St i s₂.heap ∧ s₂.heap.IsCell Kc kv ∧ Comp1L prog w (nrCx C cenv) [] x elt Ok (ds.drop i) acc₂ M₂ Q) (fun k s₂ hI => ?_) ds.length ⟨0, M', [], kv, by omega, S, hSt, hcel, hL⟩
  refine hide fun uu kg => ?_
  obtain ⟨i, M₂, acc₂, kv₂, hk, S₂, hSt₂, hcel₂, hL₂⟩ := hI
  refine kg ?_
  have F0 := I.flds _ _ hSt₂
  cases hd : ds.drop i with
  | nil =>
    rw [hd] at hL₂
    have hi : i = ds.length := drop_end hk hd
    rw [hi] at hSt₂
    exact I.done s₂ M₂ _ _ hSt₂ S₂.sit.lists hL₂.1 fun h' tk kk => hR _ M₂ acc₂ (S₂.turn_last F F0 hw kk) hL₂.2
  | cons d rest =>
    rw [hd] at hL₂
    obtain ⟨hok, hsz, hE⟩ := hL₂
    obtain ⟨hi, hrest, hlt⟩ := drop_at hd
    have nwK : Kc ∉ wr := fun q => by
      obtain ⟨uu, o, ws, ho, hd, uu⟩ := F0 Kc q
      obtain ⟨o', ho', hd'⟩ := hcel₂
      obtain rfl := some_inj ho' ho
      exact dd hd hd' rfl
    refine I.item i d s₂ M₂ _ _ hi hSt₂ S₂.sit.lists hok fun v h' tk r hm kk => ?_
    have F1 := I.fldm _ _ _ hm
    have S3 := S₂.turn F (tk := tk) F0 hw kk F1
    refine I.go _ i v _ _ _ hT hm fun h'' hs'' k'' => ?_
    have F2 := I.flds _ _ hs''
    have S4 := S3.turn F (tk := tk) F1 hw k'' F2
    have hcel4 : h''.IsCell Kc kv₂ := by
      obtain ⟨o', ho', hd'⟩ := hcel₂
      exact ⟨o', k'' _ _ nwK (kk _ _ nwK ho'), hd'⟩
    refine S4.storeCell F hx hlk hK hDK hCK hcel4 fun s₅ S5 hc5 kn => ?_
    have r5 : Rep s₅.heap v d := (r.mono (tups_wr F1 k'')).mono fun b us ⟨j, e⟩ => ⟨j, kn b _ e fun v q => by cases q⟩
    have Sc : Sit (nrCx C cenv) s₅ ((x, d) :: []) M₂ := by
      obtain ⟨m, hns, uu⟩ := S5.ns
      refine ⟨S5.sit.stays, S5.sit.frames, S5.sit.lists, ownOk_nil _, ⟨m, by show s₅.heap.Ns cenv.locals m; rw [F.locals]; exact hns⟩, fun y c e => by rw [(only e).2]; exact ⟨_, hc5⟩, fun y z c e e' => (only e).1.trans (only e').1.symm, fun y d' e => ?_, (fun uu uu e => nomatch e), S5.sit.like, S5.sit.tab⟩
      obtain ⟨rfl, rfl⟩ := look1 (P := fun y d' => y = x ∧ d' = d) ⟨rfl, rfl⟩ y d' e
      exact ⟨v, .inr ⟨.inl hx, Kc, hlk, hc5⟩, r5⟩
    refine wpAny_mono (hE s₅ Sc) (fun y s₆ P => ?_) fun uu uu x => x.elim
    refine hide fun uu kg => ?_
    obtain ⟨e, M₆, T6, L6, r6, q6⟩ := P
    refine kg ?_
    have T6' : Step [] C.stk s₅ M₂ s₆ M₆ := T6
    have S6 := CS.ev F S5 T6' L6
    refine S6.append F r6 hsz fun s₇ S7 kl => ?_
    have keepFld : ∀ (b : Addr) (o : Obj) (vs : Array Value), b ≠ tabA → h''.get? b = some o → o.data = .fields vs → s₇.heap.get? b = some o := fun b o vs ht e hdd =>
      S5.fld (kn b o e fun v q => dd hdd q rfl) T6' hdd ht kl
    have tuAll : TupsStay h'' s₇.heap := fun b us e => by
      obtain ⟨j, e⟩ := e
      obtain ⟨j2, e6⟩ := T6'.tups (ownOk_nil _) S5.sit.lists S5.sit.frames b us ⟨j, kn b _ e fun v q => by cases q⟩
      exact ⟨j2, kl b _ e6 fun vs n q => absurd (congrArg Obj.cls q) (show ¬ (Value.type "tuple" = Value.type "list") by decide)⟩
    have hcel7 : s₇.heap.IsCell Kc (some v) := by
      obtain ⟨oK, hoK, hdK⟩ := hc5
      obtain ⟨slK, eK, uu⟩ := T6'.keep Kc _ hoK (S5.sit.lists.notRec hoK (fun xs n q => dd hdK q rfl) hKt) (fun z => nomatch z)
      exact ⟨_, kl _ _ eK (fun us n q => by have := congrArg Obj.data q; exact dd hdK this rfl), hdK⟩
    refine ⟨ds.length - (i + 1), turn_lt hk hlt, i + 1, M₆, acc₂ ++ [e], _, turn_eq hlt, S7.forget (ρn := []) fun y d hy => hy, I.frame _ _ _ hs'' (fun b hb o e => ?_) tuAll, hcel7, by rw [hrest]; exact q6⟩
    obtain ⟨hbt, o', ws, ho, hdd, uu⟩ := F2 b hb
    obtain rfl := some_inj e ho
    exact keepFld b o ws hbt e hdd
theorem compc_core {elt iter : Expr} {x n0 n2 : Str} {k0 k2 : NameKind} {g1 g2 : Bool} {mo : List (Str × Const)} {px : Pos} {pos : Pos} {Q : D → LMap → Prop} (O : CxOk G C n) (h0 : k0 ≠ .cell) (h2 : k2 ≠ .cell) (h0f : k0 ≠ .free) (h2f : k2 ≠ .free)
    (hnames : ∀ y ∈ [(n0, k0), (x, .cell), (n2, k2)], y.2 = .local → List.lookup y.1 [(n0, k0), (x, .cell), (n2, k2)] = some .local) (hx : List.lookup x [(n0, k0), (x, .cell), (n2, k2)] = some .cell)
    (h : IE prog w C ρ M iter fun T Ok ds M₁ => T (.Name x px) ∧ ∀ L c, CxOk G (nrCx C (compEnvC { kind := .function, names := [(n0, k0), (x, .cell), (n2, k2)], isGenerator := g1, isCoroutine := g2, more := mo } [(x, c)] L C.env)) n →
      Comp1L prog w (nrCx C (compEnvC { kind := .function, names := [(n0, k0), (x, .cell), (n2, k2)], isGenerator := g1, isCoroutine := g2, more := mo } [(x, c)] L C.env)) [] x elt Ok ds [] M₁ fun acc M₂ => ∀ a, M₂ a = .none → Q (.lst a) (upd M₂ a acc))
    (hs : ∀ x, foldedSetIterable iter C.env x = pure x) {use : Option (Value → Sem Unit)} {Q' : Value → Shared → Prop}
    (kp : ∀ acc L r s', s.heap.get? L = .none → compPost (model prog w) C.A C.E none (Post C s M Q) acc L r s' → compPost (model prog w) C.A C.E use Q' acc L r s') (S : Sit C s ρ M) :
    wpAny (model prog w) C.A (comprehension (.ListComp elt [⟨.Name x px, iter, [], 0⟩] { kind := .function, names := [(n0, k0), (x, .cell), (n2, k2)], isGenerator := g1, isCoroutine := g2, more := mo } pos) { kind := .function, names := [(n0, k0), (x, .cell), (n2, k2)], isGenerator := g1, isCoroutine := g2, more := mo } C.env (firstIterPos [⟨.Name x px, iter, [], 0⟩] pos) (newList []) (firstAsync [⟨.Name x px, iter, [], 0⟩]) (firstIter [⟨.Name x px, iter, [], 0⟩] C.env) use) Q' C.E s := by
  have hclos : closureFor { kind := .function, names := [(n0, k0), (x, .cell), (n2, k2)], isGenerator := g1, isCoroutine := g2, more := mo } C.env = pure [] := by
    have e0 : (k0 == NameKind.free) = false := by simpa using h0f
    have e2 : (k2 == NameKind.free) = false := by simpa using h2f
    simp only [closureFor, List.forIn_cons, List.forIn_nil, e0, e2, show (NameKind.cell == NameKind.free) = false from rfl, Bool.false_eq_true, if_false, pure_bind, bind_pure]
  refine wpAny_comprehension_free (use := use) rfl hs hclos rfl hnames (wpAny_mono (h s S) (fun xv s₁ h₁ => wpAny_mono h₁ (fun it s₂ h₂ => ?_) fun uu uu e => e) fun uu uu e => e)
  refine hide fun uu kg => ?_
  obtain ⟨a, wr, T, Ok, St, Mid, ds, M₂, rfl, I, T₂, hfr, S₂, hSt, hT, hL⟩ := h₂
  refine kg ?_
  refine wpAny_newObj_type (newEnv_cell h0 h2 ?_)
  dsimp only
  have kp0 : s.heap.get? (s₂.heap.push { cls := .type "list", dict := none, data := .seq ([] : List Value).toArray }).objs.size = .none := by
    exact none_of fun o e => by
      obtain ⟨o', e'⟩ := T₂.there _ _ e
      have := Heap.lt_size e'
      rw [Heap.size_push] at this
      exact absurd this (Nat.not_lt.mpr (Nat.le_succ _))
  refine codeAny_mono ?_ fun r s' h' => kp _ _ r s' kp0 h'
  have hne3 : ∀ k : Nat, k ≠ k + 1 ∧ k ≠ k + 1 + 1 ∧ k + 1 ≠ k + 1 + 1 := fun k => by omega
  have hget0 := Heap.get?_push_size s₂.heap (o := { cls := .type "list", dict := none, data := .seq ([] : List Value).toArray }) rfl
  generalize hH2 : s₂.heap.push { cls := .type "list", dict := none, data := .seq ([] : List Value).toArray } = H2 at hget0 ⊢
  have hC : H2.objs.size = s₂.heap.objs.size + 1 := by rw [← hH2, Heap.size_push]
  have hget1 := Heap.get?_push_size H2 (o := { cls := .type "dict", data := .dict #[] }) rfl
  generalize hH3 : H2.push { cls := .type "dict", data := .dict #[] } = H3 at hget1 ⊢
  have hC3 : H3.objs.size = H2.objs.size + 1 := by rw [← hH3, Heap.size_push]
  have hget2 := Heap.get?_push_size H3 (o := { cls := .type "cell", data := .cell none }) rfl
  have k23 : ∀ b o, H2.get? b = some o → H3.get? b = some o := fun b o e => hH3 ▸ Heap.get?_push_of_some _ e
  have k12 : ∀ b o, s₂.heap.get? b = some o → H2.get? b = some o := fun b o e => hH2 ▸ Heap.get?_push_of_some _ e
  generalize hH4 : H3.push { cls := .type "cell", data := .cell none } = h₁ at hget2 ⊢
  have k34 : ∀ b o, H3.get? b = some o → h₁.get? b = some o := fun b o e => hH4 ▸ Heap.get?_push_of_some _ e
  have old : ∀ b o, s₂.heap.get? b = some o → h₁.get? b = some o := fun b o e => k34 b o (k23 b o (k12 b o e))
  rw [hC3] at hget2
  rw [← hC3]
  have nD : s₂.heap.get? s₂.heap.objs.size = .none := get?_size_none _
  have nC : s₂.heap.get? H2.objs.size = .none := Heap.get?_none_of_le (by rw [hC]; exact Nat.le_succ _)
  have nK : s₂.heap.get? H3.objs.size = .none := Heap.get?_none_of_le (by rw [hC3, hC]; omega)
  have hacc : h₁.PlainList s₂.heap.objs.size #[] := ⟨0, k34 _ _ (k23 _ _ hget0)⟩
  have hns₁ : h₁.Ns H2.objs.size fun uu => none := ⟨_, #[], _, k34 _ _ hget1, rfl, fun e he => absurd he (by simp), fun uu => rfl⟩
  have hcel₁ : h₁.IsCell H3.objs.size none := ⟨_, by rw [hC3]; exact hget2, rfl⟩
  have hDC : s₂.heap.objs.size ≠ H2.objs.size := by rw [hC]; exact (hne3 _).1
  have hDK : s₂.heap.objs.size ≠ H3.objs.size := by rw [hC3, hC]; exact (hne3 _).2.1
  have hCK : H2.objs.size ≠ H3.objs.size := by rw [hC3]; exact (hne3 _).1
  generalize hDd : s₂.heap.objs.size = Da at nD hacc hDC hDK ⊢
  generalize hCc : H2.objs.size = Lc at nC hns₁ hDC hCK ⊢
  generalize hKk : H3.objs.size = Kc at nK hcel₁ hDK hCK ⊢
  have T4 : Step ((Kc :: wr) ++ [Da, Lc]) C.stk s M { s₂ with heap := h₁ } M₂ := (T₂.wider fun a h => List.mem_append_left _ (.tail _ h)).trans (Step.ofKeeps (tk := s₂.toks) old)
  have S4 : Sit C { s₂ with heap := h₁ } ρ M₂ := S₂.ev (Step.ofKeeps (tk := s₂.toks) old) (S₂.lists.mono old)
  have hSt4 : St 0 h₁ := I.frame _ _ _ hSt (fun b uu o e => old b o e) (fun b vs ⟨k, e⟩ => ⟨k, old b _ e⟩)
  generalize hs4 : ({ s₂ with heap := h₁ } : Shared) = s₄ at T4 S4 ⊢
  have hh4 : s₄.heap = h₁ := by rw [← hs4]
  rw [← hh4] at hacc hns₁ hSt4 hcel₁
  have hKt : Kc ≠ tabA := S.tab.ne (T₂.thereNone nK)
  have hkx : (compEnvC { kind := .function, names := [(n0, k0), (x, .cell), (n2, k2)], isGenerator := g1, isCoroutine := g2, more := mo } [(x, Kc)] Lc C.env).kindOf x = some .cell := by
    have f0 : (k0 == NameKind.free) = false := by simpa using h0f
    have f2 : (k2 == NameKind.free) = false := by simpa using h2f
    show List.lookup x ([(n0, k0), (x, NameKind.cell), (n2, k2)].map fun (n, k) => if (k == .free && C.env.scope.kind == .function && C.env.kindOf n == some .cell) then (n, NameKind.cell) else (n, k)) = some .cell
    simp only [List.map_cons, List.map_nil, f0, f2, show (NameKind.cell == NameKind.free) = false from rfl, Bool.false_and, Bool.false_eq_true, if_false]
    exact hx
  have Oc : CxOk G (nrCx C (compEnvC { kind := .function, names := [(n0, k0), (x, .cell), (n2, k2)], isGenerator := g1, isCoroutine := g2, more := mo } [(x, Kc)] Lc C.env)) n := ⟨O.frames, O.depth, O.units, O.handled, O.glob, fun uu z => (nomatch z), fun uu z => (nomatch z), rfl, O.globals, O.builtins⟩
  have hL' := hL Lc Kc Oc
  generalize hce : compEnvC { kind := .function, names := [(n0, k0), (x, .cell), (n2, k2)], isGenerator := g1, isCoroutine := g2, more := mo } [(x, Kc)] Lc C.env = cenv at hkx Oc hL'
  have hcl : cenv.locals = Lc := by rw [← hce]; rfl
  have hcc : cenv.cells = [(x, Kc)] := by rw [← hce]; rfl
  have hck : cenv.scope.kind = .function := by rw [← hce]; rfl
  have hcg : cenv.globals = C.env.globals := by rw [← hce]; rfl
  have hcb : cenv.builtins = C.env.builtins := by rw [← hce]; rfl
  have F : CF G n C cenv s ρ M Da Lc := ⟨S, O, T₂.thereNone nD, T₂.thereNone nC, hDC, hcl, hck, hcg, hcb⟩
  have CS4 : CS C cenv s ρ M (Kc :: wr) Da Lc [] [] s₄ M₂ := ⟨fun b hb => by
    rcases List.mem_cons.mp hb with rfl | q
    · exact T₂.thereNone nK
    · exact hfr b q, T4, S4, S₂.lists.fresh nD, ⟨[], hacc, .nil⟩, ⟨_, hns₁, fun y d e => (nomatch e)⟩⟩
  have loop := compc_loop (R := compPost (model prog w) C.A C.E none (Post C s M Q) (.ref Da) Lc) (elt := elt) (iter := iter) (px := px) (scope := { kind := .function, names := [(n0, k0), (x, .cell), (n2, k2)], isGenerator := g1, isCoroutine := g2, more := mo }) (pos := pos) F hkx hcc I hT (fun b hb => .tail _ hb) (.head _) hDK hCK hKt CS4 hSt4 hcel₁ hL' fun s' M' acc S' q => S'.close F q
  have start := codeAny_compStart_list (target := .Name x px) (ifs := []) (rest := []) loop (I.self 0 s₄ (fun it' s' => codeAny (model prog w) C.A (.compLoop (.ListComp elt [⟨.Name x px, iter, [], 0⟩] { kind := .function, names := [(n0, k0), (x, .cell), (n2, k2)], isGenerator := g1, isCoroutine := g2, more := mo } pos) 0 it' (.ref Da) cenv) (compPost (model prog w) C.A C.E none (Post C s M Q) (.ref Da) Lc) s') _ hSt4 loop)
  rw [← hce] at start
  exact start
/-- the list is stored where the comprehension ends -/
theorem sx_assign_compc {elt iter : Expr} {y x n0 n2 : Str} {k0 k2 : NameKind} {g1 g2 : Bool} {mo : List (Str × Const)} {px py : Pos} {pos apos : Pos} {R : Option D → Locs → LMap → Prop} (O : CxOk G C n) (h0 : k0 ≠ .cell) (h2 : k2 ≠ .cell) (h0f : k0 ≠ .free) (h2f : k2 ≠ .free)
    (hnames : ∀ y ∈ [(n0, k0), (x, .cell), (n2, k2)], y.2 = .local → List.lookup y.1 [(n0, k0), (x, .cell), (n2, k2)] = some .local) (hx : List.lookup x [(n0, k0), (x, .cell), (n2, k2)] = some .cell)
    (h : IE prog w C ρ M iter fun T Ok ds M₁ => T (.Name x px) ∧ ∀ L c, CxOk G (nrCx C (compEnvC { kind := .function, names := [(n0, k0), (x, .cell), (n2, k2)], isGenerator := g1, isCoroutine := g2, more := mo } [(x, c)] L C.env)) n →
      Comp1L prog w (nrCx C (compEnvC { kind := .function, names := [(n0, k0), (x, .cell), (n2, k2)], isGenerator := g1, isCoroutine := g2, more := mo } [(x, c)] L C.env)) [] x elt Ok ds [] M₁ fun acc M₂ => ∀ a, M₂ a = .none → As prog w C ρ (upd M₂ a acc) (.Name y py) (.lst a) (R .none))
    (hs : ∀ x, foldedSetIterable iter C.env x = pure x) (hsw : swapsWith (.ListComp elt [⟨.Name x px, iter, [], 0⟩] { kind := .function, names := [(n0, k0), (x, .cell), (n2, k2)], isGenerator := g1, isCoroutine := g2, more := mo } pos) (some (.Name y py)) apos.line C.env = pure true) : Sx prog w C ρ M (.Assign [.Name y py] (.ListComp elt [⟨.Name x px, iter, [], 0⟩] { kind := .function, names := [(n0, k0), (x, .cell), (n2, k2)], isGenerator := g1, isCoroutine := g2, more := mo } pos) apos) R := fun s S => by
  rw [exec_Assign_Name_used _ _ _ _ hsw]
  refine wpAny_bind (wpAny_standAt (wpAny_bind ?_))
  unfold evalThenUse
  refine wpAny_bind (wpAny_mono (compc_core (Q := fun d M' => As prog w C ρ M' (.Name y py) d (R .none)) O h0 h2 h0f h2f hnames hx h hs (comp_store S fun d M' h => h) S) (fun v s₂ P => wpAny_pure (wpAny_pure ?_)) fun uu uu x => x)
  exact P

end
end
section
open PySem PySem.W PyProof.Rows
open PySem.Calls
open PyProof.Rows.TI (gone gone_get gone_none gone_some)
set_option maxRecDepth 100000
set_option linter.unusedVariables false
set_option maxHeartbeats 4000000
/-- the ground of the def that makes defs -/
noncomputable def GPair (P : Params) (mg mb : Str → Option Value) : Heap → Prop := fun base => GB P mg mb base ∧ base.BuiltinsAt mg tabA
theorem gpair_lim {P : Params} {mg mb : Str → Option Value} : ∀ base, GPair P mg mb base → (hd.heap_39 P).In base ∧ base.NoLimit := fun uu h => gb_lim _ h.1
theorem code_222 (P : Params) {h : Heap} (X : (hd.heap_39 P).In h) : CodeHd h 222 tabA :=
  ⟨_, _, _, _, _, _, _, _, _, X _ _ rfl, rfl, rfl, rfl, rfl, rfl, rfl, rfl, rfl, by decide⟩
theorem CxOk.toG {G G' : Heap → Prop} {C : Cx} {n : Nat} (O : CxOk G C n) (k : ∀ base, G base → G' base) : CxOk G' C n := ⟨O.frames, O.depth, O.units, O.handled, k _ O.glob, O.ownBase, O.ownPast, O.kind, O.globals, O.builtins⟩
theorem CxOk.gb {P : Params} {mg mb : Str → Option Value} {C : Cx} {n : Nat} (O : CxOk (GPair P mg mb) C n) : CxOk (GB P mg mb) C n := O.toG fun uu h => h.1

section
variable {prog : Program} {w : World} {mg mb : Str → Option Value} {C : Cx} {s s₁ s' : Shared} {ρ ρ₁ ρ' : Locs} {M M₁ M' : LMap} {n n' : Nat}

/-- a try of a lambda -/
theorem ev_called {params : Arguments} {body : Expr} {scope : Scope} {pos np bp cpos : Pos} {kk : Nat} {bs : List UInt8} {clos : List (Str × Addr)} {Qd : D → Prop} {X : Array UInt8 → Prop} (ρ' : Locs) (O : CxOk (GPair w.params mg mb) C n) (hM : M tabA = some [])
    (hkc : C.env.kindOf "_law_called" = some .globalImplicit) (hcode : C.env.code = .ref 222) (hcl : closureFor scope C.env = pure clos) (hq : C.env.qual ++ "<lambda>" = tabQ) (hdef : defaultsOf params C.env = ([], []))
    (hclos : ∀ y c, clos.lookup y = some c → C.env.cells.lookup y = some c)
    (hρ : ∀ y d, ρ'.lookup y = some d → ρ.lookup y = some d ∧ scope.names.lookup y = some .free ∧ (C.env.kindOf y = some .cell ∨ C.env.kindOf y = some .free) ∧ clos.lookup y = C.env.cells.lookup y)
    (hbind : ∀ pm cv ctv, bindArgs (kla_fn "<lambda>" tabQ params body scope clos pm cv ctv) ⟨[], []⟩ = pure []) (hcell : ∀ x ∈ scope.names, x.2 ≠ .cell)
    (hX : ∀ x, X x → x = bs.toArray) (hn : n' + 2 ≤ n)
    (hbody : ∀ (G : Heap → Prop), (∀ base, G base → GB w.params mg mb base) → ∀ f cv A base past stk L, CxOk G (cxOf (model prog w) A (envX tabQ scope L f cv clos) base past stk L X) n' → Ev prog w (cxOf (model prog w) A (envX tabQ scope L f cv clos) base past stk L X) ρ' (fun uu => .none) body fun d uu => Qd d)
    (he : starEach [.Lambda params body scope pos, .Constant (.bytes bs) kk bp] C.env = [(false, eval (.Lambda params body scope pos) C.env), (false, eval (.Constant (.bytes bs) kk bp) C.env)] := by rfl)
    (hco : scope.isCoroutine = false := by rfl) (hgen : scope.isGenerator = false := by rfl) (hk : scope.kind = .function := by rfl) :
    Ev prog w C ρ M (.Call (.Name "_law_called" np) [.Lambda params body scope pos, .Constant (.bytes bs) kk bp] [] cpos) fun d M' => M' = M ∧ (Qd d ∨ (d = .str (Str.ofString "panic") ∧ X bs.toArray)) := fun s S => by
  obtain ⟨GBc, hB⟩ := O.glob
  have B := S.stays
  refine Call_Name rfl (Calls.Name_function_global O.kind hkc (Calls.loadGlobal_global (mg := mg) (by rw [O.globals]; exact GBc.top.g.keeps B) (mg_of GBc.kin GBc.top.g (g__law_called _)) ?_) (by decide))
  refine hide fun uu kg => ?_
  obtain ⟨oc, od, fd, osl, hK⟩ := k__law_called w.params
  refine kg ?_
  rw [he]
  refine Calls.callWith_function (o := ⟨oc, od, .func fd, osl⟩) (fd := fd) (Calls.evalArgs_plain (Calls.spliced_cons ?_))
  refine make_lambda S hM O.globals GBc.top.g hcode (code_222 _ GBc.kin) hB hcl hq hdef fun f cv ctv h' tk hf hcd hf0 keep T L => ?_
  refine Calls.spliced_cons (Constant_bytes (k := kk) (pos := bp) (Calls.spliced_nil ?_))
  have S₁ : Sit C { s with heap := h', toks := tk } ρ M := S.ev T L
  have S₂ : Sit C { s with heap := h', toks := tk + 1 } ρ M := S.ev (s' := { s with heap := h', toks := tk + 1 }) ⟨T.keep, T.there, T.fresh, rfl⟩ L
  refine ⟨⟨(GBc.kin.keeps S₁.stays) _ _ hK, rfl⟩, ?_⟩
  have tups := T.tups (ownOk_nil _) S.lists S.frames
  -- the ground of the call
  let G₁ : Heap → Prop := fun base => GB w.params mg mb base ∧ LamAt base f params body scope clos ((mg "__name__").getD .none) cv ctv ρ'
  have up₁ : Up G₁ := fun base base' h k => ⟨up_glob base base' h.1 k, h.2.mono k⟩
  have notF : ∀ b o, h'.get? b = some o → (∀ es n, o.data ≠ .dict es n) → (gone h' (frs C.stk)).get? b = some o := fun b o e hd => by
    rw [gone_get (S₁.frames.notSeq e hd)]; exact e
  have hG₁ : G₁ (gone h' (frs C.stk)) := by
    refine ⟨up_glob _ _ GBc fun b o e => ?_, ?_⟩
    · have : b ∉ frs C.stk := fun q => by (first | exact (nne (S₁.frames.mem q).1 e).elim | exact (dd (S₁.frames.mem q).1 e rfl).elim | obtain rfl := some_inj (S₁.frames.mem q).1 e | (rw [(S₁.frames.mem q).1] at e; cases e))
      exact (gone_get this).trans (S₁.stays b o e)
    · have tg : TupsStay h' (gone h' (frs C.stk)) := fun a vs ⟨j, e⟩ => ⟨j, notF _ _ e fun es n q => by cases q⟩
      refine ⟨notF _ _ hf (fun es n q => by cases q), ?_, fun y c e => ?_, fun y d e => ?_⟩
      · refine hide fun uu kg => ?_
        obtain ⟨c, o, vs, t, e1, e2, e3, e4⟩ := hcd
        refine kg ?_
        exact ⟨c, o, vs, t, e1, notF _ _ e2 (fun es n q => by (first | exact (nne e3 q).elim | exact (dd e3 q rfl).elim | obtain rfl := some_inj e3 q | (rw [e3] at q; cases q))), e3, e4⟩
      · refine hide fun uu kg => ?_
        obtain ⟨v, o, ho, hd⟩ := S₁.cells y c (hclos y c e)
        refine kg ?_
        exact ⟨v, o, notF _ _ ho (fun es n q => by (first | exact (nne hd q).elim | exact (dd hd q rfl).elim | obtain rfl := some_inj hd q | (rw [hd] at q; cases q))), hd⟩
      · refine hide fun uu kg => ?_
        obtain ⟨h1, h2, h3, h4⟩ := hρ y d e
        refine kg ?_
        obtain ⟨v, hb, r⟩ := S₁.names y d h1
        rcases hb with ⟨hk', _⟩ | ⟨_, c, hc, o, ho, hd⟩
        · rcases h3 with h3 | h3 <;> rw [h3] at hk' <;> cases hk'
        · exact ⟨h2, c, v, by rw [h4]; exact hc, ⟨o, notF _ _ ho (fun es n q => by rw [hd] at q; cases q), hd⟩, r.mono tg⟩
  have lam : FnP prog w G₁ (.ref f) (n' + 1) [] Qd X := fn_lam (G := G₁) (fun base h => ⟨(gb_lim _ h.1).2, h.2⟩) (fun x y c e1 e2 => S.inj x y c (hclos x c e1) (hclos y c e2)) (hbind _ _ _) hcell (fun A base past stk L O' => hbody G₁ (fun uu h => h.1) f cv A base past stk L O') hco hgen hk
  have call := called_ok (mg := mg) (mb := mb) up₁ (fun uu h => h.1) (fun base h => h.2.fn) hX lam
  refine wpAny_mono (FnP.run call O hn S₂ (.cons (.raw _) (.cons (.bytes _ _) .nil)) hG₁) (fun v s' P => ?_) fun uu uu x => x
  refine hide fun uu kg => ?_
  obtain ⟨d, T', L', r, p⟩ := P
  refine kg ?_
  exact ⟨d, M, Step.trans (s₁ := { s with heap := h', toks := tk + 1 }) ⟨T.keep, T.there, T.fresh, rfl⟩ T', L', r, rfl, p⟩
end
end
section
open PySem PySem.W PyProof.Rows
open PySem.Calls
set_option maxRecDepth 100000
set_option linter.unusedVariables false
set_option maxHeartbeats 4000000
mutual
/-- the hash of a datum -/
noncomputable def hashD (w : World) : D → Int
  | .raw _ => 0
  | .none => hashW w.params .none
  | .bool b => hashW w.params (.bool b)
  | .int i => hashInt i
  | .str x => hashStr w x
  | .bytes b => reduceHash (if (b.map (·.toNat)).isEmpty then 0 else reduceHash (w.params.strHash (b.map (·.toNat))))
  | .tup ds => reduceHash (Builtin.Tuple.tupleHashOf (hashDs w ds))
  | .lst _ => 0
noncomputable def hashDs (w : World) : List D → List Int
  | [] => []
  | d :: ds => hashD w d :: hashDs w ds
end
mutual
noncomputable def drawsD : D → Nat
  | .tup ds => drawsDs ds + 1
  | _ => 1
noncomputable def drawsDs : List D → Nat
  | [] => 0
  | d :: ds => drawsD d + drawsDs ds
end
section
variable {prog : Program} {w : World} {E : Value → Shared → Prop}
mutual
theorem hash_rep : ∀ (d : D) (v : Value) (A : Around) (s : Shared) (Q : Int → Shared → Prop), plain d = true → Rep s.heap v d → A.units + high d + 1 < cLine → Q (hashD w d) { s with toks := s.toks + drawsD d } → wpAny (model prog w) A (pyHash v) Q E s
  | .raw _, _, _, _, _, hp, _, _, _ => Bool.noConfusion hp
  | .lst _, _, _, _, _, hp, _, _, _ => Bool.noConfusion hp
  | .none, _, A, s, Q, _, r, hu, h => by
    obtain rfl := r.none_
    exact pyHash_slot (T := "NoneType") rfl F.slot_NoneType_hash F.entry_NoneType_hash (F.args_NoneType_hash_1 _) (beq_builtin_none _) (.inr (by omega)) (wpAny_bind (wpAny_pure (wpAny_bind (wpAny_mkInt (wpAny_pure ⟨_, _, rfl, h⟩)))))
  | .bool b, _, A, s, Q, _, r, hu, h => by
    obtain rfl := r.bool_
    refine pyHash_slot (T := "bool") rfl F.slot_bool_hash entry_int_hash (args_int_hash _) (beq_builtin_none _) (.inr (by omega)) ?_
    cases b
    · exact (show wpAny _ _ (do ret (← mkInt 0)) _ _ s from wpAny_bind (wpAny_mkInt (wpAny_pure ⟨_, _, rfl, h⟩)))
    · exact (show wpAny _ _ (do ret (← mkInt 1)) _ _ s from wpAny_bind (wpAny_mkInt (wpAny_pure ⟨_, _, rfl, h⟩)))
  | .int i, _, A, s, Q, _, r, hu, h => by obtain ⟨_, rfl⟩ := r.int_; exact wpAny_pyHash_int h
  | .str y, _, A, s, Q, _, r, hu, h => by obtain ⟨_, rfl⟩ := r.str_; exact wpAny_pyHash_str h
  | .bytes b, _, A, s, Q, _, r, hu, h => by
    obtain ⟨_, rfl⟩ := r.bytes_
    refine pyHash_slot (T := "bytes") rfl FB.slot_bytes_hash FB.entry_bytes_hash (FB.args_bytes_hash_1 _) (beq_builtin_none _) (.inr (by omega)) ?_
    show wpAny _ _ (strHash ⟨b.map (·.toNat)⟩ >>= fun i => (do ret (← mkInt i))) _ _ s
    unfold strHash
    exact wpAny_bind (wpAny_bind (wpAny_askSetting (wpAny_pure (wpAny_bind (wpAny_mkInt (wpAny_pure ⟨_, _, rfl, h⟩))))))
  | .tup ds, _, A, s, Q, hp, r, hu, h => by
    obtain ⟨a, vs, rfl, ht, rs⟩ := r.tup_
    · skip
      obtain ⟨n, ho⟩ := ht
      refine pyHash_slot (T := "tuple") ⟨_, ho, rfl⟩ F.slot_tuple_hash F.entry_tuple_hash (F.args_tuple_hash_1 _) (beq_builtin_none _) (.inr (by omega)) ?_
      show wpAny _ _ (Builtin.Tuple.tupleItemsOf (.ref a) >>= _) _ _ s
      refine wpAny_bind (wpAny_tupleItemsOf ho rfl ?_)
      refine wpAny_bind ?_
      rw [← Array.forIn_toList]
      refine hash_reps ds vs A.in1 s #[] _ (by simpa [plain] using hp) rs (by simp only [high, Around.in1_units] at hu ⊢; omega) fun b hb => ?_
      show wpAny _ _ (retInt (Builtin.Tuple.tupleHashOf b.toList)) _ _ _
      rw [hb]
      exact wpAny_bind (wpAny_mkInt (wpAny_pure ⟨_, _, rfl, h⟩))
theorem hash_reps : ∀ (ds : List D) (vs : List Value) (A : Around) (s : Shared) (b : Array Int) (Q : Array Int → Shared → Prop), plains ds = true → Reps s.heap vs ds → A.units + highs ds + 1 < cLine →
    (∀ b', b'.toList = b.toList ++ hashDs w ds → Q b' { s with toks := s.toks + drawsDs ds }) →
    wpAny (model prog w) A (forIn vs b fun x r => do let h ← pyHash x; pure PUnit.unit; pure (ForInStep.yield (r.push h))) Q E s
  | [], _, A, s, b, Q, _, r, _, h => by obtain rfl := r.nil_; exact wpAny_pure (h b (by simp [hashDs]))
  | d :: ds, _, A, s, b, Q, hp, r, hu, h => by
    obtain ⟨_, _, rfl, r1, r2⟩ := r.cons_
    · skip
      simp only [plains, Bool.and_eq_true, highs] at hp hu
      rw [List.forIn_cons]
      refine wpAny_bind (wpAny_bind (hash_rep d _ A s _ hp.1 r1 (by omega) ?_))
      refine wpAny_bind (wpAny_pure (wpAny_pure ?_))
      refine hash_reps ds _ A { s with toks := s.toks + drawsD d } _ Q hp.2 r2 (by omega) fun b' hb => ?_
      have := h b' (by simp [hb, hashDs])
      simpa [drawsDs, Nat.add_assoc] using this
end
end
end
section
open PySem PySem.W PyProof.Rows
open PySem.Calls
set_option maxRecDepth 100000
set_option linter.unusedVariables false
set_option maxHeartbeats 4000000
/-- what may be a key of a dict -/
noncomputable def isKeyD (d : D) : Prop := plain d = true ∧ high d ≤ 8 ∧ (∃ ds, d = .tup ds) ∧ ∃ v, key v = some d
theorem dat_eq {v w : V} (h : isLeaf v) (ht : tag v = tag w) (e : deq (dat v) (dat w) = true) : dat v = dat w := by
  have hl := leaf_tag h ht
  cases v with
  | face k v => exact h.elim
  | many s vs => exact h.elim
  | loose k => exact h.elim
  | nil =>
    cases w with
    | nil => rfl
    | face k v => exact hl.elim
    | many s vs => exact hl.elim
    | loose k => exact hl.elim
    | _ => exact absurd ht (by simp only [tag]; decide)
  | bool b =>
    cases w with
    | bool c => simp only [dat, deq, beq_iff_eq] at e; rw [e]
    | face k v => exact hl.elim
    | many s vs => exact hl.elim
    | loose k => exact hl.elim
    | _ => exact absurd ht (by simp only [tag]; decide)
  | int b =>
    cases w with
    | int c => simp only [dat, deq, beq_iff_eq] at e; rw [e]
    | face k v => exact hl.elim
    | many s vs => exact hl.elim
    | loose k => exact hl.elim
    | _ => exact absurd ht (by simp only [tag]; decide)
  | text b =>
    cases w with
    | text c => simp only [dat, deq, beq_iff_eq] at e; rw [show b = c from by simpa using e]
    | face k v => exact hl.elim
    | many s vs => exact hl.elim
    | loose k => exact hl.elim
    | _ => exact absurd ht (by simp only [tag]; decide)
  | ptr n xs =>
    cases w with
    | ptr m ys =>
      simp only [dat, deq, deqs, beq_self_eq_true, Bool.true_and, Bool.and_true, Bool.and_eq_true, beq_iff_eq] at e
      have : ∀ xs ys : List Int, deqs (xs.map D.int) (ys.map D.int) = true → xs = ys := by
        intro xs
        induction xs with
        | nil => intro ys h; cases ys with
          | nil => rfl
          | cons y ys => simp [deqs] at h
        | cons x xs ih => intro ys h; cases ys with
          | nil => simp [deqs] at h
          | cons y ys =>
            simp only [List.map_cons, deqs, deq, Bool.and_eq_true, beq_iff_eq] at h
            rw [h.1, ih ys h.2]
      rw [e.1, this xs ys e.2]
    | face k v => exact hl.elim
    | many s vs => exact hl.elim
    | loose k => exact hl.elim
    | _ => exact absurd ht (by simp only [tag]; decide)
theorem leaf_keq {v w : V} {d e : D} (h : isLeaf v) (hv : key v = some d) (hw : key w = some e) (q : deq d e = true) : d = e := by
  by_cases ht : tag v = tag w
  · have hl := leaf_tag h ht
    rw [leaf_key h] at hv
    rw [leaf_key hl] at hw
    cases hv; cases hw
    have : (tag v == tag w) = true := by simpa using ht
    simp only [deq, deqs, this, Bool.true_and, Bool.and_true] at q
    rw [ht, dat_eq h ht q]
  · (first | exact (nne (key_apart hv hw ht) q).elim | exact (dd (key_apart hv hw ht) q rfl).elim | obtain rfl := some_inj (key_apart hv hw ht) q | (rw [key_apart hv hw ht] at q; cases q))
mutual
theorem key_eq : ∀ (v w : V) (d e : D), key v = some d → key w = some e → deq d e = true → d = e
  | .loose k, w, d, e, hv, _, _ => nomatch hv
  | .face k v, w, d, e, hv, hw, q => by
    by_cases ht : tag (.face k v) = tag w
    · obtain ⟨k', v', rfl⟩ := face_of ht
      simp only [key] at hv hw
      split at hv
      · split at hw
        · obtain ⟨a, ha, rfl⟩ := Option.map_eq_some_iff.mp hv
          obtain ⟨b, hb, rfl⟩ := Option.map_eq_some_iff.mp hw
          simp only [deq, deqs, typ_deq, beq_self_eq_true, Bool.true_and, Bool.and_true, Bool.and_eq_true, decide_eq_true_eq] at q
          rw [q.1, key_eq v v' a b ha hb q.2]
        · cases hw
      · cases hv
    · (first | exact (nne (key_apart hv hw ht) q).elim | exact (dd (key_apart hv hw ht) q rfl).elim | obtain rfl := some_inj (key_apart hv hw ht) q | (rw [key_apart hv hw ht] at q; cases q))
  | .many s vs, w, d, e, hv, hw, q => by
    by_cases ht : tag (.many s vs) = tag w
    · obtain ⟨ws, rfl⟩ := many_of ht
      simp only [key] at hv hw
      obtain ⟨a, ha, rfl⟩ := Option.map_eq_some_iff.mp hv
      obtain ⟨b, hb, rfl⟩ := Option.map_eq_some_iff.mp hw
      simp only [deq, deqs, beq_self_eq_true, Bool.true_and, Bool.and_true] at q
      rw [keys_eq vs ws a b ha hb q]
    · (first | exact (nne (key_apart hv hw ht) q).elim | exact (dd (key_apart hv hw ht) q rfl).elim | obtain rfl := some_inj (key_apart hv hw ht) q | (rw [key_apart hv hw ht] at q; cases q))
  | .nil, w, d, e, hv, hw, q => leaf_keq (v := .nil) trivial hv hw q
  | .bool b, w, d, e, hv, hw, q => leaf_keq (v := .bool b) trivial hv hw q
  | .int i, w, d, e, hv, hw, q => leaf_keq (v := .int i) trivial hv hw q
  | .text b, w, d, e, hv, hw, q => leaf_keq (v := .text b) trivial hv hw q
  | .ptr n xs, w, d, e, hv, hw, q => leaf_keq (v := .ptr n xs) trivial hv hw q
theorem keys_eq : ∀ (vs ws : List V) (d e : List D), keys vs = some d → keys ws = some e → deqs d e = true → d = e
  | [], [], d, e, hv, hw, q => by
    simp only [keys, Option.some.injEq] at hv hw
    subst hv; subst hw; rfl
  | [], w :: ws, d, e, hv, hw, q => by
    simp only [keys, Option.some.injEq] at hv
    subst hv
    cases e with
    | nil => rfl
    | cons b bs => simp [deqs] at q
  | v :: vs, [], d, e, hv, hw, q => by
    simp only [keys, Option.some.injEq] at hw
    subst hw
    cases d with
    | nil => rfl
    | cons b bs => simp [deqs] at q
  | v :: vs, w :: ws, d, e, hv, hw, q => by
    simp only [keys] at hv hw
    cases hk : key v with
    | none => (first | exact (nne hk hv).elim | exact (dd hk hv rfl).elim | obtain rfl := some_inj hk hv | (rw [hk] at hv; cases hv))
    | some a =>
      cases hl : key w with
      | none => (first | exact (nne hl hw).elim | exact (dd hl hw rfl).elim | obtain rfl := some_inj hl hw | (rw [hl] at hw; cases hw))
      | some b =>
        rw [hk] at hv
        rw [hl] at hw
        obtain ⟨as, h1, rfl⟩ := Option.map_eq_some_iff.mp hv
        obtain ⟨bs, h2, rfl⟩ := Option.map_eq_some_iff.mp hw
        simp only [deqs, Bool.and_eq_true] at q
        rw [key_eq v w a b hk hl q.1, keys_eq vs ws as bs h1 h2 q.2]
end
theorem key_deq {d e : D} (h1 : ∃ v, key v = some d) (h2 : ∃ v, key v = some e) : deq d e = true ↔ d = e := by
  obtain ⟨v, hv⟩ := h1
  obtain ⟨w, hw⟩ := h2
  refine ⟨key_eq v w d e hv hw, fun q => ?_⟩
  subst q
  have h := key_law v v d d hv hv
  rcases key_self v with ⟨h1, _⟩ | ⟨a, h1, h2⟩
  · (first | exact (nne hv h1).elim | exact (dd hv h1 rfl).elim | obtain rfl := some_inj hv h1 | (rw [hv] at h1; cases h1))
  · rw [h2] at h; exact (Option.some.inj h).symm
end
section
open PySem PySem.W PyProof.Rows
open PySem.Calls
set_option maxRecDepth 100000
set_option linter.unusedVariables false
set_option maxHeartbeats 4000000
mutual
theorem key_plain : ∀ (v : V) (d : D), key v = some d → plain d = true ∧ high d ≤ 2 * Mine.ht v + 3
  | .loose k, d, h => nomatch h
  | .face k v, d, h => by
    simp only [key] at h
    split at h
    · obtain ⟨a, ha, rfl⟩ := Option.map_eq_some_iff.mp h
      obtain ⟨h1, h2⟩ := key_plain v a ha
      have := typ_high k
      simp only [plain, plains, typ_plain, h1, high, highs, Mine.ht]
      refine ⟨rfl, by omega⟩
    · cases h
  | .many s vs, d, h => by
    simp only [key] at h
    obtain ⟨a, ha, rfl⟩ := Option.map_eq_some_iff.mp h
    obtain ⟨h1, h2⟩ := keys_plain vs a ha
    simp only [plain, plains, h1, high, highs, Mine.ht]
    refine ⟨rfl, by omega⟩
  | .nil, d, h => leaf_kp (v := .nil) trivial h
  | .bool b, d, h => leaf_kp (v := .bool b) trivial h
  | .int i, d, h => leaf_kp (v := .int i) trivial h
  | .text b, d, h => leaf_kp (v := .text b) trivial h
  | .ptr n xs, d, h => leaf_kp (v := .ptr n xs) trivial h
where
  leaf_kp {v : V} {d : D} (hl : isLeaf v) (h : key v = some d) : plain d = true ∧ high d ≤ 2 * Mine.ht v + 3 := by
    rw [leaf_key hl] at h
    cases h
    obtain ⟨h1, h2⟩ := leaf_plain hl
    simp only [plain, plains, h1, high, highs]
    refine ⟨rfl, by omega⟩
theorem keys_plain : ∀ (vs : List V) (d : List D), keys vs = some d → plains d = true ∧ highs d ≤ 2 * Mine.hts vs + 3
  | [], d, h => by
    simp only [keys, Option.some.injEq] at h
    subst h
    exact ⟨rfl, by simp [highs]⟩
  | v :: vs, d, h => by
    simp only [keys] at h
    cases hk : key v with
    | none => (first | exact (nne hk h).elim | exact (dd hk h rfl).elim | obtain rfl := some_inj hk h | (rw [hk] at h; cases h))
    | some a =>
      rw [hk] at h
      obtain ⟨as, h1, rfl⟩ := Option.map_eq_some_iff.mp h
      obtain ⟨p1, p2⟩ := key_plain v a hk
      obtain ⟨q1, q2⟩ := keys_plain vs as h1
      simp only [plains, p1, q1, highs, Mine.hts]
      refine ⟨rfl, by omega⟩
end
theorem key_isKey {v : V} {d : D} (h : key v = some d) (hh : Mine.ht v ≤ 2) : isKeyD d := by
  obtain ⟨h1, h2⟩ := key_plain v d h
  obtain ⟨r, h3⟩ := key_head h
  exact ⟨h1, by omega, ⟨_, h3⟩, v, h⟩

section
variable {prog : Program} {w : World}
mutual
theorem quiet_rep : ∀ (d : D) (n : Nat) (v : Value) (A : Around) (E : Value → Shared → Prop) (s : Shared) (Q : Bool → Shared → Prop), plain d = true → high d ≤ n → Rep s.heap v d → Q true s → wpAny (model prog w) A (eqIsQuiet n v) Q E s
  | .raw _, _, _, _, _, _, _, hp, _, _, _ => Bool.noConfusion hp
  | .lst _, _, _, _, _, _, _, hp, _, _, _ => Bool.noConfusion hp
  | .none, n, _, A, E, s, Q, _, _, r, h => by obtain rfl := r.none_; cases n <;> exact wpAny_pure h
  | .bool b, n, _, A, E, s, Q, _, _, r, h => by obtain rfl := r.bool_; cases n <;> exact wpAny_pure h
  | .int i, n, _, A, E, s, Q, _, _, r, h => by obtain ⟨_, rfl⟩ := r.int_; cases n <;> exact wpAny_pure h
  | .str x, n, _, A, E, s, Q, _, _, r, h => by obtain ⟨_, rfl⟩ := r.str_; cases n <;> exact wpAny_pure h
  | .bytes x, n, _, A, E, s, Q, _, _, r, h => by obtain ⟨_, rfl⟩ := r.bytes_; cases n <;> exact wpAny_pure h
  | .tup ds, 0, _, A, E, s, Q, _, hh, _, _ => by simp [high] at hh
  | .tup ds, n + 1, _, A, E, s, Q, hp, hh, r, h => by
    obtain ⟨a, vs, rfl, ht, rs⟩ := r.tup_
    · skip
      obtain ⟨k, ho⟩ := ht
      have hT : s.TypeIs (.ref a) "tuple" := ⟨_, ho, rfl⟩
      unfold eqIsQuiet
      refine wpAny_bind (wpAny_specialOf hT PySem.F.slot_tuple_eq.lookup ?_)
      show wpAny _ _ (isInstance (.ref a) (.type "tuple") >>= _) _ _ s
      refine wpAny_bind (wpAny_isInstance hT isSubtype_tuple_tuple ?_)
      simp only [Bool.not_true, Bool.false_eq_true, if_false]
      refine wpAny_bind (wpAny_seqItems ho rfl ?_)
      refine wpAny_bind ?_
      show wpAny _ _ (forIn vs.toArray _ _) _ _ s
      rw [← Array.forIn_toList]
      refine quiet_reps ds n vs A E s _ (by simpa [plain] using hp) (by simpa [high] using hh) rs ?_
      exact wpAny_pure h
theorem quiet_reps : ∀ (ds : List D) (n : Nat) (vs : List Value) (A : Around) (E : Value → Shared → Prop) (s : Shared) (Q : Option Bool × Unit → Shared → Prop), plains ds = true → highs ds ≤ n → Reps s.heap vs ds → Q (none, ()) s →
    wpAny (model prog w) A (forIn vs ((none, ()) : Option Bool × Unit) fun y __s => do
      let __do_lift ← eqIsQuiet n y
      if (!__do_lift) = true then pure (ForInStep.done (some false, ())) else pure (ForInStep.yield (none, ()))) Q E s
  | [], _, _, A, E, s, Q, _, _, r, h => by obtain rfl := r.nil_; exact wpAny_pure h
  | d :: ds, n, _, A, E, s, Q, hp, hh, r, h => by
    obtain ⟨_, _, rfl, r1, r2⟩ := r.cons_
    · skip
      simp only [plains, Bool.and_eq_true, highs] at hp hh
      rw [List.forIn_cons]
      refine wpAny_bind (wpAny_bind (quiet_rep d n _ A E s _ hp.1 (by omega) r1 ?_))
      simp only [Bool.not_true, Bool.false_eq_true, if_false]
      refine wpAny_pure ?_
      exact quiet_reps ds n _ A E s Q hp.2 (by omega) r2 h
end
noncomputable def decK : DecidableEq { d : D // isKeyD d } := fun a b => Classical.propDecidable (a = b)
/-- keys on the heap -/
noncomputable def keyKind (prog : Program) (w : World) : @HeapKind prog w { d : D // isKeyD d } decK :=
  @HeapKind.mk prog w { d : D // isKeyD d } decK
    (fun h k a => Rep h (.ref a) k.1)
    (fun k => hashD w k.1)
    (fun k => drawsD k.1)
    (fun A => A.units + 12 < cLine)
    (fun {h a x y} r1 r2 => Subtype.ext (rep_inj r1 r2 x.2.1 y.2.1))
    (fun {h h' k a d o es ep} r ho hd hs => r.mono fun b vs ⟨n, e⟩ => ⟨n, (hs.2 b fun q => by (first | exact (nb q ho e).elim | obtain rfl := sb q ho e | (rw [q, ho] at e; cases e)); cases hd).trans e⟩)
    (fun {A E s k a Q} hu r h => hash_rep k.1 _ A s Q k.2.1 r (by have := k.2.2.1; omega) h)
    (fun {A E s x y a b Q} hu r1 r2 h => by
      refine eq_data 8 x.2.2.1 (by omega) x.2.1 y.2.1 r1 r2 prog w E Q ?_
      have e : deq x.1 y.1 = @decide (x = y) (decK x y) := by
        rw [Bool.eq_iff_iff, key_deq x.2.2.2.2 y.2.2.2.2]
        simp only [decide_eq_true_eq]
        exact ⟨Subtype.ext, fun h => congrArg _ h⟩
      rw [e]; exact h)
    (fun {A E s k a Q} r h => quiet_rep k.1 8 _ A E s Q k.2.1 k.2.2.1 r h)
end
end
section
open PySem PySem.W PyProof.Rows
open PySem.Calls
set_option maxRecDepth 100000
set_option linter.unusedVariables false
set_option maxHeartbeats 4000000
section
variable {prog : Program} {w : World} {C : Cx} {s s₁ s' : Shared} {ρ ρ₁ ρ' : Locs} {M M₁ M' : LMap} {G : Heap → Prop} {n : Nat}
noncomputable abbrev KeyD := { d : D // isKeyD d }

/-- a dict of one key, and what it holds at a key -/
theorem ev_dget {k0 v0 k1 dv : Expr} {apos pos dpos : Pos} {Q : D → LMap → Prop} (hu : C.A.units + 13 < cLine)
    (h : Ev prog w C ρ M k0 fun d0 M₁ => ∃ κ0 : KeyD, d0 = κ0.1 ∧ Ev prog w C ρ M₁ v0 fun x0 M₂ => Ev prog w C ρ M₂ k1 fun d1 M₃ => ∃ κ1 : KeyD, d1 = κ1.1 ∧ Ev prog w C ρ M₃ dv fun y M₄ => (κ0 = κ1 → Q x0 M₄) ∧ (κ0 ≠ κ1 → Q y M₄))
    (he : starEach [k1, dv] C.env = [(false, eval k1 C.env), (false, eval dv C.env)] := by rfl)
    (hbase : attributeBase (.Dict [some k0] [v0] dpos) "get" C.env (eval (.Dict [some k0] [v0] dpos) C.env) = eval (.Dict [some k0] [v0] dpos) C.env := by rfl)
    (hline : (apos.endLine == pos.line) = true := by rfl) :
    Ev prog w C ρ M (.Call (.Attribute (.Dict [some k0] [v0] dpos) "get" apos) [k1, dv] [] pos) Q := fun s S => by
  refine wpAny_Call_method_late hbase (by rw [he]; rfl) hline rfl ?_
  refine wpAny_Dict_any rfl rfl (by simp) (by simp) ?_
  have hd0 : s.heap.get? s.heap.objs.size = .none := get?_size_none _
  have k₀ : ∀ b o, s.heap.get? b = some o → (s.heap.push { cls := .type "dict", data := .dict #[] }).get? b = some o := fun b o e => Heap.get?_push_of_some _ e
  have T₀ : Step [] C.stk s M { s with heap := s.heap.push { cls := .type "dict", data := .dict #[] } } M := Step.ofKeeps (tk := s.toks) k₀
  have S₀ : Sit C { s with heap := s.heap.push { cls := .type "dict", data := .dict #[] } } ρ M := S.ev T₀ (S.lists.mono k₀)
  have D₀ : (s.heap.push { cls := .type "dict", data := .dict #[] }).get? s.heap.objs.size = some { cls := .type "dict", data := .dict #[] } := Heap.get?_push_size _ rfl
  show wpAny (model prog w) C.A (eval k0 C.env >>= fun kv => holding [kv] (do let x ← eval v0 C.env; standAt dpos; pure x) >>= fun vv => holding [kv, vv] (pure []) >>= fun r => pure ((kv, vv) :: r)) _ _ _
  refine wpAny_bind (h.use S₀ fun s₁ v₁ d₁ M₁ T₁ S₁ r₁ q₁ => ?_)
  obtain ⟨κ0, rfl, q₁⟩ := q₁
  refine wpAny_bind (wpAny_holding (wpAny_bind (Ev.use q₁ S₁ fun s₂ v₂ d₂ M₂ T₂ S₂ r₂ q₂ => wpAny_bind (wpAny_standAt (wpAny_pure ?_)))))
  refine wpAny_bind (wpAny_holding (wpAny_pure (wpAny_pure ?_)))
  have hMd : M s.heap.objs.size = .none := S.lists.fresh hd0
  have hfd : s.heap.objs.size ∉ frs C.stk := fun q => by
    refine hide fun uu kg => ?_
    obtain ⟨uu, o, es, k, ho, uu⟩ := S.frames.mem q
    refine kg ?_
    (first | exact (nne hd0 ho).elim | exact (dd hd0 ho rfl).elim | obtain rfl := some_inj hd0 ho | (rw [hd0] at ho; cases ho))
  have D₁ : s₁.heap.get? s.heap.objs.size = some { cls := .type "dict", data := .dict #[] } := by
    obtain ⟨sl, e, q⟩ := T₁.keep _ _ D₀ hMd (fun z => nomatch z)
    rw [q hfd] at e; exact e
  have D₂ : s₂.heap.get? s.heap.objs.size = some { cls := .type "dict", data := .dict #[] } := by
    obtain ⟨sl, e, q⟩ := T₂.keep _ _ D₁ (S₁.lists.notDict D₁ (fun uu uu z => nomatch z) (fun uu z => nomatch z)) (fun z => nomatch z)
    rw [q hfd] at e; exact e
  have T02 : Step [] C.stk s M s₂ M₂ := (T₀.trans T₁).trans T₂
  obtain ⟨ds0, hds0⟩ := κ0.2.2.2.1
  have r₁' := S₁.rep T₂ r₁
  have hv₁ : ∃ a0, v₁ = .ref a0 := by
    rw [hds0] at r₁
    obtain ⟨a0, uu, e, uu⟩ := r₁.tup_
    exact ⟨a0, e⟩
  obtain ⟨a0, rfl⟩ := hv₁
  letI := decK
  have hm₂ : s₂.heap.DictOfH (keyKind prog w) s.heap.objs.size [] := ⟨_, #[], _, D₂, ⟨rfl, rfl, rfl⟩, rfl, rfl, fun x hx => by simp at hx, List.nodup_nil⟩
  show wpAny (model prog w) C.A (forIn [(Value.ref a0, v₂)] PUnit.unit fun (x : Value × Value) (_ : PUnit) => (do dictSet s.heap.objs.size x.1 x.2; pure (ForInStep.yield PUnit.unit) : Sem (ForInStep PUnit))) _ _ _
  rw [List.forIn_cons]
  refine wpAny_bind (wpAny_bind (wpAny_dictSet_heap (knd := keyKind prog w) (k := κ0) (xs := []) (by show C.A.units + 12 < cLine; omega) r₁' hm₂ (fun h₃ hm₃ hs₃ => wpAny_pure ?_) (by simp)))
  dsimp only
  rw [List.forIn_nil]
  refine wpAny_pure ?_
  have hstored : storedH ([] : List (KeyD × Addr × Value)) κ0 a0 v₂ = [(κ0, a0, v₂)] := rfl
  rw [hstored] at hm₃
  generalize hs3 : ({ s₂ with heap := h₃, toks := s₂.toks + (keyKind prog w).draws κ0 } : Shared) = s₃
  have hh3 : s₃.heap = h₃ := by rw [← hs3]
  have keep₃ : ∀ b o, b ≠ s.heap.objs.size → s₂.heap.get? b = some o → h₃.get? b = some o := fun b o hb e => (hs₃.2 b hb).trans e
  have ne_old : ∀ b o, s.heap.get? b = some o → b ≠ s.heap.objs.size := fun b o e q => by (first | exact (nb q hd0 e).elim | obtain rfl := sb q hd0 e | (rw [q, hd0] at e; cases e))
  have notD : ∀ b o, s₂.heap.get? b = some o → (∀ es n, o.data ≠ .dict es n) → h₃.get? b = some o := fun b o e hd => keep₃ b o (fun q => by (first | exact (nb q D₂ e).elim | obtain rfl := sb q D₂ e | (rw [q, D₂] at e; cases e)); exact hd _ _ rfl) e
  have tu₃ : TupsStay s₂.heap h₃ := fun b us ⟨j, e⟩ => ⟨j, notD b _ e fun es n q => by cases q⟩
  refine hide fun uu kg => ?_
  obtain ⟨o3, es3, ep3, ho3, hc3, hdd3, hes3, his3, hnd3⟩ := id hm₃
  refine kg ?_
  have T03 : Step [] C.stk s M s₃ M₂ := by
    rw [← hs3]
    refine ⟨fun b o e hb ho => ?_, fun b o e => ?_, T02.fresh, ?_⟩
    · obtain ⟨sl, e', q⟩ := T02.keep b o e hb ho
      exact ⟨sl, keep₃ b _ (ne_old b o e) e', q⟩
    · obtain ⟨o', e'⟩ := T02.there b o e
      exact ⟨o', keep₃ b _ (ne_old b o e) e'⟩
    · rw [T02.rest]
  have L₃ : Lists C.base s₃.heap M₂ := by
    rw [hh3]
    exact fun b es e => ⟨(S₂.lists b es e).1, (S₂.lists b es e).2.turn (fun vs n e => notD b _ e fun es n q => by cases q) tu₃ fun c o vs e hdd uu => notD c o e fun es n q => by (first | exact (nne hdd q).elim | exact (dd hdd q rfl).elim | obtain rfl := some_inj hdd q | (rw [hdd] at q; cases q))⟩
  have S₃ : Sit C s₃ ρ M₂ := S.ev T03 L₃
  have rv₂ : Rep s₃.heap v₂ d₂ := by rw [hh3]; exact r₂.mono tu₃
  have rk₀ : Rep s₃.heap (.ref a0) κ0.1 := by rw [hh3]; exact r₁'.mono tu₃
  rw [← hh3] at ho3
  have hdict : typeLookup (.type "dict") "get" = typeLookup (.type "dict") "get" := rfl
  refine ⟨"dict", "dict.get", PySem.F.plainAttrs_dict, PySem.F.slot_dict_get, PySem.F.type_dict_get, ⟨o3, ho3, hc3.1⟩, fun a e => ⟨o3, by cases e; exact ho3, hc3.2.1⟩, ?_⟩
  rw [he]
  refine wpAny_dict_get2_heap (knd := keyKind prog w) (d := s.heap.objs.size) (by show C.A.in1.units + 12 < cLine; rw [Around.in1_units]; omega) ?_ ?_
  · have := S.tab
    obtain ⟨ot, hot⟩ := this
    have := Heap.lt_size hot
    have : s.heap.objs.size ≠ sysModules := by
      intro q
      rw [q] at this
      exact absurd this (by decide)
    simpa using this
  refine Ev.use q₂ S₃ fun s₄ v₄ d₄ M₄ T₄ S₄ r₄ q₄ => ?_
  obtain ⟨κ1, rfl, q₄⟩ := q₄
  refine Ev.use q₄ S₄ fun s₅ v₅ d₅ M₅ T₅ S₅ r₅ q₅ => ?_
  obtain ⟨ds1, hds1⟩ := κ1.2.2.2.1
  have hv₄ : ∃ a1, v₄ = .ref a1 := by
    rw [hds1] at r₄
    obtain ⟨a1, uu, e, uu⟩ := r₄.tup_
    exact ⟨a1, e⟩
  obtain ⟨a1, rfl⟩ := hv₄
  have notseq : ∀ xs n, o3.data ≠ .seq xs n := fun xs n q => by (first | exact (nne hdd3 q).elim | exact (dd hdd3 q rfl).elim | obtain rfl := some_inj hdd3 q | (rw [hdd3] at q; cases q))
  have notfld : ∀ vs, o3.data ≠ .fields vs := fun vs q => by (first | exact (nne hdd3 q).elim | exact (dd hdd3 q rfl).elim | obtain rfl := some_inj hdd3 q | (rw [hdd3] at q; cases q))
  have D₄ : s₄.heap.get? s.heap.objs.size = some o3 := by
    obtain ⟨sl, e, q⟩ := T₄.keep _ _ ho3 (S₃.lists.notDict ho3 notseq notfld) (fun z => nomatch z)
    rw [q hfd] at e; exact e
  have D₅ : s₅.heap.get? s.heap.objs.size = some o3 := by
    obtain ⟨sl, e, q⟩ := T₅.keep _ _ D₄ (S₄.lists.notDict D₄ notseq notfld) (fun z => nomatch z)
    rw [q hfd] at e; exact e
  have T35 := T₄.trans T₅
  have rk₅ : Rep s₅.heap (.ref a0) κ0.1 := S₃.rep T35 rk₀
  have rv₅ : Rep s₅.heap v₂ d₂ := S₃.rep T35 rv₂
  refine ⟨a1, κ1, [(κ0, a0, v₂)], rfl, S₄.rep T₅ r₄, ⟨o3, es3, ep3, D₅, hc3, hdd3, hes3, fun x hx => by rw [List.mem_singleton.mp hx]; exact rk₅, hnd3⟩, ?_⟩
  have TT : Step [] C.stk s M { s₅ with toks := s₅.toks + (keyKind prog w).draws κ1 } M₅ := (T03.trans T35).trans (Step.ofKeeps (h' := s₅.heap) (tk := s₅.toks + (keyKind prog w).draws κ1) fun uu uu e => e)
  by_cases hk : κ0 = κ1
  · have e : atKey [(κ0, a0, v₂)] κ1 = some (a0, v₂) := by simp [atKey, hk]
    rw [e]
    exact ⟨d₂, M₅, TT, S₅.lists, rv₅, q₅.1 hk⟩
  · have e : atKey [(κ0, a0, v₂)] κ1 = none := by simp [atKey, hk]
    rw [e]
    exact ⟨d₅, M₅, TT, S₅.lists, r₅, q₅.2 hk⟩
end
end
section
open PySem PySem.W PyProof.Rows
open PySem.Calls
open PySem.SeqAt
open MeetsSeq MeetsSeq2 MeetsSeq3 SeqRoads2
set_option maxRecDepth 100000
set_option linter.unusedVariables false
section
variable {prog : Program} {w : World} {C : Cx} {s s₁ s' : Shared} {ρ ρ₁ : Locs} {M M₁ : LMap} {G : Heap → Prop} {n : Nat} {Q : D → LMap → Prop}
theorem op_ne_lsts {a b : Addr} {ds es : List D} (k : Nat) (ha : M a = some ds) (hb : M b = some es) (h1 : highs ds ≤ k) (hu : C.A.units + 1 + k < cLine) (p₁ : plains ds = true) (p₂ : plains es = true) (q : Q (.bool (!deqs ds es)) M) :
    Op2 prog w C ρ M (compareOp .NotEq) (.lst a) (.lst b) Q := fun s v₁ v₂ S r₁ r₂ => by
  refine hide fun uu kg => ?_
  obtain ⟨uu, vs, hl, rs⟩ := S.lists.lst ha r₁
  refine kg ?_
  refine hide fun uu kg => ?_
  obtain ⟨uu, vs', hl', rs'⟩ := S.lists.lst hb r₂
  refine kg ?_
  obtain ⟨rfl, uu⟩ := r₁.lst_; obtain ⟨rfl, uu⟩ := r₂.lst_
  have P : Post C s M Q (.bool (!deqs ds es)) s := Post.same (tk := s.toks) S.lists (.bool _) q
  rw [deqs_zip] at P
  by_cases hsz : ds.length = es.length
  · refine RcNeAt.lists (e := fun j => deq (ds.getD j .none) (es.getD j .none)) hl.list hl'.list (by simp [rs.length, rs'.length, hsz]) (by omega) (fun j h1' h2' => ?_) prog w _ _ ?_
    · exact eq_data k (Nat.le_trans (highs_get ds j) h1) (by rw [in1_units]; exact hu) (plains_get p₁ j) (plains_get p₂ j) (Reps.at rs j h1') (Reps.at rs' j h2')
    · simpa [rs.length, rs'.length, hsz] using P
  · refine RcNeAt.lists_lengths hl.list hl'.list (by simpa [rs.length, rs'.length] using hsz) (by omega) prog w _ _ ?_
    have : (ds.length == es.length) = false := by simpa using hsz
    simpa [this] using P
theorem op_eq_lsts {a b : Addr} {ds es : List D} (k : Nat) (ha : M a = some ds) (hb : M b = some es) (h1 : highs ds ≤ k) (hu : C.A.units + 1 + k < cLine) (p₁ : plains ds = true) (p₂ : plains es = true) (q : Q (.bool (deqs ds es)) M) :
    Op2 prog w C ρ M (compareOp .Eq) (.lst a) (.lst b) Q := fun s v₁ v₂ S r₁ r₂ => by
  refine hide fun uu kg => ?_
  obtain ⟨uu, vs, hl, rs⟩ := S.lists.lst ha r₁
  refine kg ?_
  refine hide fun uu kg => ?_
  obtain ⟨uu, vs', hl', rs'⟩ := S.lists.lst hb r₂
  refine kg ?_
  obtain ⟨rfl, uu⟩ := r₁.lst_; obtain ⟨rfl, uu⟩ := r₂.lst_
  have P : Post C s M Q (.bool (deqs ds es)) s := Post.same (tk := s.toks) S.lists (.bool _) q
  rw [deqs_zip] at P
  by_cases hsz : ds.length = es.length
  · refine RcAt.lists (e := fun j => deq (ds.getD j .none) (es.getD j .none)) hl.list hl'.list (by simp [rs.length, rs'.length, hsz]) (by omega) (fun j h1' h2' => ?_) prog w _ _ ?_
    · exact eq_data k (Nat.le_trans (highs_get ds j) h1) (by rw [in1_units]; exact hu) (plains_get p₁ j) (plains_get p₂ j) (Reps.at rs j h1') (Reps.at rs' j h2')
    · simpa [rs.length, rs'.length, hsz] using P
  · refine RcAt.lists_lengths hl.list hl'.list (by simpa [rs.length, rs'.length] using hsz) (by omega) prog w _ _ ?_
    have : (ds.length == es.length) = false := by simpa using hsz
    simpa [this] using P
theorem Sub.upd {N : LMap} {a : Addr} {ds : List D} (k : Sub N M) (h : N a = .none) : Sub N (Mine.upd M a ds) := fun b es e => by
  rw [upd_ne (fun q => by rw [q, h] at e; cases e)]
  exact k b es e
end
end
section
open PySem PySem.W PyProof.Rows
set_option maxRecDepth 100000
set_option linter.unusedVariables false
set_option maxHeartbeats 4000000
variable {w : World} {mg mb : Str → Option Value}
/-- what a key's try tells -/
noncomputable def keyR (r : Option D) : D := r.getD (.str (Str.ofString "panic"))
theorem keyR_plain {x : V} (hh : ∀ d, key x = some d → Mine.ht x ≤ 2) : plain (keyR (key x)) = true ∧ high (keyR (key x)) ≤ 7 := by
  cases h : key x with
  | none => exact ⟨rfl, Nat.zero_le _⟩
  | some d =>
    obtain ⟨h1, h2⟩ := key_plain x d h
    have := hh d h
    exact ⟨h1, show high d ≤ 7 by omega⟩
theorem keyR_panic (x : V) : deq (keyR (key x)) (.str (Str.ofString "panic")) = (key x).isNone := by
  cases h : key x with
  | none => rfl
  | some d =>
    obtain ⟨r, rfl⟩ := key_head h
    rfl
theorem alike_panic (x : V) : deq (resD (alike x x)) (.str (Str.ofString "panic")) = (key x).isNone := by
  rcases key_self x with ⟨h1, h2⟩ | ⟨d, h1, h2⟩ <;> rw [h1, h2] <;> rfl
theorem resD_plain (r : Option Bool) : plain (resD r) = true ∧ high (resD r) ≤ 0 := by
  cases r <;> exact ⟨rfl, Nat.le_refl _⟩
theorem Sub.none {N M : LMap} {a : Addr} (k : Sub N M) (h : M a = .none) : N a = .none := by
  exact none_of fun es e => by (first | exact (nne (k a es e) h).elim | exact (dd (k a es e) h rfl).elim | obtain rfl := some_inj (k a es e) h | (rw [k a es e] at h; cases h))
theorem upd_none {M : LMap} {a b : Addr} {ds : List D} (h : upd M a ds b = .none) : M b = .none ∧ b ≠ a := by
  have : b ≠ a := fun q => by (first | exact (nb q (upd_same _ _ _) h).elim | obtain rfl := sb q (upd_same _ _ _) h | (rw [q, upd_same] at h; cases h))
  rw [upd_ne this] at h
  exact ⟨h, this⟩
theorem pair_ok {prog : Program} (M : LMap) (hM : M tabA = some []) (v o : V) (hv : Mine.ht v ≤ 3) (ho : Mine.ht o ≤ 3) (fv : fit v) (fo : fit o) (kv : ∀ d, key v = some d → Mine.ht v ≤ 2) (ko : ∀ d, key o = some d → Mine.ht o ≤ 2) :
    FnX prog w (GPair w.params mg mb) (.ref 223) 26 [dat v, dat o] M (fun d M' => d = .bool true ∧ M' = M) (fun uu => False) := by
  refine fn_cells (K := hd.heap_39 w.params) (xs := ["one", "other"]) (n := 25) rfl (by rfl) gpair_lim ?hb (fun uu => rfl) (by decide) (by decide) ?_
  case hb => walk_at "fn2"
  intro A base past stk L C Q0 Op
  have O := Op.gb
  have hu : A.units + 3 + 10 * 25 < cLine := O.units
  repeat walk_at "dd"
  refine (ev_called (Qd := EqQ (alike v o)) (X := EqX (alike v o)) (n' := 20) (clos := [(Str.ofString "other", L + 1 + 1), (Str.ofString "one", L + 1)]) [(Str.ofString "one", dat v), (Str.ofString "other", dat o)] Op hM rfl rfl rfl rfl rfl (fun uu uu h => h) ?h2 (fun uu uu uu => rfl) (by decide +kernel) (fun x h => h.1) (by decide) ?h3).mono ?_
  case h2 => exact look2 ⟨rfl, rfl, .inl rfl, rfl⟩ ⟨rfl, rfl, .inl rfl, rfl⟩
  case h3 =>
    intro G hG f cv A' base' past' stk' L' O'
    have O' := O'.toG hG
    refine dx_values_equal 18 O' rfl (by first | exact rfl | trivial) (by decide) (takes_cx O' rfl) ?_
    repeat walk_at "dd"
    exact FnP.at up_glob (equal_ok 3 v o hv fv fo) fun d h => h
  rintro d M' ⟨rfl, hd0⟩
  have hd1 : d = resD (alike v o) := by
    rcases hd0 with ⟨b, h1, h2⟩ | ⟨h1, h2⟩
    · rw [h1]; exact h2
    · rw [h2.2]; exact h1
  subst hd1
  repeat walk_at "dd"
  refine df__law_alike 15 O rfl (by first | exact rfl | trivial) (by decide) ?_
  repeat walk_at "dd"
  refine FnP.fnEq up_glob (alike_ok 3 v o hv fv fo) ?_
  have rb : ∀ r, (∃ b, resD r = .bool b) ∨ ∃ x, resD r = .str x := fun r => by
    cases r with
    | none => exact .inr ⟨_, rfl⟩
    | some b => exact .inl ⟨b, rfl⟩
  refine op_ne_bs (rb _) (rb _) ?_
  refine ⟨_, rfl, ite_f (by cases alike v o with | none => rfl | some b => cases b <;> rfl) ?_⟩
  repeat walk_at "dd"
  refine sx_assign_compc Op ?k0 ?k2 ?k0f ?k2f ?kn ?kx ?_ ?ks ?ksw
  case k0 => decide
  case k2 => decide
  case k0f => decide
  case k2f => decide
  case kn => decide +kernel
  case kx => rfl
  case ks => exact fun uu => rfl
  case ksw => rfl
  with_reducible refine ie_lst O ?_
  repeat walk_at "dd"
  intro a ha
  refine ⟨a, _, rfl, upd_same _ _ _, tok_name _ _, fun Lc c Oc => ?_⟩
  have hat : tabA ≠ a := fun z => by rw [← z, hM] at ha; cases ha
  refine comp1_ind (fun i acc M₃ => M₃ = upd M' a [dat v, dat o] ∧ acc = ([v, o].take i).map fun x => keyR (key x)) (fun i e acc M₃ he hi hJ => ?_) (fun acc M₃ hJ => ?_) ⟨rfl, rfl⟩
  · obtain ⟨rfl, rfl⟩ := hJ
    obtain ⟨x, hx, rfl⟩ := dats_some (vs := [v, o]) he
    have hx3 : Mine.ht x ≤ 3 ∧ fit x := by
      match i, hx with
      | 0, hx => cases hx; exact ⟨hv, fv⟩
      | 1, hx => cases hx; exact ⟨ho, fo⟩
    refine ⟨upd_same _ _ _, by rw [List.length_map, List.length_take, sizeLine_eq]; have : min i [v, o].length ≤ 2 := Nat.min_le_right _ _; omega, ?_⟩
    refine (ev_called (Qd := fun d => key x = some d) (X := KeyX (key x)) (n' := 20) (clos := [(Str.ofString "held", c)]) [(Str.ofString "held", dat x)] Oc ((upd_ne hat).trans hM) rfl rfl rfl rfl rfl (fun uu uu h => h) ?h2 (fun uu uu uu => rfl) (by decide +kernel) (fun x h => h.1) (by decide) ?h3).mono ?_
    case h2 => exact look1 ⟨rfl, rfl, .inl rfl, rfl⟩
    case h3 =>
      intro G hG f cv A' base' past' stk' L' O'
      have O' := O'.toG hG
      refine dx_value_key 15 O' rfl (by first | exact rfl | trivial) (by decide) (takes_cx O' rfl) ?_
      repeat walk_at "dd"
      exact FnP.at up_glob (key_ok 3 x hx3.1 hx3.2) fun d h => h
    rintro d M₄ ⟨rfl, hd0⟩
    refine ⟨rfl, ?_⟩
    rw [List.take_add_one, List.map_append, hx]
    have : d = keyR (key x) := by
      rcases hd0 with h | ⟨h1, h2⟩
      · rw [h]; rfl
      · rw [h2.2]; exact h1
    rw [this]; rfl
  obtain ⟨rfl, rfl⟩ := hJ
  refine ⟨upd_same _ _ _, fun b hb => ?_⟩
  repeat walk_at "dd"
  obtain ⟨hbM, hba⟩ := upd_none hb
  have s1 : Sub M' (upd (upd M' a [dat v, dat o]) b (List.map (fun x => keyR (key x)) (List.take [dat v, dat o].length [v, o]))) := ((Sub.refl M').upd ha).upd hbM
  have t1 : upd (upd M' a [dat v, dat o]) b (List.map (fun x => keyR (key x)) (List.take [dat v, dat o].length [v, o])) b = some [keyR (key v), keyR (key o)] := upd_same _ _ _
  generalize upd (upd M' a [dat v, dat o]) b (List.map (fun x => keyR (key x)) (List.take [dat v, dat o].length [v, o])) = M1 at s1 t1 ⊢
  refine ev_comp (fun uu => False) [] O (.inr fun uu x => x) (cl := []) rfl (by decide +kernel) rfl (by decide +kernel) rfl (fun uu uu e => nomatch e) (fun uu uu uu e => nomatch e) ?_ (fun uu => rfl)
  with_reducible refine ie_lst O ?_
  repeat walk_at "dd"
  refine ⟨b, _, rfl, t1, tok_name _ _, by rw [sizeLine_eq]; exact Nat.le_of_ble_eq_true rfl, fun Lc => ?_⟩
  refine comp_ind (fun i acc M₃ => M₃ = M1 ∧ acc = ([v, o].take i).map fun x => D.bool (key x).isNone) (fun i e acc M₃ past Oc he hi hJ => ?_) (fun uu uu uu hJ => hJ.1 ▸ t1) (fun acc M₃ hJ c hc => ?_) ⟨rfl, rfl⟩
  · obtain ⟨rfl, rfl⟩ := hJ
    have hx : ∃ x, [v, o][i]? = some x ∧ e = keyR (key x) ∧ (∀ d, key x = some d → Mine.ht x ≤ 2) := by
      match i, he with
      | 0, he => cases he; exact ⟨v, rfl, rfl, kv⟩
      | 1, he => cases he; exact ⟨o, rfl, rfl, ko⟩
    obtain ⟨x, hx, rfl, hk⟩ := hx
    repeat walk_at "dd"
    refine op_eq_dat 7 (keyR_plain hk).2 (by show A.units + 3 + 7 < cLine; omega) (keyR_plain hk).1 rfl ?_
    refine ⟨rfl, ?_⟩
    rw [List.take_add_one, List.map_append, hx, keyR_panic]; rfl
  obtain ⟨rfl, rfl⟩ := hJ
  have s2 := s1.upd (ds := List.map (fun x => D.bool (key x).isNone) (List.take [keyR (key v), keyR (key o)].length [v, o])) (by
    exact none_of fun es e => by (first | exact (nne (s1 c es e) hc).elim | exact (dd (s1 c es e) hc rfl).elim | obtain rfl := some_inj (s1 c es e) hc | (rw [s1 c es e] at hc; cases hc)))
  have hcb : b ≠ c := fun q => by (first | exact (nb q hc t1).elim | obtain rfl := sb q hc t1 | (rw [q, hc] at t1; cases t1))
  have t2 := (upd_ne (ds := List.map (fun x => D.bool (key x).isNone) (List.take [keyR (key v), keyR (key o)].length [v, o])) hcb).trans t1
  have t3 := upd_same M₃ c (List.map (fun x => D.bool (key x).isNone) (List.take [keyR (key v), keyR (key o)].length [v, o]))
  generalize upd M₃ c (List.map (fun x => D.bool (key x).isNone) (List.take [keyR (key v), keyR (key o)].length [v, o])) = M2 at s2 t2 t3 ⊢
  refine ev_comp (fun uu => False) [] O (.inr fun uu x => x) (cl := []) rfl (by decide +kernel) rfl (by decide +kernel) rfl (fun uu uu e => nomatch e) (fun uu uu uu e => nomatch e) ?_ (fun uu => rfl)
  with_reducible refine ie_lst O ?_
  repeat walk_at "dd"
  intro e he0
  refine ⟨e, _, rfl, upd_same _ _ _, tok_name _ _, by rw [sizeLine_eq]; exact Nat.le_of_ble_eq_true rfl, fun Lc => ?_⟩
  refine comp_ind (fun i acc M₃ => M₃ = upd M2 e [dat v, dat o] ∧ acc = ([v, o].take i).map fun x => D.bool (key x).isNone) (fun i y acc M₃ past Oc he hi hJ => ?_) (fun uu uu uu hJ => hJ.1 ▸ upd_same _ _ _) (fun acc M₃ hJ f hf => ?_) ⟨rfl, rfl⟩
  · obtain ⟨rfl, rfl⟩ := hJ
    obtain ⟨x, hx, rfl⟩ := dats_some (vs := [v, o]) he
    have hx3 : Mine.ht x ≤ 3 ∧ fit x := by
      match i, hx with
      | 0, hx => cases hx; exact ⟨hv, fv⟩
      | 1, hx => cases hx; exact ⟨ho, fo⟩
    repeat walk_at "dd"
    refine df__law_alike 15 Oc rfl (by first | exact rfl | trivial) (by decide) ?_
    repeat walk_at "dd"
    refine FnP.fnEq up_glob (alike_ok 3 x x hx3.1 hx3.2 hx3.2) ?_
    repeat walk_at "dd"
    refine op_eq_dat 0 (resD_plain _).2 (by show A.units + 3 + 0 < cLine; omega) (resD_plain _).1 rfl ?_
    refine ⟨rfl, ?_⟩
    rw [List.take_add_one, List.map_append, hx, alike_panic]; rfl
  obtain ⟨rfl, rfl⟩ := hJ
  obtain ⟨hfM, hfe⟩ := upd_none hf
  have hce : c ≠ e := fun q => by rw [← q, t3] at he0; cases he0
  have hcf : c ≠ f := fun q => by rw [← q, t3] at hfM; cases hfM
  have hbe : b ≠ e := fun q => by rw [← q, t2] at he0; cases he0
  have hbf : b ≠ f := fun q => by rw [← q, t2] at hfM; cases hfM
  refine op_ne_lsts 0 ((upd_ne hcf).trans ((upd_ne hce).trans t3)) (upd_same _ _ _) (by simp [highs, high]) (by show A.units + 3 + 1 + 0 < cLine; omega) rfl rfl ?_
  refine ⟨_, rfl, ite_f (by simp [deqs, deq]) ?_⟩
  repeat walk_at "dd"
  have s3 := (s2.upd (ds := [dat v, dat o]) (s2.none he0)).upd (ds := List.map (fun x => D.bool (key x).isNone) (List.take [dat v, dat o].length [v, o])) (s2.none hfM)
  have t4 : upd (upd M2 e [dat v, dat o]) f (List.map (fun x => D.bool (key x).isNone) (List.take [dat v, dat o].length [v, o])) b = some [keyR (key v), keyR (key o)] := (upd_ne hbf).trans ((upd_ne hbe).trans t2)
  generalize upd (upd M2 e [dat v, dat o]) f (List.map (fun x => D.bool (key x).isNone) (List.take [dat v, dat o].length [v, o])) = M3 at s3 t4 ⊢
  refine ev_or2 ?_
  repeat walk_at "dd"
  refine op_in_lst 7 t4 rfl ?p1 ?p2 (by show A.units + 3 + 1 + 7 < cLine; omega) ?_
  case p1 => simp only [plains, (keyR_plain kv).1, (keyR_plain ko).1]; rfl
  case p2 => simp only [highs]; have := (keyR_plain kv).2; have := (keyR_plain ko).2; omega
  refine ⟨_, rfl, ?_⟩
  have ea : ([keyR (key v), keyR (key o)].any fun y => deq y (D.str (Str.ofString "panic"))) = ((key v).isNone || (key o).isNone) := by
    simp only [List.any_cons, List.any_nil, keyR_panic, Bool.or_false]
  rw [ea]
  cases h1 : key v with
  | none =>
    refine ite_t rfl ?_
    exact ⟨M', s3, rfl, rfl⟩
  | some d =>
  cases h2 : key o with
  | none =>
    refine ite_t rfl ?_
    exact ⟨M', s3, rfl, rfl⟩
  | some d' =>
  refine ite_f rfl ?_
  rw [h1, h2] at t4
  have k1 := key_isKey h1 (kv d h1)
  have k2 := key_isKey h2 (ko d' h2)
  have hal := key_law v o d d' h1 h2
  repeat walk_at "dd"
  refine ev_dget (by show A.units + 3 + 13 < cLine; omega) ?_
  repeat walk_at "dd"
  refine ⟨⟨d, k1⟩, rfl, ?_⟩
  repeat walk_at "dd"
  refine ⟨⟨d', k2⟩, rfl, ?_⟩
  repeat walk_at "dd"
  refine ⟨fun hk => ?_, fun hk => ?_⟩
  · have hdd : d = d' := congrArg Subtype.val hk
    have hal1 : alike v o = some true := by rw [hal, (key_deq ⟨v, h1⟩ ⟨o, h2⟩).mpr hdd]
    rw [hal1]
    repeat walk_at "dd"
    refine op_is_true (.inl ⟨rfl, rfl⟩) ?_
    repeat walk_at "dd"
    refine op_eq_dat 0 (Nat.le_refl _) (by show A.units + 3 + 0 < cLine; omega) rfl rfl ?_
    exact ⟨M', s3, rfl, rfl⟩
  · have hdd : d ≠ d' := fun q => hk (Subtype.ext q)
    have hal1 : alike v o = some false := by
      rw [hal]
      cases z : deq d d' with
      | false => rfl
      | true => exact absurd ((key_deq ⟨v, h1⟩ ⟨o, h2⟩).mp z) hdd
    rw [hal1]
    repeat walk_at "dd"
    refine op_is_true (.inr (.inl ⟨rfl, rfl⟩)) ?_
    repeat walk_at "dd"
    refine op_eq_dat 0 (Nat.le_refl _) (by show A.units + 3 + 0 < cLine; omega) rfl rfl ?_
    exact ⟨M', s3, rfl, rfl⟩
end
section
open PySem PySem.W PyProof.Rows
set_option maxRecDepth 100000
set_option linter.unusedVariables false
theorem getD_some {vs : List V} {i : Nat} (h : i < vs.length) : vs[i]? = some (vs.getD i .nil) := by
  rw [List.getElem?_eq_getElem h]
  simp [List.getD, h]
mutual
theorem fit_calm : ∀ {v : V}, calm v → fit v
  | .nil, _ => trivial
  | .bool _, _ => trivial
  | .int _, _ => trivial
  | .text _, _ => trivial
  | .ptr _ _, _ => trivial
  | .loose _, h => trivial
  | .face _ v, h => fit_calm (v := v) h
  | .many _ vs, h => ⟨h.1, fits_calms h.2⟩
theorem fits_calms : ∀ {vs : List V}, calms vs → fits vs
  | [], _ => trivial
  | v :: vs, h => ⟨fit_calm h.1, fits_calms h.2⟩
end
theorem calms_set : ∀ {vs : List V} {i : Nat} {x : V}, calms vs → calm x → calms (vs.set i x)
  | [], _, _, h, _ => h
  | v :: vs, 0, x, h, hx => ⟨hx, h.2⟩
  | v :: vs, i + 1, x, h, hx => ⟨h.1, calms_set (vs := vs) h.2 hx⟩
theorem fits_set : ∀ {vs : List V} {i : Nat} {x : V}, fits vs → fit x → fits (vs.set i x)
  | [], _, _, h, _ => h
  | v :: vs, 0, x, h, hx => ⟨hx, h.2⟩
  | v :: vs, i + 1, x, h, hx => ⟨h.1, fits_set (vs := vs) h.2 hx⟩
theorem hts_set : ∀ (vs : List V) (i : Nat) (x : V), Mine.hts (vs.set i x) ≤ max (Mine.hts vs) (Mine.ht x)
  | [], _, _ => Nat.zero_le _
  | v :: vs, 0, x => by
    simp only [List.set_cons_zero, Mine.hts]
    exact Nat.max_le.mpr ⟨Nat.le_max_right _ _, Nat.le_trans (Nat.le_max_right _ _) (Nat.le_max_left _ _)⟩
  | v :: vs, i + 1, x => by
    simp only [List.set_cons_succ, Mine.hts]
    exact Nat.max_le.mpr ⟨Nat.le_trans (Nat.le_max_left _ _) (Nat.le_max_left _ _), Nat.le_trans (hts_set vs i x) (Nat.max_le.mpr ⟨Nat.le_trans (Nat.le_max_right _ _) (Nat.le_max_left _ _), Nat.le_max_right _ _⟩)⟩
theorem szs_set' : ∀ (vs : List V) (i : Nat) (x v : V), vs[i]? = some v → szs (vs.set i x) + sz v = szs vs + sz x
  | u :: vs, 0, x, v, h => by simp at h; subst h; simp only [List.set_cons_zero, szs]; omega
  | u :: vs, i + 1, x, v, h => by have := szs_set' vs i x v (by simpa using h); simp only [List.set_cons_succ, szs]; omega
theorem put_calm : ∀ {way : List Nat} {v p : V}, calm v → good way v → calm p → calm (put way v p)
  | [], v, p, _, _, hp => hp
  | i :: way, .face k v, p, h, g, hp => put_calm (v := v) h g.2 hp
  | i :: way, .many s vs, p, h, g, hp => by
    refine ⟨by simpa using h.1, calms_set h.2 (put_calm (calm_at h.2 (getD_some g.1)) g.2.2 hp)⟩
theorem put_fit : ∀ {way : List Nat} {v p : V}, fit v → good way v → fit p → fit (put way v p)
  | [], v, p, _, _, hp => hp
  | i :: way, .face k v, p, h, g, hp => put_fit (v := v) h g.2 hp
  | i :: way, .many s vs, p, h, g, hp => by
    refine ⟨by simpa using h.1, fits_set h.2 (put_fit (fit_at h.2 (getD_some g.1)) g.2.2 hp)⟩
theorem max_up {h a b c : Nat} (q : h ≤ max a (b + c)) : h + 1 ≤ max (a + 1) (b + 1 + c) := by omega
theorem put_ht : ∀ {way : List Nat} {v p : V}, good way v → Mine.ht (put way v p) ≤ max (Mine.ht v) (way.length + Mine.ht p)
  | [], v, p, _ => by simp only [put, List.length_nil]; omega
  | i :: way, .face k v, p, g => by
    have := put_ht (way := way) (v := v) (p := p) g.2
    simp only [put, Mine.ht, List.length_cons]
    exact max_up this
  | i :: way, .many s vs, p, g => by
    have h1 := put_ht (way := way) (v := vs.getD i .nil) (p := p) g.2.2
    have h2 := hts_set vs i (put way (vs.getD i .nil) p)
    have h3 := ht_at (getD_some g.1)
    have h4 : Mine.hts (vs.set i (put way (vs.getD i .nil) p)) ≤ max (Mine.hts vs) (way.length + Mine.ht p) := Nat.le_trans h2 (Nat.max_le.mpr ⟨Nat.le_max_left _ _, Nat.le_trans h1 (Nat.max_le.mpr ⟨Nat.le_trans h3 (Nat.le_max_left _ _), Nat.le_max_right _ _⟩)⟩)
    simp only [put, Mine.ht, List.length_cons]
    exact max_up h4
theorem put_sz : ∀ {way : List Nat} {v p : V}, good way v → sz (put way v p) ≤ sz v + sz p
  | [], v, p, _ => by simp only [put]; omega
  | i :: way, .face k v, p, g => by
    have := put_sz (way := way) (v := v) (p := p) g.2
    simp only [put, sz]; omega
  | i :: way, .many s vs, p, g => by
    have h1 := put_sz (way := way) (v := vs.getD i .nil) (p := p) g.2.2
    have h2 := szs_set' vs i (put way (vs.getD i .nil) p) _ (getD_some g.1)
    simp only [put, sz]; omega
theorem put_key : ∀ {way : List Nat} {v p : V}, good way v → key p = .none → key (put way v p) = .none
  | [], v, p, _, h => h
  | i :: way, .face k v, p, g, h => by
    have := put_key (way := way) (v := v) g.2 h
    simp only [put, key, this]
    split <;> rfl
  | i :: way, .many s vs, p, g, h => by
    have h1 := put_key (way := way) (v := vs.getD i .nil) g.2.2 h
    simp only [put, key]
    rw [keys_none (i := i) (v := put way (vs.getD i .nil) p) (by rw [List.getElem?_set_self g.1]) h1]
    rfl
theorem leaf_fact3 {v : V} (h : v ∈ leaves) : calm v ∧ Mine.ht v = 0 ∧ sz v = 1 := by
  simp only [leaves, List.mem_cons, List.mem_nil_iff, or_false] at h
  rcases h with rfl | rfl | rfl | rfl | rfl | rfl | rfl | rfl | rfl <;> exact ⟨trivial, rfl, rfl⟩
theorem loose_facts {v : V} (h : v ∈ [V.loose 0, .loose 1, .loose 2, .face 2 (.int 5)]) : fit v ∧ Mine.ht v ≤ 1 ∧ key v = .none := by
  simp only [List.mem_cons, List.mem_nil_iff, or_false] at h
  rcases h with rfl | rfl | rfl | rfl
  · exact ⟨trivial, Nat.zero_le _, rfl⟩
  · exact ⟨trivial, Nat.zero_le _, rfl⟩
  · exact ⟨trivial, Nat.zero_le _, rfl⟩
  · exact ⟨trivial, Nat.le_refl _, rfl⟩
end
section
open PySem PySem.W PyProof.Rows
set_option maxRecDepth 100000
set_option linter.unusedVariables false
set_option maxHeartbeats 4000000
variable {w : World} {mg mb : Str → Option Value}
theorem FnX.monoQ {prog : Program} {w : World} {G : Heap → Prop} {f : Value} {n : Nat} {ds : List D} {M : LMap} {Q Q' : D → LMap → Prop} {X : Array UInt8 → Prop} (h : FnX prog w G f n ds M Q X) (k : ∀ d M, Q d M → Q' d M) : FnX prog w G f n ds M Q' X :=
  fun A stk base past s vs E a1 a2 a3 a4 a5 a6 a7 a8 a9 a10 a11 a12 hE => wpAny_mono (h A stk base past s vs E a1 a2 a3 a4 a5 a6 a7 a8 a9 a10 a11 a12 hE) (fun v s' ⟨d, M', T, L, r, q⟩ => ⟨d, M', T, L, r, k _ _ q⟩) fun uu uu x => x
theorem FnX.monoN {prog : Program} {w : World} {G : Heap → Prop} {f : Value} {n n' : Nat} {ds : List D} {M : LMap} {Q : D → LMap → Prop} {X : Array UInt8 → Prop} (h : FnX prog w G f n ds M Q X) (k : n ≤ n') : FnX prog w G f n' ds M Q X :=
  fun A stk base past s vs E a1 a2 a3 => h A stk base past s vs E a1 (by omega) (by omega)
/-- what was watched is watched still -/
noncomputable def Kp (M M' : LMap) (a r : Addr) : Prop := ∀ b ds, b ≠ a → b ≠ r → M b = some ds → M' b = some ds
theorem Kp.refl (M : LMap) (a r : Addr) : Kp M M a r := fun uu uu uu uu h => h
theorem Kp.step {M M₁ M₂ : LMap} {a r : Addr} (k : Kp M M₁ a r) (s : Same M₁ M₂ a r) : Kp M M₂ a r := fun b ds h1 h2 e => (s b h1 h2).trans (k b ds h1 h2 e)
theorem Kp.upd {M M₁ : LMap} {a r c : Addr} {ds : List D} (k : Kp M M₁ a r) (h : M₁ c = .none) : Kp M (Mine.upd M₁ c ds) a r := fun b es h1 h2 e => by
  have := k b es h1 h2 e
  rw [upd_ne (fun q => by rw [q, h] at this; cases this)]
  exact this
theorem Kp.fin {M M₁ : LMap} {a r : Addr} (k : Kp M M₁ a r) (S : Src M₁ a r) : ∃ M', Sub M' M₁ ∧ Src M' a r ∧ Same M M' a r := by
  refine ⟨fun b => if b = a ∨ b = r then M₁ b else M b, fun b ds e => ?_, ?_, fun b h1 h2 => if_neg (fun h => h.elim h1 h2)⟩
  · by_cases h : b = a ∨ b = r
    · simp only [if_pos h] at e; exact e
    · simp only [if_neg h] at e
      exact k b ds (fun q => h (.inl q)) (fun q => h (.inr q)) e
  · refine hide fun uu kg => ?_
    obtain ⟨hne, x, y, rs, h1, h2, h3⟩ := S
    refine kg ?_
    exact ⟨hne, x, y, rs, by rw [if_pos (.inl rfl)]; exact h1, by rw [if_pos (.inr rfl)]; exact h2, h3⟩
theorem dp_pair {prog : Program} {C : Cx} {ρ : Locs} {M : LMap} {n : Nat} {np pos : Pos} {args : List Expr} {Q : D → LMap → Prop} (Op : CxOk (GPair w.params mg mb) C n) (hn : 26 ≤ n) (hx : C.env.kindOf (Str.ofString "_law_pair_right") = some .globalImplicit)
    (he : Heads args C.env)
    (h : Evs prog w C ρ M pos args fun ds M₂ => Fn prog w (GPair w.params mg mb) (.ref 223) 26 ds M₂ Q) : Ev prog w C ρ M (.Call (.Name (Str.ofString "_law_pair_right") np) args [] pos) Q := by
  refine hide fun uu kg => ?_
  obtain ⟨uu, uu, uu, uu, hK⟩ := k__law_pair_right w.params
  refine kg ?_
  exact ev_call (n' := 26) Op (fun uu h => gb_in _ h.1) hn hK (ev_global Op.gb (g__law_pair_right _) (fun uu uu => .raw _) ⟨rfl, h⟩ hx (by decide)) he
/-- two values and what they may be -/
noncomputable def PairOk (v o : V) : Prop := Mine.ht v ≤ 3 ∧ Mine.ht o ≤ 3 ∧ fit v ∧ fit o ∧ (∀ d, key v = some d → Mine.ht v ≤ 2) ∧ (∀ d, key o = some d → Mine.ht o ≤ 2)
theorem PairOk.fn {prog : Program} {M : LMap} {v o : V} {Q : D → LMap → Prop} (h : PairOk v o) (hM : M tabA = some []) (q : Q (.bool true) M) : Fn prog w (GPair w.params mg mb) (.ref 223) 26 [dat v, dat o] M Q := by
  refine hide fun uu kg => ?_
  obtain ⟨h1, h2, h3, h4, h5, h6⟩ := h
  refine kg ?_
  exact (FnX.monoQ (pair_ok M hM v o h1 h2 h3 h4 h5 h6) fun d M' ⟨e1, e2⟩ => by rw [e1, e2]; exact q).fn fun uu x => x
theorem pair_plain {v o : V} (h1 : Mine.ht v ≤ 2) (h2 : Mine.ht o ≤ 2) (h3 : fit v) (h4 : fit o) : PairOk v o := ⟨by omega, by omega, h3, h4, fun uu uu => h1, fun uu uu => h2⟩
theorem values_right_ok {prog : Program} {a r : Addr} {M : LMap} {Q : D → LMap → Prop} (S : Src M a r) (hM : M tabA = some []) (ha : tabA ≠ a) (hr : tabA ≠ r) (q : ∀ M', Src M' a r → Same M M' a r → Q (.bool true) M') :
    Fn prog w (GPair w.params mg mb) (.ref 230) 30 [.lst a] M Q := by
  refine fn_plain (K := hd.heap_39 w.params) (xs := ["source"]) (n := 29) rfl (by rfl) gpair_lim ?hb (by rfl) (by decide) (by rfl) ?_
  case hb => walk_at "fn1"
  intro A base past stk L C Q0 Op
  have O := Op.gb
  have hu : A.units + 3 + 10 * 29 < cLine := O.units
  repeat walk_at "dd"
  refine df__law_value 16 O rfl (by first | exact rfl | trivial) (by decide) ?_
  repeat walk_at "dd"
  refine value_ok 2 M _ (by decide) S fun one M1 hone S1 k1 => ?_
  repeat walk_at "dd"
  refine df__law_places 14 O rfl (by first | exact rfl | trivial) (by decide) ?_
  repeat walk_at "dd"
  obtain ⟨c1, c2, c3⟩ := hone
  refine (places_ok 2 one c1 c2 (Nat.le_trans c3 (by decide))).fnAt up_glob fun c es hc hW => ?_
  obtain ⟨ws, rfl, hw0, hws, hwl⟩ := hW
  have kp1 : Kp M (upd M1 c (ws.map wayD)) a r := ((Kp.refl M a r).step k1).upd hc
  repeat walk_at "dd"
  refine df__law_put 14 O rfl (by first | exact rfl | trivial) (by decide) ?_
  repeat walk_at "dd"
  walk_at "df"
  repeat walk_at "dd"
  refine one_ok (S1.upd hc) (upd_same _ _ _) (S1.neA hc) (by rw [List.length_map]; exact List.length_pos_iff.mpr hw0) (by rw [List.length_map]; have := Nat.le_trans hwl c3; have : cap 2 = 13 := rfl; omega) fun d M2 hd S2 k2 => ?_
  obtain ⟨way, hway, rfl⟩ := List.mem_map.mp hd
  obtain ⟨g1, g2⟩ := hws way hway
  have kp2 := kp1.step k2
  repeat walk_at "dd"
  walk_at "df"
  repeat walk_at "dd"
  refine leaf_ok S2 fun lf M3 hlf S3 k3 => ?_
  have kp3 := kp2.step k3
  obtain ⟨l1, l2, l3⟩ := leaf_fact3 hlf
  repeat walk_at "dd"
  refine FnP.fnEq up_glob (FnX.monoN (put_ok way one lf g1 (by omega)) (by omega)) ?_
  have o1 := put_calm c1 g1 l1
  have o2 : Mine.ht (put way one lf) ≤ 2 := by have := put_ht (p := lf) g1; omega
  have o3 : sz (put way one lf) ≤ 14 := by have := put_sz (p := lf) g1; have : cap 2 = 13 := rfl; omega
  generalize put way one lf = other at o1 o2 o3 ⊢
  repeat walk_at "dd"
  refine df__law_put 14 O rfl (by first | exact rfl | trivial) (by decide) ?_
  repeat walk_at "dd"
  walk_at "df"
  repeat walk_at "dd"
  refine df__law_places 14 O rfl (by first | exact rfl | trivial) (by decide) ?_
  repeat walk_at "dd"
  refine (places_ok 2 other o1 o2 (Nat.le_trans o3 (by decide))).fnAt up_glob fun f fs hf hW => ?_
  obtain ⟨vs, rfl, hv0, hvs, hvl⟩ := hW
  have kp4 : Kp M (upd M3 f (vs.map wayD)) a r := kp3.upd hf
  repeat walk_at "dd"
  refine one_ok (S3.upd hf) (upd_same _ _ _) (S3.neA hf) (by rw [List.length_map]; exact List.length_pos_iff.mpr hv0) (by rw [List.length_map]; omega) fun d M4 hd S4 k4 => ?_
  obtain ⟨way', hway', rfl⟩ := List.mem_map.mp hd
  obtain ⟨g1', g2'⟩ := hvs way' hway'
  have kp5 := kp4.step k4
  repeat walk_at "dd"
  walk_at "df"
  repeat walk_at "dd"
  refine loose_ok S4 fun ls M5 hls S5 k5 => ?_
  have kp6 := kp5.step k5
  obtain ⟨m1, m2, m3⟩ := loose_facts hls
  repeat walk_at "dd"
  refine FnP.fnEq up_glob (FnX.monoN (put_ok way' other ls g1' (by omega)) (by omega)) ?_
  have p1 := put_fit (fit_calm o1) g1' m1
  have p2 : Mine.ht (put way' other ls) ≤ 3 := by have := put_ht (p := ls) g1'; omega
  have p3 : key (put way' other ls) = .none := put_key g1' m3
  generalize put way' other ls = loose at p1 p2 p3 ⊢
  repeat walk_at "dd"
  refine df__law_put 14 O rfl (by first | exact rfl | trivial) (by decide) ?_
  repeat walk_at "dd"
  refine FnP.fnEq up_glob (FnX.monoN (put_ok [] loose loose trivial (by decide)) (by decide)) ?_
  repeat walk_at "dd"
  intro p hp
  have kp7 := kp6.upd (ds := [D.tup [dat one, dat one], D.tup [dat one, dat other], D.tup [dat loose, dat loose], D.tup [dat other, dat loose], D.tup [dat loose, dat (put [] loose loose)]]) hp
  have S6 := S5.upd (ds := [D.tup [dat one, dat one], D.tup [dat one, dat other], D.tup [dat loose, dat loose], D.tup [dat other, dat loose], D.tup [dat loose, dat (put [] loose loose)]]) hp
  have hMp := upd_same M5 p [D.tup [dat one, dat one], D.tup [dat one, dat other], D.tup [dat loose, dat loose], D.tup [dat other, dat loose], D.tup [dat loose, dat (put [] loose loose)]]
  generalize upd M5 p [D.tup [dat one, dat one], D.tup [dat one, dat other], D.tup [dat loose, dat loose], D.tup [dat other, dat loose], D.tup [dat loose, dat (put [] loose loose)]] = M6 at kp7 S6 hMp ⊢
  have t6 : M6 tabA = some [] := kp7 _ _ ha hr hM
  repeat walk_at "dd"
  with_reducible refine sx_for O ?hp ?_ ?hs
  case hp => exact PassesOwn.leaving
  case hs => exact fun uu => rfl
  with_reducible refine ie_lst O ?_
  repeat walk_at "dd"
  refine ⟨p, _, rfl, hMp, tok_tuple _ _ _, ?_⟩
  refine for_ind (fun i ρ' M' => M' = M6) (fun i e ρ' M' he hi hJ => ?_) (fun i ρ' M' hJ => hJ ▸ hMp) (fun ρ' M' hJ => ?_) rfl
  · subst hJ
    have hxy : ∃ x y, e = .tup [dat x, dat y] ∧ PairOk x y := by
      have f1 := fit_calm c1
      have f2 := fit_calm o1
      have kl : ∀ d, key loose = some d → Mine.ht loose ≤ 2 := fun d h => by (first | exact (nne p3 h).elim | exact (dd p3 h rfl).elim | obtain rfl := some_inj p3 h | (rw [p3] at h; cases h))
      match i, he with
      | 0, he => cases he; exact ⟨one, one, rfl, pair_plain c2 c2 f1 f1⟩
      | 1, he => cases he; exact ⟨one, other, rfl, pair_plain c2 o2 f1 f2⟩
      | 2, he => cases he; exact ⟨loose, loose, rfl, p2, p2, p1, p1, kl, kl⟩
      | 3, he => cases he; exact ⟨other, loose, rfl, by omega, p2, f2, p1, fun uu uu => o2, kl⟩
      | 4, he => cases he; exact ⟨loose, loose, rfl, p2, p2, p1, p1, kl, kl⟩
    obtain ⟨x, y, rfl, hxy⟩ := hxy
    refine as_tuple O ?_ rfl rfl rfl
    repeat walk_at "dd"
    refine dp_pair Op (by decide) rfl (by first | exact rfl | trivial) ?_
    repeat walk_at "dd"
    refine hxy.fn t6 ?_
    repeat walk_at "dd"
    exact rfl
  subst hJ
  repeat walk_at "dd"
  with_reducible refine sx_for O ?hp ?_ ?hs
  case hp => exact PassesOwn.leaving
  case hs => exact fun uu => rfl
  with_reducible refine ie_lst O ?_
  repeat walk_at "dd"
  intro h hh
  have kp8 := kp7.upd (ds := [looseD 0, looseD 1, looseD 2]) hh
  have S7 := S6.upd (ds := [looseD 0, looseD 1, looseD 2]) hh
  have hMh := upd_same M' h [looseD 0, looseD 1, looseD 2]
  have t7 : upd M' h [looseD 0, looseD 1, looseD 2] tabA = some [] := kp8 _ _ ha hr hM
  refine ⟨h, _, rfl, hMh, tok_name _ _, ?_⟩
  show ForL prog w _ _ _ (fun M => M h = some [looseD 0, looseD 1, looseD 2]) [looseD 0, looseD 1, looseD 2] _ (upd M' h [looseD 0, looseD 1, looseD 2]) _
  generalize upd M' h [looseD 0, looseD 1, looseD 2] = M7 at kp8 S7 hMh t7 ⊢
  refine for_ind (fun i ρ' M' => M' = M7) (fun i e ρ' M' he hi hJ => ?_) (fun i ρ' M' hJ => hJ ▸ hMh) (fun ρ' M' hJ => ?_) rfl
  · subst hJ
    have hx : ∃ k : Fin 3, e = dat (.loose k) := by
      match i, he with
      | 0, he => cases he; exact ⟨0, rfl⟩
      | 1, he => cases he; exact ⟨1, rfl⟩
      | 2, he => cases he; exact ⟨2, rfl⟩
    obtain ⟨k, rfl⟩ := hx
    repeat walk_at "dd"
    refine dp_pair Op (by decide) rfl (by first | exact rfl | trivial) ?_
    repeat walk_at "dd"
    refine (pair_plain (v := .loose k) (o := .loose k) (Nat.zero_le _) (Nat.zero_le _) trivial trivial).fn t7 ?_
    repeat walk_at "dd"
    refine dp_pair Op (by decide) rfl (by first | exact rfl | trivial) ?_
    repeat walk_at "dd"
    refine (pair_plain (v := .many true [.int 1, .loose k]) (o := .many true [.int 1, .loose k]) (by simp [Mine.ht, Mine.hts]) (by simp [Mine.ht, Mine.hts]) ⟨by simp, trivial, trivial, trivial⟩ ⟨by simp, trivial, trivial, trivial⟩).fn t7 ?_
    repeat walk_at "dd"
    exact rfl
  subst hJ
  repeat walk_at "dd"
  refine dp_pair Op (by decide) rfl (by first | exact rfl | trivial) ?_
  repeat walk_at "dd"
  refine (pair_plain (v := .many true [.int 1, .loose 0]) (o := .many true [.int 2, .loose 0]) (by decide) (by decide) ⟨by decide, trivial, trivial, trivial⟩ ⟨by decide, trivial, trivial, trivial⟩).fn t7 ?_
  obtain ⟨M'', z1, z2, z3⟩ := kp8.fin S7
  exact ⟨M'', z1, q M'' z2 z3⟩
end
section
open PySem PySem.W PyProof.Rows
open PySem.Calls
set_option maxRecDepth 100000
set_option linter.unusedVariables false
section
variable {prog : Program} {w : World} {C : Cx} {s s₁ s' : Shared} {ρ ρ₁ : Locs} {M M₁ : LMap} {G : Heap → Prop} {n : Nat}
/-- a while loop by a measure -/
theorem sx_while {test : Expr} {body : List Stmt} {pos : Pos} {Q : Option D → Locs → LMap → Prop} (hp : PassesOwn (model prog w) C.A C.env C.E) (J : Nat → Locs → LMap → Prop)
    (turn : ∀ k ρ M, J k ρ M → Te prog w C ρ M test fun b M₁ => if b then Ss prog w C ρ M₁ body (fun o ρ₂ M₂ => match o with | some r => Q (some r) ρ₂ M₂ | .none => ∃ k', k' < k ∧ J k' ρ₂ M₂) else Q .none ρ M₁) (k₀ : Nat) (h : J k₀ ρ M) :
    Sx prog w C ρ M (.While test body [] pos) Q := fun s S => by
  have up : ∀ {α : Type} {tr : Sem α} {R : α → Shared → Prop} {s : Shared}, wpAny (model prog w) C.A tr R C.E s → wpAny (model prog w) C.A tr R (notedBy (model prog w) C.A C.env (cameBackBy (model prog w) C.A C.env C.E)) s := fun h => wpAny_passesOwn hp h
  refine wpAny_While (codeAny_whileLoop (fun k s' => ∃ ρ' M', Step C.own C.stk s M s' M' ∧ Sit C s' ρ' M' ∧ J k ρ' M') (fun k s' hI => ?_) k₀ ⟨ρ, M, Step.refl _ _ _ _, S, h⟩)
  refine hide fun uu kg => ?_
  obtain ⟨ρ', M', T, S', hJ⟩ := hI
  refine kg ?_
  refine up (wpAny_mono (turn k ρ' M' hJ s' S') (fun b s₂ P => ?_) fun uu uu x => x)
  refine hide fun uu kg => ?_
  obtain ⟨M₁, T₁, L₁, q⟩ := P
  refine kg ?_
  have S₁ : Sit C s₂ ρ' M₁ := S'.ev T₁ L₁
  have TT := T.trans T₁.weaken
  cases b with
  | false =>
    simp only [Bool.false_eq_true, if_false] at q ⊢
    exact up (wpAny_execs_nil ⟨ρ', M₁, TT, S₁, q⟩)
  | true =>
    simp only [if_true] at q ⊢
    refine up (wpAny_mono (q s₂ S₁) (fun f s₃ P => ?_) fun uu uu x => x)
    refine hide fun uu kg => ?_
    obtain ⟨ρ₃, M₃, T₃, S₃, q₃⟩ := P
    refine kg ?_
    cases f with
    | next =>
      obtain ⟨k', hk, hJ'⟩ := q₃
      exact ⟨k', hk, ρ₃, M₃, TT.trans T₃, S₃, hJ'⟩
    | ret v =>
      obtain ⟨d, r, q⟩ := q₃
      exact ⟨ρ₃, M₃, TT.trans T₃, S₃, d, r, q⟩
    | brk => exact q₃.elim
    | cont => exact q₃.elim
theorem sx_assign2 {x y : Str} {elts : List Expr} {k : Nat} {tpos pos : Pos} {value : Expr} {Q : Option D → Locs → LMap → Prop} (O : CxOk G C n)
    (h : Ev prog w C ρ M value fun d M₁ => ∃ d₁ d₂, d = .tup [d₁, d₂] ∧ Q .none ((x, d₁) :: (y, d₂) :: ρ) M₁) (hx : C.env.kindOf x = some .local ∧ C.env.locals ∈ C.own) (hy : C.env.kindOf y = some .local)
    (hs : swapsWithSole [.Tuple elts k tpos] value pos.line C.env = pure false) (hw : swappedStores [.Tuple elts k tpos] value C.env = pure (some [x, y])) : Sx prog w C ρ M (.Assign [.Tuple elts k tpos] value pos) Q := fun s S => by
  refine Assign_Tuple_swapped (names := [x, y]) (h.use S fun s₁ v d M₁ T S₁ r q => ?_) hs hw
  obtain ⟨d₁, d₂, rfl, q⟩ := q
  obtain ⟨t, vs, rfl, ht, rs⟩ := r.tup_
  obtain ⟨v₁, v₂, rfl, r₁, r₂⟩ := rs.two
  refine unpackItems_tuple (items := #[v₁, v₂]) O.handled ht.tup fun h3 ex => ?_
  have k3 : ∀ b o, s₁.heap.get? b = some o → h3.get? b = some o := fun b o e => ex b o (Nat.ne_of_lt (Heap.lt_size e)) e
  have T3 : Step [] C.stk s₁ M₁ { s₁ with heap := h3, toks := s₁.toks } M₁ := Step.ofKeeps k3
  have S3 : Sit C { s₁ with heap := h3, toks := s₁.toks } ρ M₁ := S₁.ev T3 (S₁.lists.mono k3)
  have m3 : TupsStay s₁.heap h3 := fun b us ⟨j, e⟩ => ⟨j, k3 b _ e⟩
  have r₂' : Rep h3 v₂ d₂ := r₂.mono m3
  have r₁' : Rep h3 v₁ d₁ := r₁.mono m3
  show wpAny _ _ (assignInOrder [bindName C.env y, bindName C.env x] [v₂, v₁]) _ _ { s₁ with heap := h3, toks := s₁.toks }
  refine assignInOrder_cons (wpAny_bindName (wpAny_mono (store_name (R := fun ρ' M' => ρ' = (y, d₂) :: ρ ∧ M' = M₁) O (.inl ⟨hy, hx.2⟩) ⟨rfl, rfl⟩ S3 r₂') (fun uu s₄ P => ?_) fun uu uu x => x))
  obtain ⟨uu, M4, T4, S4, rfl, rfl⟩ := P
  have r₁'' := r₁'.mono (T4.tups S3.own S3.lists S3.frames)
  refine assignInOrder_cons (wpAny_bindName (wpAny_mono (store_name (R := fun ρ' M' => ρ' = (x, d₁) :: (y, d₂) :: ρ ∧ M' = M4) O (.inl hx) ⟨rfl, rfl⟩ S4 r₁'') (fun uu s₅ P => ?_) fun uu uu x => x))
  obtain ⟨uu, uu, T5, S5, rfl, rfl⟩ := P
  refine assignInOrder_nil ⟨_, _, ((T.trans T3).weaken.trans T4).trans T5, S5, q⟩
end
end
section
open PySem PySem.W PyProof.Rows PySem.Spec
open PySem.Calls
set_option maxRecDepth 100000
set_option linter.unusedVariables false
section
variable {prog : Program} {w : World} {C : Cx} {s s₁ s' : Shared} {ρ ρ₁ : Locs} {M M₁ : LMap} {G : Heap → Prop} {n : Nat} {Q : D → LMap → Prop} {QB : Bool → LMap → Prop}
/-- a chain of two comparisons -/
theorem ev_compare2 {l r r' : Expr} {op op' : CmpOp} {pos : Pos} (h : Ev prog w C ρ M l fun d₁ M₁ => Ev prog w C ρ M₁ r fun d₂ M₂ => Op2 prog w C ρ M₂ (compareOp op) d₁ d₂ fun d M₃ => ∃ b, d = .bool b ∧ if b then Ev prog w C ρ M₃ r' fun d₃ M₄ => Op2 prog w C ρ M₄ (compareOp op') d₂ d₃ Q else Q (.bool false) M₃)
    (hm : lastMarks [op, op'] [r, r'] = false) : Ev prog w C ρ M (.Compare l [op, op'] [r, r'] pos) Q := fun s S => by
  refine Compare_chain (h.use S fun s₁ v₁ d₁ M₁ T₁ S₁ r₁ q₁ => ?_) hm
  refine chain_link (Ev.use q₁ S₁ fun s₂ v₂ d₂ M₂ T₂ S₂ r₂ q₂ => ?_)
  refine wpAny_mono (q₂ s₂ v₁ v₂ S₂ (S₁.rep T₂ r₁) r₂) (fun v s₃ P => ?_) fun uu uu x => x
  refine hide fun uu kg => ?_
  obtain ⟨d, M₃, T₃, L₃, r₃, b, hb, q₃⟩ := P
  refine kg ?_
  subst hb
  obtain rfl := r₃.bool_
  have S₃ := S₂.ev T₃ L₃
  refine wpAny_truthy_bool ?_
  cases b with
  | false =>
    rw [if_neg (by decide)] at q₃ ⊢
    exact ⟨_, _, (T₁.trans T₂).trans T₃, L₃, .bool _, q₃⟩
  | true =>
    rw [if_pos rfl] at q₃ ⊢
    refine chain_last (Ev.use q₃ S₃ fun s₄ v₄ d₄ M₄ T₄ S₄ r₄ q₄ => ?_)
    exact to_trans (((T₁.trans T₂).trans T₃).trans T₄) (q₄ s₄ v₂ v₄ S₄ (S₃.rep T₄ (S₂.rep T₃ r₂)) r₄)
theorem te_compare2 {l r r' : Expr} {op op' : CmpOp} {pos : Pos} (h : Ev prog w C ρ M l fun d₁ M₁ => Ev prog w C ρ M₁ r fun d₂ M₂ => Op2 prog w C ρ M₂ (compareOp op) d₁ d₂ fun d M₃ => ∃ b, d = .bool b ∧ if b then Ev prog w C ρ M₃ r' fun d₃ M₄ => Op2 prog w C ρ M₄ (compareOp op') d₂ d₃ fun d M₅ => ∃ b, d = .bool b ∧ QB b M₅ else QB false M₃)
    (hm : lastMarks [op, op'] [r, r'] = false) : Te prog w C ρ M (.Compare l [op, op'] [r, r'] pos) QB := fun s S => by
  refine isTrue_chain (h.use S fun s₁ v₁ d₁ M₁ T₁ S₁ r₁ q₁ => ?_) hm
  refine test_link (Ev.use q₁ S₁ fun s₂ v₂ d₂ M₂ T₂ S₂ r₂ q₂ => ?_)
  refine wpAny_mono (q₂ s₂ v₁ v₂ S₂ (S₁.rep T₂ r₁) r₂) (fun v s₃ P => ?_) fun uu uu x => x
  refine hide fun uu kg => ?_
  obtain ⟨d, M₃, T₃, L₃, r₃, b, hb, q₃⟩ := P
  refine kg ?_
  subst hb
  obtain rfl := r₃.bool_
  have S₃ := S₂.ev T₃ L₃
  refine wpAny_truthy_bool ?_
  cases b with
  | false =>
    rw [if_neg (by decide)] at q₃ ⊢
    exact ⟨_, (T₁.trans T₂).trans T₃, L₃, q₃⟩
  | true =>
    rw [if_pos rfl] at q₃ ⊢
    refine test_last (Ev.use q₃ S₃ fun s₄ v₄ d₄ M₄ T₄ S₄ r₄ q₄ => ?_)
    refine wpAny_mono (q₄ s₄ v₂ v₄ S₄ (S₃.rep T₄ (S₂.rep T₃ r₂)) r₄) (fun v s₅ P => ?_) fun uu uu x => x
    refine hide fun uu kg => ?_
    obtain ⟨d, M₅, T₅, L₅, r₅, b, hb, q₅⟩ := P
    refine kg ?_
    subst hb
    obtain rfl := r₅.bool_
    exact wpAny_truthy_bool ⟨_, (((T₁.trans T₂).trans T₃).trans T₄).trans T₅, L₅, q₅⟩
/-- an octet of bytes -/
theorem op_item_bytes {value slice : Expr} {b : Array UInt8} {i : Int} (hfit : b.size ≤ 1099511627776) (h0 : 0 ≤ i) (h1 : i < b.size) (q : Q (.int ((b.toList.getD i.toNat 0).toNat : Nat)) M)
    (hs : ∀ o i, subscripted slice false o i = operate [o, i] (getItem o i)) (ht : ∀ b t r, letTemporaryGo value (.bytes b t) r = pure ()) : Op2 prog w C ρ M (subscriptTail value slice) (.bytes b) (.int i) Q := fun s v₁ v₂ S r₁ r₂ => by
  obtain ⟨t, rfl⟩ := r₁.bytes_
  obtain ⟨u, rfl⟩ := r₂.int_
  obtain ⟨l⟩ := b
  refine KBy.item_N (by simpa using hfit) h0 (by simpa using h1) (Post.same S.lists (.int _ _) q) (hs _ _) (ht _ _)
theorem op_add_bytes {b c : Array UInt8} (hsz : b.size + c.size ≤ 16777216) (q : Q (.bytes (b ++ c)) M) : Op2 prog w C ρ M (binaryOp .Add) (.bytes b) (.bytes c) Q := fun s v₁ v₂ S r₁ r₂ => by
  obtain ⟨uu, rfl⟩ := r₁.bytes_; obtain ⟨uu, rfl⟩ := r₂.bytes_
  exact KBy.add_bytes hsz fun t' k => Post.same S.lists (.bytes _ _) q
theorem op_bytes_lst {a : Addr} {ns : List Int} (O : CxOk G C n) (hM : M a = some (ns.map D.int)) (hr : ∀ n ∈ ns, 0 ≤ n ∧ n < 256) (hz : ns.length ≤ sizeLine) (q : Q (.bytes (byteArr ns)) M) : OpN prog w C ρ M (fun vs => PySem.call (.type "bytes") vs) [.lst a] Q := fun s vs S rs => by
  obtain ⟨v, rfl, r⟩ := rs.one
  refine hide fun uu kg => ?_
  obtain ⟨uu, ws, hl, rs'⟩ := S.lists.lst hM r
  refine kg ?_
  obtain ⟨rfl, uu⟩ := r.lst_
  refine call_bytes_ints hl.list (ints_of rs') hr (by rw [rs'.length]; simpa using hz) O.handled fun h' t k hk => ?_
  exact Post.keeps (tk := k) S.lists hk (.bytes _ _) q
theorem op_chr {i : Int} (h0 : 0 ≤ i) (h1 : i ≤ 1114111) (q : Q (.str ⟨#[i.toNat]⟩) M) : OpN prog w C ρ M (fun vs => PySem.call (.builtin "chr") vs) [.int i] Q := fun s vs S rs => by
  obtain ⟨v, rfl, r⟩ := rs.one
  obtain ⟨uu, rfl⟩ := r.int_
  exact chr_of_range h0 h1 (Post.same S.lists (.str _ _) q)
theorem op_int_bool {b : Bool} (q : Q (.int (if b then 1 else 0)) M) : OpN prog w C ρ M (fun vs => PySem.call (.type "int") vs) [.bool b] Q := fun s vs S rs => by
  obtain ⟨v, rfl, r⟩ := rs.one
  obtain rfl := r.bool_
  exact call_int_bool (Post.same S.lists (.int _ _) q)
theorem op_mul_lst {a : Addr} {ds : List D} {x : Int} (hM : M a = some ds) (h0 : 0 ≤ x) (hne : ds ≠ []) (hsz : ds.length * x.toNat ≤ 2 ^ 24) (q : ∀ c, M c = .none → Q (.lst c) (upd M c (List.replicate x.toNat ds).flatten)) : Op2 prog w C ρ M (binaryOp .Mult) (.lst a) (.int x) Q := fun s v₁ v₂ S r₁ r₂ => by
  refine hide fun uu kg => ?_
  obtain ⟨uu, ws, ⟨k, ho⟩, rs⟩ := S.lists.lst hM r₁
  refine kg ?_
  obtain ⟨rfl, uu⟩ := r₁.lst_
  obtain ⟨u, rfl⟩ := r₂.int_
  have hl := rs.length
  have hsz' : ws.toArray.size * x.toNat ≤ 2 ^ 24 := by simpa [hl] using hsz
  have hx : x < 2 ^ 63 := by
    have : 1 ≤ ds.length := by cases ds with | nil => exact absurd rfl hne | cons => simp
    have : x.toNat ≤ ds.length * x.toNat := Nat.le_mul_of_pos_left _ (by omega)
    omega
  have ho' : s.heap.get? a = some { cls := .type "list", dict := none, data := .seq ws.toArray k, slots := #[] } := ho
  refine wpAny_binaryOp_repeat_ref (T := "list") (U := "int") (by decide) ⟨_, ho', rfl⟩ (fun s' => typeIs_int s' x u) noFill_list_mul F.fills_int_mul F.slot_int_rmul repeat_list F.slot_int_index.lookup
    (PySem.call_meets F.slot_int_rmul (typeIs_int s x u) F.entry_int_rmul (F.args_int_rmul_2 _ _) (int___rmul___int_list x u a ws.toArray k)
      ⟨ho', rfl, ⟨_, ho', rfl⟩, PySem.call_meets F.slot_list_mul ⟨_, ho', rfl⟩ F.entry_list_mul (F.args_list_mul_2 _ _)
        (AutoListH.list___mul___list_int_3 a ws.toArray k x u (by simp [Builtin.List.listFitsIndex]; omega) (by omega) (by simp only [Builtin.List.listTooLong, sizeLine]; simpa using hsz'))
        ⟨ho', ?_⟩⟩)
  have e : ws.toArray.isEmpty = false := by
    have : ws ≠ [] := fun z => hne (by rw [z] at hl; exact List.length_eq_zero_iff.mp hl.symm)
    simpa using this
  rw [e]
  simp only [Bool.false_eq_true, if_false, listMul_foldl]
  refine Post.newList (tk := s.toks) (vs := (List.replicate x.toNat ws).flatten) S (fun b o e => Heap.get?_push_of_some _ e) (get?_size_none _) ⟨_, Heap.get?_push_size _ rfl⟩ ?_ q
  have : ∀ j, Reps s.heap (List.replicate j ws).flatten (List.replicate j ds).flatten := fun j => by
    induction j with
    | zero => exact .nil
    | succ j ih => simpa [List.replicate_succ] using rs.append ih
  exact this _
end
end
section
open PySem PySem.W PyProof.Rows PySem.Spec
open PySem.Calls
set_option maxRecDepth 100000
set_option linter.unusedVariables false
theorem slot_join : Slot "bytes" "join" "bytes.join" :=
  .of (owner := "bytes") (n := "join") (by rw [typeLookup_type, builtinLookup_eq_fast]; kernel_rfl) (by decide +kernel) (by decide +kernel) (by decide +kernel)
    (by first | exact .inl (by decide +kernel) | exact .inr (by decide +kernel)) (by rw [isSubtype_type]; kernel_rfl)
theorem type_join : typeOf (.builtin "bytes.join") = pure (.type "method_descriptor") := by show builtinType _ = _; rw [builtinType_eq_fast]; kernel_rfl
theorem entry_join : entryFor table "bytes.join" = some Builtin.«bytes.join» := entryFor_of_tree (by kernel_rfl)
theorem args_join (a b : Value) : argsOk "bytes.join" ⟨[a, b], []⟩ := by
  unfold argsOk; rw [signature?_of (id := "bytes.join") (n := ['n', 'i', 'o', 'j']) (o := ['s', 'e', 't', 'y', 'b']) (by kernel_rfl) FB.owner_bytes]; kernel_rfl
theorem taken (id : String) (b : Array UInt8) (t : Tok) : Builtin.Bytes.takeBufferQuiet? id (.bytes b t) 0 = pure (some (b, none)) := by
  unfold Builtin.Bytes.takeBufferQuiet? Builtin.Bytes.takeBuffer?
  rw [KBy.special_eq KBy.look_buffer, KBy.own_buffer, show ((0 : Int) == Builtin.Bytes.fullReadOnly) = false from by decide, KBy.buffer_eq]
  rfl
section
variable {prog : Program} {w : World} {C : Cx} {s s₁ s' : Shared} {ρ ρ₁ : Locs} {M M₁ : LMap} {G : Heap → Prop} {n : Nat} {Q : D → LMap → Prop} {QB : Bool → LMap → Prop}
theorem op_not {b : Bool} (q : Q (.bool (!b)) M) : Op1 prog w C ρ M (unaryOp .Not) (.bool b) Q := fun s uu S r₁ => by
  obtain rfl := r₁.bool_
  show wpAny _ _ (do return Value.bool (!(← truthy (.bool b)))) _ _ s
  exact wpAny_bind (wpAny_truthy_bool (wpAny_pure (Post.same (tk := s.toks) S.lists (.bool _) q)))
theorem joinLetGo_ {A : Around} {E : Value → Shared → Prop} {keep : List Value} {R : Unit → Shared → Prop} : ∀ (l : List (Value × Option Value)), (∀ x ∈ l, x.2 = none) → R () s → wpAny (model prog w) A (Builtin.Bytes.joinLetGo l keep) R E s
  | [], _, h => wpAny_pure h
  | (x, .none) :: rest, hl, h => by
    unfold Builtin.Bytes.joinLetGo
    refine wpAny_bind (wpAny_letGo ?_)
    exact joinLetGo_ rest (fun y hy => hl y (.tail _ hy)) h
  | (x, .some _) :: rest, hl, h => by have := hl _ (.head _); cases this
theorem bytes_at {h : Heap} : ∀ {ws : List Value} {bs : List (Array UInt8)}, Reps h ws (bs.map D.bytes) → ∀ j, j < ws.length → ∃ b u, bs[j]? = some b ∧ ws.toArray.getD j .none = .bytes b u ∧ ws[j]? = some (.bytes b u)
  | _, [], r, j, hj => by obtain rfl := r.nil_; exact absurd hj (Nat.not_lt_zero _)
  | _, b :: bs, r, 0, _ => by obtain ⟨uu, uu, rfl, r, rs⟩ := Reps.cons_ r; obtain ⟨uu, rfl⟩ := r.bytes_; exact ⟨_, _, rfl, rfl, rfl⟩
  | _, b :: bs, r, j + 1, hj => by
    obtain ⟨uu, uu, rfl, r, rs⟩ := Reps.cons_ r
    refine hide fun uu kg => ?_
    obtain ⟨c, u, h1, h2, h3⟩ := bytes_at rs j (by simpa using hj)
    refine kg ?_
    exact ⟨c, u, by simpa using h1, by simpa using h2, by simpa using h3⟩
theorem bytes_heap {h : Heap} : ∀ {ws : List Value} {bs : List (Array UInt8)}, Reps h ws (bs.map D.bytes) → ∀ v ∈ ws, v.onHeap = false
  | _, [], r, v, hv => by obtain rfl := r.nil_; cases hv
  | _, b :: bs, r, v, hv => by
    obtain ⟨uu, uu, rfl, r, rs⟩ := Reps.cons_ r
    rcases List.mem_cons.mp hv with rfl | hv
    · obtain ⟨uu, rfl⟩ := r.bytes_; rfl
    · exact bytes_heap rs v hv
theorem join_end {A : Around} {E : Value → Shared → Prop} {R : Result → Shared → Prop} {id : String} {bs : List (Array UInt8)} {p : Array (Array UInt8)} {tk : List (Value × Option Value)} (h1 : p = bs.toArray) (h2 : ∀ x ∈ tk, x.2 = none) (hsz : bs.foldl (· + ·.size) 0 ≤ 16777216)
    (h : ∀ t k, R (.ok (.ret (.bytes (Builtin.Bytes.joined #[] bs) t))) { s with toks := k }) : wpAny (model prog w) A
    (if Builtin.Bytes.tooLong (Array.foldl (fun x1 x2 => x1 + x2.size) ((#[] : Array UInt8).size * (p.size - 1)) p) = true then do
      unsupported (toString id ++ toString ":memory")
      let result ← Builtin.Bytes.Kind.bytes.new (Builtin.Bytes.joined #[] p.toList)
      holding (result :: List.flatMap (fun x => x.fst :: x.snd.toList) tk) point
      Builtin.Bytes.joinLetGo tk [result]
      ret result
    else do
      let result ← Builtin.Bytes.Kind.bytes.new (Builtin.Bytes.joined #[] p.toList)
      holding (result :: List.flatMap (fun x => x.fst :: x.snd.toList) tk) point
      Builtin.Bytes.joinLetGo tk [result]
      ret result)
    (fun fin s' => ∃ v, fin = Fin.done (Flow.ret v) ∧ R (Except.ok (Flow.ret v)) s') E s := by
  subst h1
  have e : Array.foldl (fun x1 x2 => x1 + x2.size) ((#[] : Array UInt8).size * (bs.toArray.size - 1)) bs.toArray = bs.foldl (· + ·.size) 0 := by
    rw [show (#[] : Array UInt8).size * (bs.toArray.size - 1) = 0 from Nat.zero_mul _]
    simp
  rw [e, PySem.W.KBy.tooLong_not hsz, if_neg Bool.false_ne_true]
  have hj : ∀ (l : List (Array UInt8 × Nat)) (acc : Array UInt8), (l.foldl (fun out x => (if x.2 > 0 then out ++ (#[] : Array UInt8) else out) ++ x.1) acc).size = acc.size + (l.map (·.1.size)).sum := fun l => by
    induction l with
    | nil => intro acc; simp
    | cons x l ih =>
      intro acc
      rw [List.foldl_cons, ih]
      split <;> simp <;> omega
  have hf : ∀ (l : List (Array UInt8)) (n : Nat), l.foldl (· + ·.size) n = n + (l.map (·.size)).sum := fun l => by
    induction l with
    | nil => intro n; simp
    | cons x l ih => intro n; rw [List.foldl_cons, ih]; simp; omega
  have hz : (Builtin.Bytes.joined #[] bs).size ≤ sizeLine := by
    have h1 : (Builtin.Bytes.joined #[] bs).size = (#[] : Array UInt8).size + (bs.zipIdx.map (·.1.size)).sum := hj bs.zipIdx #[]
    have h2 : bs.zipIdx.map (·.1.size) = bs.map (·.size) := by
      rw [show (fun x : Array UInt8 × Nat => x.1.size) = (·.size) ∘ Prod.fst from rfl, ← List.map_map, List.zipIdx_map_fst]
    have h3 := hf bs 0
    rw [h1, h2, sizeLine_eq]
    rw [h3] at hsz
    simpa using hsz
  refine wpAny_bind ?_
  show wpAny _ _ (mkBytes (Builtin.Bytes.joined #[] bs.toArray.toList)) _ _ s
  refine wpAny_mkBytes ?_ hz
  refine wpAny_bind (wpAny_holding (wpAny_point ?_))
  refine wpAny_bind (joinLetGo_ _ h2 ?_)
  exact wpAny_pure ⟨_, rfl, h _ _⟩
theorem meets_join {a : Addr} {t : Tok} {bs : List (Array UInt8)} {ws : List Value} {k : Nat} : Meets (Builtin.«bytes.join» ⟨[.bytes #[] t, .ref a], []⟩) (fun uu R s => s.heap.get? a = some (lstO ws.toArray k) ∧ Reps s.heap ws (bs.map D.bytes) ∧ bs.foldl (· + ·.size) 0 ≤ 16777216 ∧ (∀ t k, R (.ok (.ret (.bytes (Builtin.Bytes.joined #[] bs) t))) { s with toks := k })) := by
  refine .of_wp fun prog w A R s hS => ?_
  refine hide fun uu kg => ?_
  obtain ⟨ho, rs, hsz, h⟩ := hS
  refine kg ?_
  have hT : s.TypeIs (.ref a) "list" := ⟨_, ho, rfl⟩
  have hlen := rs.length
  rw [List.length_map] at hlen
  show wpAny _ _ (Builtin.Bytes.joinM .bytes ⟨[.bytes #[] t, .ref a], []⟩) _ _ s
  unfold Builtin.Bytes.joinM
  refine wpAny_bind (wpAny_of_eq (a := (Value.bytes #[] t, Value.ref a)) rfl ?_)
  dsimp only
  refine wp_tt (show (Builtin.Bytes.Kind.bytes == Builtin.Bytes.Kind.bytes) = true from rfl) ?_
  refine wpAny_bind ?_
  unfold Builtin.Bytes.joinItems
  refine wpAny_bind (wpAny_typeOf hT ?_)
  refine wp_tt (show ((Value.type "list" == Value.type "list") || (Value.type "list" == Value.type "tuple")) = true from by decide) ?_
  refine wpAny_pure (wpAny_bind (wpAny_seqItems ho rfl ?_))
  dsimp only
  refine wp_tt (show (Builtin.Bytes.Kind.bytes == Builtin.Bytes.Kind.bytes) = true from rfl) ?_
  match ws, bs, rs, hlen, ho with
  | [x], [b], .cons r .nil, _, ho =>
    cases r with | bytes _ u =>
    refine wpAny_bind (wpAny_typeOf (T := "bytes") rfl ?_)
    refine wp_tt (show (Value.type "bytes" == Value.type "bytes") = true from by decide) ?_
    refine wpAny_bind (wpAny_rule (wpAny_pure ⟨_, rfl, ?_⟩))
    have e : Builtin.Bytes.joined #[] [b] = b := by
      show #[] ++ b = b
      exact Array.empty_append
    have := h u s.toks
    rw [e] at this
    exact this
  | [], [], _, _, ho =>
    rw [show ([] : List Value).toArray.size = 0 from rfl, PySem.W.KPc.range_list, show List.range' 0 0 1 = [] from rfl, List.forIn_nil]
    refine wpAny_bind (wpAny_pure ?_)
    refine wpAny_bind (wpAny_of_eq (a := (#[] : Array UInt8)) rfl ?_)
    exact join_end (bs := []) (p := #[]) (tk := []) rfl (fun uu h => nomatch h) hsz h
  | x :: y :: zs, bs, rs, hlen, ho =>
    refine wpAny_bind ?_
    generalize hW : x :: y :: zs = W at rs hlen ho ⊢
    rw [PySem.W.KPc.range_list]
    have hwz : W.toArray.size = W.length := by simp
    refine wpAny_forIn_list _ (fun rest st s' => ∃ j, j ≤ W.length ∧ rest = List.range' j (W.length - j) ∧ s' = s ∧ st.1 = (bs.take j).toArray ∧ (∀ x ∈ st.2, x.2 = none ∧ x.1.onHeap = false)) _ ?_ ?_ _ _ ?_
    · intro i rest st s' hI
      obtain ⟨p, tk⟩ := st
      refine hide fun uu kh => ?_
      obtain ⟨j, hj, hr, hs', h1, h2⟩ := hI
      have hj' : j < W.length := by
        rcases Nat.lt_or_ge j W.length with h | h
        · exact h
        · rw [show W.length - j = 0 by omega] at hr; cases hr
      rw [show W.length - j = (W.length - (j + 1)) + 1 by omega, List.range'_succ] at hr
      obtain ⟨hi, hrest⟩ := List.cons.inj hr
      obtain ⟨b, u, g1, g2, g3⟩ := bytes_at rs j hj'
      have hany : (tk.any fun x => x.1.onHeap) = false := by
        rw [List.any_eq_false]
        intro y hy
        rw [(h2 y hy).2]; exact Bool.false_ne_true
      refine kh ?_
      subst hi
      subst hrest
      subst hs'
      refine wpAny_bind (wpAny_seqItems ho rfl ?_)
      dsimp only at h1 ⊢
      refine wp_ff (by rw [hany]; decide) ?_
      refine wpAny_bind (wpAny_holding (wpAny_of_eq (a := some (b, none)) (by rw [g2]; exact taken _ b u) ?_))
      dsimp only
      refine wpAny_bind (wpAny_seqItems ho rfl ?_)
      dsimp only
      refine wp_ff (by simp) ?_
      refine wpAny_pure ?_
      refine ⟨i + 1, hj', rfl, rfl, ?_, fun y hy => ?_⟩
      · show p.push b = _
        rw [h1, List.take_add_one, g1]; simp
      · rcases List.mem_append.mp hy with hy | hy
        · exact h2 y hy
        · rw [List.mem_singleton.mp hy]; exact ⟨rfl, by rw [g2]; rfl⟩
    · intro st s' hI
      obtain ⟨p, tk⟩ := st
      refine hide fun uu kh => ?_
      obtain ⟨j, hj, hr, hs', h1, h2⟩ := hI
      subst hs'
      refine kh ?_
      have hj' : j = W.length := by
        rcases Nat.lt_or_ge j W.length with h | h
        · rw [show W.length - j = (W.length - (j + 1)) + 1 by omega, List.range'_succ] at hr; cases hr
        · omega
      rw [hj', hlen, List.take_length] at h1
      refine wpAny_bind (wpAny_of_eq (a := (#[] : Array UInt8)) rfl ?_)
      exact join_end h1 (fun x hx => (h2 x hx).1) hsz h
    · exact ⟨0, Nat.zero_le _, by simp [List.range'_eq_map_range], rfl, by simp, fun uu h => nomatch h⟩
theorem op_join {a : Addr} {bs : List (Array UInt8)} (hM : M a = some (bs.map D.bytes)) (hsz : bs.foldl (· + ·.size) 0 ≤ 16777216) (q : Q (.bytes (Builtin.Bytes.joined #[] bs)) M) : OpN prog w C ρ M (fun vs => PySem.call (.builtin "bytes.join") vs) [.bytes #[], .lst a] Q := fun s vs S rs => by
  obtain ⟨v₁, v₂, rfl, r₁, r₂⟩ := rs.two
  refine hide fun uu kg => ?_
  obtain ⟨uu, ws, hl, rs'⟩ := S.lists.lst hM r₂
  refine kg ?_
  obtain ⟨t, rfl⟩ := r₁.bytes_
  obtain ⟨rfl, uu⟩ := r₂.lst_
  obtain ⟨k, ho⟩ := id hl
  exact PySem.call_meets slot_join (typeIs_bytes _ _ _) entry_join (args_join _ _) meets_join ⟨ho, rs', hsz, fun t k => Post.same S.lists (.bytes _ _) q⟩
end
end
section
open PySem PySem.W PyProof.Rows PySem.Spec
open PySem.Calls
set_option maxRecDepth 100000
set_option linter.unusedVariables false
theorem picked_upto (b : Array UInt8) (k : Nat) (hk : k < b.size) : KBy.picked b none (some (k : Int)) = (b.toList.take k).toArray ∧ KBy.whole b none (some (k : Int)) = false := by
  have e : sliceBounds none (some (k : Int)) none b.size = (0, (k : Int), 1) := by
    unfold sliceBounds
    simp only [Option.getD_none]
    have h1 : ¬ ((k : Int) < 0) := by omega
    have h2 : max 0 (min (k : Int) (b.size : Int)) = k := by omega
    simp [h1, h2]
  unfold KBy.picked KBy.whole
  rw [e]
  constructor
  · unfold Builtin.Bytes.sliced
    congr 1
    have hr : sliceRange (0, (k : Int), (1 : Int)).1 (0, (k : Int), (1 : Int)).2.1 (0, (k : Int), (1 : Int)).2.2 = List.range k := by
      show sliceRange 0 (k : Int) 1 = _
      unfold sliceRange
      dsimp only
      have hc : (if (1 : Int) > 0 then (if (0 : Int) < k then ((k : Int) - 0 + 1 - 1) / 1 else 0) else (if (0 : Int) > k then (0 - (k : Int) - 1 - 1) / (-1) else 0)).toNat = k := by
        rw [if_pos (by decide)]
        split
        · simp
        · omega
      rw [hc]
      have : ∀ l : List Nat, l.map (fun (j : Nat) => ((0 : Int) + 1 * (j : Int)).toNat) = l := fun l => by
        induction l with
        | nil => rfl
        | cons x l ih => rw [List.map_cons, ih]; simp
      exact this _
    rw [hr]
    clear hr e
    induction k with
    | zero => simp
    | succ k ih =>
      rw [List.range_succ, List.filterMap_append, ih (by omega), List.take_add_one]
      have : b[k]? = some b[k] := Array.getElem?_eq_getElem (by omega)
      simp [this]
  · have : ((k : Int) == (b.size : Int)) = false := by simp; omega
    simp [this]
section
variable {prog : Program} {w : World} {C : Cx} {s s₁ s' : Shared} {ρ ρ₁ : Locs} {M M₁ : LMap} {G : Heap → Prop} {n : Nat} {Q : D → LMap → Prop} {QB : Bool → LMap → Prop}
theorem ev_slice_bytes {value hi : Expr} {p pos : Pos} (h : Ev prog w C ρ M value fun d₁ M₁ => Ev prog w C ρ M₁ hi fun d₂ M₂ => ∃ (b : Array UInt8) (k : Nat), d₁ = .bytes b ∧ d₂ = .int k ∧ k < b.size ∧ b.size ≤ 16777216 ∧ Q (.bytes (b.toList.take k).toArray) M₂)
    (hs : ∀ o i, subscripted (.Slice none (some hi) none p) false o (.ref i) = operate [.ref i, o] (getItem o (.ref i))) (ht : ∀ b t r, letTemporaryGo value (.bytes b t) r = pure ()) : Ev prog w C ρ M (.Subscript value (.Slice none (some hi) none p) pos) Q := fun s S => by
  refine Subscript_ (h.use S fun s₁ v₁ d₁ M₁ T₁ S₁ r₁ q₁ => ?_)
  rw [arm_eval_Slice]
  refine wpAny_bind (wpAny_pure (wpAny_bind (wpAny_holding (Ev.use q₁ S₁ fun s₂ v₂ d₂ M₂ T₂ S₂ r₂ q₂ => ?_))))
  obtain ⟨b, k, rfl, rfl, h1, hsz, q⟩ := q₂
  refine wpAny_bind (wpAny_holding (wpAny_pure ?_))
  unfold newFields
  have r₁' := S₁.rep T₂ r₁
  obtain ⟨t, rfl⟩ := r₁'.bytes_
  obtain ⟨u, rfl⟩ := r₂.int_
  · skip
    refine wpAny_newObj_type ?_ (by size_fits)
    have ek : ∀ b o, s₂.heap.get? b = some o → (s₂.heap.push { cls := .type "slice", data := .fields #[.none, .int k u, .none] }).get? b = some o := fun uu uu e => Heap.get?_push_of_some _ e
    obtain ⟨e1, e2⟩ := picked_upto b k h1
    have hz : (KBy.picked b none (some (k : Int))).size ≤ 16777216 := by rw [e1]; simp; omega
    refine tail_of_ItemOn (s := { s₂ with heap := s₂.heap.push { cls := .type "slice", data := .fields #[.none, .int k u, .none] } }) ⟨"bytes", _, FB.slot_bytes_getitem.lookup, typeIs_bytes _ _ _, getItem_meets (typeIs_bytes _ _ _) (by decide) FB.slot_bytes_getitem FB.entry_bytes_getitem (FB.args_bytes_getitem_2 _ _) (KBy.meets_slice b t _ .none (.int (k : Int) u) e2)
      ⟨Heap.IsSliceOf.new _ _ _ _, by rw [sizeLine_eq]; exact hz, ?_⟩⟩ (hs _ _) (ht _ _)
    rw [e1]
    exact Post.trans (T₁.trans T₂) (Post.keeps S₂.lists ek (.bytes _ _) q)
/-- a text in utf-8 -/
noncomputable def Utf (x : Str) (b : Array UInt8) : Prop := (∀ t, Builtin.«str.encode» ⟨[.str x t], []⟩ = (do ret (← mkBytes b))) ∧ b.size ≤ 100
theorem op_utf {x : Str} {b : Array UInt8} (hx : Utf x b) (q : Q (.bytes b) M) : OpN prog w C ρ M (fun vs => PySem.call (.builtin "str.encode") vs) [.str x] Q := fun s vs S rs => by
  obtain ⟨v, rfl, r⟩ := rs.one
  obtain ⟨t, rfl⟩ := r.str_
  refine PySem.call_meets F.slot_str_encode (typeIs_str _ _ _) F.entry_str_encode (F.args_str_encode_1 _) (S := fun uu R s => R (.ok (.ret (.bytes b s.toks))) { s with toks := s.toks + 1 }) (.of_wp fun prog w A R s hS => ?_) (Post.same S.lists (.bytes _ _) q)
  rw [hx.1]
  exact wpAny_bind (wpAny_mkBytes (wpAny_pure ⟨_, rfl, hS⟩) (by have := hx.2; rw [sizeLine_eq]; omega))
theorem utf1 : Utf ⟨#[127]⟩ #[127] := ⟨fun t => by kernel_rfl, by decide⟩
theorem utf2 : Utf ⟨#[128]⟩ #[194, 128] := ⟨fun t => by kernel_rfl, by decide⟩
theorem utf3 : Utf ⟨#[2047]⟩ #[223, 191] := ⟨fun t => by kernel_rfl, by decide⟩
theorem utf4 : Utf ⟨#[2048]⟩ #[224, 160, 128] := ⟨fun t => by kernel_rfl, by decide⟩
theorem utf5 : Utf ⟨#[65535]⟩ #[239, 191, 191] := ⟨fun t => by kernel_rfl, by decide⟩
theorem utf6 : Utf ⟨#[65536]⟩ #[240, 144, 128, 128] := ⟨fun t => by kernel_rfl, by decide⟩
theorem utf7 : Utf ⟨#[1114111]⟩ #[244, 143, 191, 191] := ⟨fun t => by kernel_rfl, by decide⟩
theorem utf8 : Utf ⟨#[55295]⟩ #[237, 159, 191] := ⟨fun t => by kernel_rfl, by decide⟩
theorem utf9 : Utf ⟨#[57344]⟩ #[238, 128, 128] := ⟨fun t => by kernel_rfl, by decide⟩
end
end
local macro_rules | `(tactic| walk_at "nm") => `(tactic| ((with_reducible refine' ev_name ?h1 ?_ ?h2 ?h3 ?h4); (case h1 => assumption); (case h2 => rfl); (case h3 => rfl); (case h4 => rfl)))
local macro_rules | `(tactic| walk_at "ch") => `(tactic| first
  | ((with_reducible refine ev_compare2 ?_ ?h1); (case h1 => rfl))
  | ((with_reducible refine te_compare2 ?_ ?h1); (case h1 => rfl))
  | (with_reducible refine op_not ?_)
  | (with_reducible refine op_int_bool ?_)
  | (with_reducible refine op_neg ?_)
  | (with_reducible refine ev_and2 ?_)
  | (with_reducible refine ev_or2 ?_))
local macro_rules | `(tactic| walk_at "dx") => `(tactic| first | walk_at "dd" | walk_at "ch" | (dsimp only; walk_at "ch"))
section
variable {w : World} {mg mb : Str → Option Value}
theorem gi_LAST (P : Params) : nsIn (hd.heap_39 P) mainGlobals (Str.ofString "LAST_RUNE") = some (some (.int 1114111 300)) := rfl
theorem gi_FIRSTH (P : Params) : nsIn (hd.heap_39 P) mainGlobals (Str.ofString "FIRST_HALF") = some (some (.int 55296 302)) := rfl
theorem gi_LASTH (P : Params) : nsIn (hd.heap_39 P) mainGlobals (Str.ofString "LAST_HALF") = some (some (.int 57343 304)) := rfl
theorem gi_WRONG (P : Params) : nsIn (hd.heap_39 P) mainGlobals (Str.ofString "WRONG_RUNE") = some (some (.int 65533 298)) := rfl
theorem g_HEADS (P : Params) : nsIn (hd.heap_39 P) mainGlobals (Str.ofString "LONG_HEADS") = some (some (.ref 93)) := rfl
noncomputable def headsL : List D := [.tup [.int 192, .int 223, .int 128], .tup [.int 224, .int 239, .int 2048], .tup [.int 240, .int 247, .int 65536]]
theorem heads_rep (P : Params) (h : Heap) (X : (hd.heap_39 P).In h) : Rep h (.ref 93) (.tup headsL) :=
  .tup ⟨_, X _ _ rfl⟩ (.cons (.tup ⟨_, X _ _ rfl⟩ (.cons (.int _ _) (.cons (.int _ _) (.cons (.int _ _) .nil)))) (.cons (.tup ⟨_, X _ _ rfl⟩ (.cons (.int _ _) (.cons (.int _ _) (.cons (.int _ _) .nil)))) (.cons (.tup ⟨_, X _ _ rfl⟩ (.cons (.int _ _) (.cons (.int _ _) (.cons (.int _ _) .nil)))) .nil)))
section
variable {prog : Program} {C : Cx} {ρ : Locs} {M : LMap} {n : Nat} {Q : D → LMap → Prop} {pos : Pos}
theorem gn_LAST (O : CxOk (GB w.params mg mb) C n) (hx : C.env.kindOf (Str.ofString "LAST_RUNE") = some .globalImplicit) (q : Q (.int 1114111) M) : Ev prog w C ρ M (.Name (Str.ofString "LAST_RUNE") pos) Q :=
  ev_global O (gi_LAST _) (fun uu uu => .int _ _) q hx (by decide)
theorem gn_FIRSTH (O : CxOk (GB w.params mg mb) C n) (hx : C.env.kindOf (Str.ofString "FIRST_HALF") = some .globalImplicit) (q : Q (.int 55296) M) : Ev prog w C ρ M (.Name (Str.ofString "FIRST_HALF") pos) Q :=
  ev_global O (gi_FIRSTH _) (fun uu uu => .int _ _) q hx (by decide)
theorem gn_LASTH (O : CxOk (GB w.params mg mb) C n) (hx : C.env.kindOf (Str.ofString "LAST_HALF") = some .globalImplicit) (q : Q (.int 57343) M) : Ev prog w C ρ M (.Name (Str.ofString "LAST_HALF") pos) Q :=
  ev_global O (gi_LASTH _) (fun uu uu => .int _ _) q hx (by decide)
theorem gn_WRONG (O : CxOk (GB w.params mg mb) C n) (hx : C.env.kindOf (Str.ofString "WRONG_RUNE") = some .globalImplicit) (q : Q (.int 65533) M) : Ev prog w C ρ M (.Name (Str.ofString "WRONG_RUNE") pos) Q :=
  ev_global O (gi_WRONG _) (fun uu uu => .int _ _) q hx (by decide)
theorem gn_HEADS (O : CxOk (GB w.params mg mb) C n) (hx : C.env.kindOf (Str.ofString "LONG_HEADS") = some .globalImplicit) (q : Q (.tup headsL) M) : Ev prog w C ρ M (.Name (Str.ofString "LONG_HEADS") pos) Q :=
  ev_global O (g_HEADS _) (heads_rep _) q hx (by decide)
end
end
local macro_rules | `(tactic| walk_at "gi") => `(tactic| ((first
  | (with_reducible refine gn_LAST (by assumption) ?h4 ?_)
  | (with_reducible refine gn_FIRSTH (by assumption) ?h4 ?_)
  | (with_reducible refine gn_LASTH (by assumption) ?h4 ?_)
  | (with_reducible refine gn_WRONG (by assumption) ?h4 ?_)
  | (with_reducible refine gn_HEADS (by assumption) ?h4 ?_)); (case h4 => rfl)))
local macro_rules | `(tactic| walk_at "dx") => `(tactic| first | walk_at "dd" | walk_at "ch" | walk_at "gi" | (dsimp only; first | walk_at "ch" | walk_at "gi"))
section
variable {w : World} {mg mb : Str → Option Value}
/-- a rune that may be -/
noncomputable def rightR (r : Int) : Bool := decide (0 ≤ r) && decide (r ≤ 1114111) && !(decide (55296 ≤ r) && decide (r ≤ 57343))
theorem right_ok {prog : Program} (r : Int) : FnP prog w (GB w.params mg mb) (.ref 100) 10 [.int r] (fun d => d = .bool (rightR r)) fun uu => False := by
  refine fn_x (K := hd.heap_39 w.params) (xs := ["rune"]) rfl (by rfl) gb_lim ?hb (by rfl) (by decide) (by rfl) ?_
  case hb => walk_at "fn1"
  intro A base past stk L C Q0 O
  repeat walk_at "dx"
  cases h1 : decide (0 ≤ r) with
  | false =>
    repeat walk_at "dx"
    exact ⟨_, Sub.refl _, by simp [rightR, h1]⟩
  | true =>
    repeat walk_at "dx"
    cases h2 : decide (r ≤ 1114111) with
    | false =>
      repeat walk_at "dx"
      exact ⟨_, Sub.refl _, by simp [rightR, h1, h2]⟩
    | true =>
      repeat walk_at "dx"
      cases h3 : decide (55296 ≤ r) with
      | false =>
        repeat walk_at "dx"
        exact ⟨_, Sub.refl _, by simp [rightR, h1, h2, h3]⟩
      | true =>
        repeat walk_at "dx"
        exact ⟨_, Sub.refl _, by simp [rightR, h1, h2, h3]⟩
/-- in how many octets a rune is written -/
noncomputable def widthR (r : Int) : Int := 1 + (if decide (127 < r) = true then 1 else 0) + (if decide (2047 < r) = true then 1 else 0) + (if decide (65535 < r) = true then 1 else 0)
theorem width_ok {prog : Program} (r : Int) : FnP prog w (GB w.params mg mb) (.ref 237) 10 [.int r] (fun d => d = .int (widthR r)) fun uu => False := by
  refine fn_x (K := hd.heap_39 w.params) (xs := ["rune"]) rfl (by rfl) gb_lim ?hb (by rfl) (by decide) (by rfl) ?_
  case hb => walk_at "fn1"
  intro A base past stk L C Q0 O
  repeat walk_at "dx"
  exact ⟨_, Sub.refl _, rfl⟩
/-- the head of a long one: how many follow, its own part, and the least rune -/
noncomputable def headOf (o : Int) : Int × Int × Int :=
  if decide (192 ≤ o) && decide (o ≤ 223) then (1, o - 192, 128) else if decide (224 ≤ o) && decide (o ≤ 239) then (2, o - 224, 2048) else if decide (240 ≤ o) && decide (o ≤ 247) then (3, o - 240, 65536) else (0, 65533, 0)
theorem head_ok {prog : Program} (o : Int) : FnP prog w (GB w.params mg mb) (.ref 107) 10 [.int o] (fun d => d = .tup [.int (headOf o).1, .int (headOf o).2.1, .int (headOf o).2.2]) fun uu => False := by
  refine fn_x (K := hd.heap_39 w.params) (xs := ["octet"]) rfl (by rfl) gb_lim ?hb (by rfl) (by decide) (by rfl) ?_
  case hb => walk_at "fn1"
  intro A base past stk L C Q0 O
  repeat walk_at "dx"
  with_reducible refine sx_for O ?hp ?_ ?hs
  case hp => exact PassesOwn.leaving
  case hs => exact fun uu => rfl
  refine ie_range O (n_range _) b_range rfl (by first | exact rfl | trivial) rfl ?_
  repeat walk_at "dx"
  refine ⟨0, 3, 1, 3, by constructor, by decide, rfl, rfl, rfl, tok_name _ _, ?_⟩
  show ForL prog w _ _ _ _ [.int 0, .int 1, .int 2] _ _ _
  refine for_ind (fun i ρ' M' => M' = (fun uu => .none) ∧ ρ'.lookup (Str.ofString "octet") = some (.int o) ∧ (1 ≤ i → ¬ (192 ≤ o ∧ o ≤ 223)) ∧ (2 ≤ i → ¬ (224 ≤ o ∧ o ≤ 239)) ∧ (3 ≤ i → ¬ (240 ≤ o ∧ o ≤ 247))) (fun i e ρ' M' he hi hJ => ?_) (fun uu uu uu uu => trivial) (fun ρ' M' hJ => ?_) ⟨rfl, rfl, by omega, by omega, by omega⟩
  · obtain ⟨rfl, hl, n1, n2, n3⟩ := hJ
    match i, he with
    | 0, he =>
      cases he
      repeat walk_at "dx"
      refine as_tuple O ?_ rfl rfl rfl
      repeat walk_at "dx"
      walk_at "nm"
      repeat walk_at "dx"
      cases h1 : decide (192 ≤ o) with
      | false =>
        have h1' := of_decide_eq_false h1
        repeat walk_at "dx"
        exact ⟨rfl, hl, by omega, by omega, by omega⟩
      | true =>
        have h1' := of_decide_eq_true h1
        repeat walk_at "dx"
        cases h2 : decide (o ≤ 223) with
        | false =>
          have h2' := of_decide_eq_false h2
          repeat walk_at "dx"
          exact ⟨rfl, hl, by omega, by omega, by omega⟩
        | true =>
          have h2' := of_decide_eq_true h2
          repeat walk_at "dx"
          walk_at "nm"
          repeat walk_at "dx"
          refine ⟨_, Sub.refl _, ?_⟩
          have e : headOf o = (0+1, o - 192, 128) := by
            unfold headOf
            skip
            skip
            rw [if_pos (by simp only [Bool.and_eq_true, decide_eq_true_eq]; omega)]
            rfl
          rw [e]; rfl
    | 1, he =>
      cases he
      repeat walk_at "dx"
      refine as_tuple O ?_ rfl rfl rfl
      repeat walk_at "dx"
      walk_at "nm"
      repeat walk_at "dx"
      cases h1 : decide (224 ≤ o) with
      | false =>
        have h1' := of_decide_eq_false h1
        repeat walk_at "dx"
        exact ⟨rfl, hl, by omega, by omega, by omega⟩
      | true =>
        have h1' := of_decide_eq_true h1
        repeat walk_at "dx"
        cases h2 : decide (o ≤ 239) with
        | false =>
          have h2' := of_decide_eq_false h2
          repeat walk_at "dx"
          exact ⟨rfl, hl, by omega, by omega, by omega⟩
        | true =>
          have h2' := of_decide_eq_true h2
          repeat walk_at "dx"
          walk_at "nm"
          repeat walk_at "dx"
          refine ⟨_, Sub.refl _, ?_⟩
          have e : headOf o = (1+1, o - 224, 2048) := by
            unfold headOf
            rw [if_neg (by simp only [Bool.and_eq_true, decide_eq_true_eq]; omega)]
            skip
            rw [if_pos (by simp only [Bool.and_eq_true, decide_eq_true_eq]; omega)]
            rfl
          rw [e]; rfl
    | 2, he =>
      cases he
      repeat walk_at "dx"
      refine as_tuple O ?_ rfl rfl rfl
      repeat walk_at "dx"
      walk_at "nm"
      repeat walk_at "dx"
      cases h1 : decide (240 ≤ o) with
      | false =>
        have h1' := of_decide_eq_false h1
        repeat walk_at "dx"
        exact ⟨rfl, hl, by omega, by omega, by omega⟩
      | true =>
        have h1' := of_decide_eq_true h1
        repeat walk_at "dx"
        cases h2 : decide (o ≤ 247) with
        | false =>
          have h2' := of_decide_eq_false h2
          repeat walk_at "dx"
          exact ⟨rfl, hl, by omega, by omega, by omega⟩
        | true =>
          have h2' := of_decide_eq_true h2
          repeat walk_at "dx"
          walk_at "nm"
          repeat walk_at "dx"
          refine ⟨_, Sub.refl _, ?_⟩
          have e : headOf o = (2+1, o - 240, 65536) := by
            unfold headOf
            rw [if_neg (by simp only [Bool.and_eq_true, decide_eq_true_eq]; omega)]
            rw [if_neg (by simp only [Bool.and_eq_true, decide_eq_true_eq]; omega)]
            rw [if_pos (by simp only [Bool.and_eq_true, decide_eq_true_eq]; omega)]
            rfl
          rw [e]; rfl
  obtain ⟨rfl, hl, n1, n2, n3⟩ := hJ
  repeat walk_at "dx"
  refine ⟨_, Sub.refl _, ?_⟩
  have n1 := n1 (by decide)
  have n2 := n2 (by decide)
  have n3 := n3 (by decide)
  have e : headOf o = (0, 65533, 0) := by
    unfold headOf
    rw [if_neg (by simp only [Bool.and_eq_true, decide_eq_true_eq]; exact n1), if_neg (by simp only [Bool.and_eq_true, decide_eq_true_eq]; exact n2), if_neg (by simp only [Bool.and_eq_true, decide_eq_true_eq]; exact n3)]
  rw [e]; rfl
end
section
open PySem PySem.W PyProof.Rows
set_option maxRecDepth 100000
set_option linter.unusedVariables false
set_option maxHeartbeats 4000000
variable {w : World} {mg mb : Str → Option Value}
noncomputable def octet (l : List UInt8) (i : Nat) : Int := ((l.getD i 0).toNat : Nat)
theorem octet_lo (l : List UInt8) (i : Nat) : 0 ≤ octet l i := Int.natCast_nonneg _
theorem octet_hi (l : List UInt8) (i : Nat) : octet l i ≤ 255 := by
  unfold octet
  have := (l.getD i 0).toNat_lt
  omega
theorem op_oct {prog : Program} {C : Cx} {ρ : Locs} {M : LMap} {Q : D → LMap → Prop} {value slice : Expr} {b : Array UInt8} {j : Int} {i : Nat} (hj : j = i) (h1 : i < b.size) (hfit : b.size ≤ 1000) (q : Q (.int (octet b.toList i)) M)
    (hs : ∀ o i, subscripted slice false o i = operate [o, i] (getItem o i)) (ht : ∀ b t r, letTemporaryGo value (.bytes b t) r = pure ()) : Op2 prog w C ρ M (subscriptTail value slice) (.bytes b) (.int j) Q := by
  subst hj
  exact op_item_bytes (by omega) (by omega) (by omega) q hs ht
noncomputable def tailR (l : List UInt8) : Nat → Nat → Int → Option Int
  | _, 0, r => some r
  | p, k + 1, r => if decide (128 ≤ octet l p) && decide (octet l p ≤ 191) then tailR l (p + 1) k (r * 64 + octet l p - 128) else none
theorem tailR_succ (l : List UInt8) (p k : Nat) (r : Int) : tailR l p (k + 1) r = if decide (128 ≤ octet l p) && decide (octet l p ≤ 191) then tailR l (p + 1) k (r * 64 + octet l p - 128) else none := rfl
theorem tailR_zero (l : List UInt8) (p : Nat) (r : Int) : tailR l p 0 r = some r := rfl
noncomputable def runeAt (l : List UInt8) (i : Nat) : Int × Int :=
  if decide (octet l i < 128) then (octet l i, 1) else
  if (headOf (octet l i)).1 == 0 || decide ((l.length : Int) ≤ i + (headOf (octet l i)).1) then (65533, 1) else
  match tailR l (i + 1) (headOf (octet l i)).1.toNat (headOf (octet l i)).2.1 with
  | none => (65533, 1)
  | some r => if decide ((headOf (octet l i)).2.2 ≤ r) && rightR r then (r, (headOf (octet l i)).1 + 1) else (65533, 1)
theorem head_facts {o : Int} (h0 : 0 ≤ o) (h1 : o ≤ 255) : ((headOf o).1 = 0 ∨ (headOf o).1 = 1 ∨ (headOf o).1 = 2 ∨ (headOf o).1 = 3) ∧ ((headOf o).1 ≠ 0 → 0 ≤ (headOf o).2.1 ∧ (headOf o).2.1 ≤ 31) := by
  unfold headOf
  split
  · rename_i h; simp at h; simp; omega
  split
  · rename_i h; simp at h; simp; omega
  split
  · rename_i h; simp at h; simp; omega
  · simp
theorem small3 {m : Int} (h0 : m ≠ 0) (h : m = 0 ∨ m = 1 ∨ m = 2 ∨ m = 3) : Builtin.Range.small 1 (m + 1) 1 = true := by
  rcases h with rfl | rfl | rfl | rfl
  · exact absurd rfl h0
  all_goals decide +kernel
theorem size3 {m : Int} (h0 : m ≠ 0) (h : m = 0 ∨ m = 1 ∨ m = 2 ∨ m = 3) : Builtin.Range.rangeSize 1 (m + 1) 1 = (m.toNat : Nat) := by
  rcases h with rfl | rfl | rfl | rfl
  · exact absurd rfl h0
  all_goals decide +kernel
theorem sixty4 {r o a b : Int} (ho : o ≤ 191) (h : r ≤ a) (e : a * 64 + 63 = b) : r * 64 + o - 128 ≤ b := by omega
theorem sixty0 {r o : Int} (ho : 128 ≤ o) (h : 0 ≤ r) : 0 ≤ r * 64 + o - 128 := by omega
theorem step_bound {k n : Nat} {r o : Int} (hn : n ≤ 3) (hk : k < n) (ho : o ≤ 191) (h : k = 0 ∧ r ≤ 31 ∨ k = 1 ∧ r ≤ 2047 ∨ k = 2 ∧ r ≤ 131071 ∨ k = 3 ∧ r ≤ 8388607) :
    k + 1 = 0 ∧ r * 64 + o - 128 ≤ 31 ∨ k + 1 = 1 ∧ r * 64 + o - 128 ≤ 2047 ∨ k + 1 = 2 ∧ r * 64 + o - 128 ≤ 131071 ∨ k + 1 = 3 ∧ r * 64 + o - 128 ≤ 8388607 := by
  rcases h with ⟨rfl, h⟩ | ⟨rfl, h⟩ | ⟨rfl, h⟩ | ⟨rfl, h⟩
  · exact .inr (.inl ⟨rfl, sixty4 ho h rfl⟩)
  · exact .inr (.inr (.inl ⟨rfl, sixty4 ho h rfl⟩))
  · exact .inr (.inr (.inr ⟨rfl, sixty4 ho h rfl⟩))
  · exact absurd (Nat.lt_of_lt_of_le hk hn) (Nat.lt_irrefl 3)
theorem oct_lt {i k n : Nat} {m : Int} (h3 : ¬ ((n : Int) ≤ (i : Int) + m)) (hk : k < m.toNat) : i + 1 + k < n := by omega
theorem sub_step {k n : Nat} (h : k < n) : n - k = (n - (k + 1)) + 1 := by omega
theorem upto3 {m : Int} (h : m = 0 ∨ m = 1 ∨ m = 2 ∨ m = 3) : m.toNat ≤ 3 := by omega
theorem rune_at_ok {prog : Program} (b : Array UInt8) (i : Nat) (hi : i < b.size) (hb : b.size ≤ 1000) : FnP prog w (GB w.params mg mb) (.ref 114) 12 [.bytes b, .int i] (fun d => d = .tup [.int (runeAt b.toList i).1, .int (runeAt b.toList i).2]) fun uu => False := by
  refine fn_x (K := hd.heap_39 w.params) (xs := ["octets", "at"]) (n := 11) rfl (by rfl) gb_lim ?hb (by rfl) (by decide) (by rfl) ?_
  case hb => walk_at "fn2"
  intro A base past stk L C Q0 O
  change Ss _ _ _ _ _ _ (KRet _)
  clear Q0
  repeat walk_at "dx"
  refine op_oct rfl hi hb ?_ (fun uu uu => rfl) (fun uu uu uu => rfl)
  repeat walk_at "dx"
  have o1 := octet_lo b.toList i
  have o2 := octet_hi b.toList i
  cases h1 : decide (octet b.toList i < 128) with
  | true =>
    repeat walk_at "dx"
    exact ⟨_, Sub.refl _, by unfold runeAt; rw [if_pos h1]; rfl⟩
  | false =>
    repeat walk_at "dx"
    refine df_head_of 10 O rfl (by first | exact rfl | trivial) (by decide) ?_
    repeat walk_at "dx"
    refine FnP.fnEq up_glob (head_ok _) ?_
    refine as_tuple O ?_ rfl rfl rfl
    have hf := head_facts o1 o2
    have hr : runeAt b.toList i = if (headOf (octet b.toList i)).1 == 0 || decide ((b.toList.length : Int) ≤ i + (headOf (octet b.toList i)).1) then (65533, 1) else
        match tailR b.toList (i + 1) (headOf (octet b.toList i)).1.toNat (headOf (octet b.toList i)).2.1 with
        | none => (65533, 1)
        | some r => if decide ((headOf (octet b.toList i)).2.2 ≤ r) && rightR r then (r, (headOf (octet b.toList i)).1 + 1) else (65533, 1) := by
      unfold runeAt
      rw [if_neg (by rw [h1]; exact Bool.false_ne_true)]
    generalize runeAt b.toList i = res at hr ⊢
    generalize headOf (octet b.toList i) = hh at hf hr ⊢
    obtain ⟨m, r0, ls⟩ := hh
    dsimp only at hf hr ⊢
    repeat walk_at "dx"
    cases h2 : (m == 0) with
    | true =>
      repeat walk_at "dx"
      exact ⟨_, Sub.refl _, by rw [hr, h2]; rfl⟩
    | false =>
    have hm0 : m ≠ 0 := by simpa using h2
    repeat walk_at "dx"
    refine op_len_bytes (by omega) ?_
    repeat walk_at "dx"
    have hbl : ((b.toList.length : Nat) : Int) = (b.size : Nat) := by simp
    rw [h2, hbl, Bool.false_or] at hr
    cases h3 : decide ((b.size : Int) ≤ (i : Int) + m) with
    | true =>
      repeat walk_at "dx"
      exact ⟨_, Sub.refl _, by rw [hr, h3]; rfl⟩
    | false =>
    have h3' := of_decide_eq_false h3
    rw [h3, if_neg Bool.false_ne_true] at hr
    obtain ⟨hm, hr0⟩ := hf
    have hr0 := hr0 hm0
    repeat walk_at "dx"
    with_reducible refine sx_for O ?hp ?_ ?hs
    case hp => exact PassesOwn.leaving
    case hs => exact fun uu => rfl
    refine ie_range O (n_range _) b_range rfl (by first | exact rfl | trivial) rfl ?_
    repeat walk_at "dx"
    refine ⟨1, m + 1, 1, m.toNat, by constructor, by decide, PyProof.noPylong_small (by omega), ?_, ?_, tok_name _ _, ?_⟩
    · exact small3 hm0 hm
    · exact size3 hm0 hm
    refine for_ind (fun k ρ' M' => ∃ r, M' = (fun uu => .none) ∧ ρ'.lookup (Str.ofString "octets") = some (.bytes b) ∧ ρ'.lookup (Str.ofString "at") = some (.int i) ∧ ρ'.lookup (Str.ofString "many") = some (.int m) ∧ ρ'.lookup (Str.ofString "least") = some (.int ls) ∧ ρ'.lookup (Str.ofString "rune") = some (.int r) ∧
      tailR b.toList (i + 1) m.toNat r0 = tailR b.toList (i + 1 + k) (m.toNat - k) r ∧ 0 ≤ r ∧ (k = 0 ∧ r ≤ 31 ∨ k = 1 ∧ r ≤ 2047 ∨ k = 2 ∧ r ≤ 131071 ∨ k = 3 ∧ r ≤ 8388607)) (fun k e ρ' M' he hk hJ => ?_) (fun uu uu uu uu => trivial) (fun ρ' M' hJ => ?_) ⟨r0, rfl, rfl, rfl, rfl, rfl, rfl, rfl, by omega, by omega⟩
    · refine hide fun uu kg => ?_
      obtain ⟨r, rfl, l1, l2, l3, l4, l5, ht, hr1, hr2⟩ := hJ
      refine kg ?_
      obtain ⟨hk', rfl⟩ := steps_get he
      repeat walk_at "dx"
      walk_at "nm"
      repeat walk_at "dx"
      walk_at "nm"
      repeat walk_at "dx"
      refine op_oct (i := i + 1 + k) (by clear hm hr2 hr1 hr0 h3'; omega) (oct_lt h3' hk') hb ?_ (fun uu uu => rfl) (fun uu uu uu => rfl)
      repeat walk_at "dx"
      have hk3 : m.toNat - k = (m.toNat - (k + 1)) + 1 := sub_step hk'
      rw [hk3, tailR_succ] at ht
      have q1 := octet_lo b.toList (i + 1 + k)
      have q2 := octet_hi b.toList (i + 1 + k)
      generalize octet b.toList (i + 1 + k) = oc at ht q1 q2 ⊢
      cases h4 : decide (128 ≤ oc) with
      | false =>
        rw [h4, Bool.false_and, if_neg Bool.false_ne_true] at ht
        repeat walk_at "dx"
        exact ⟨_, Sub.refl _, by rw [hr, ht]; rfl⟩
      | true =>
      repeat walk_at "dx"
      cases h5 : decide (oc ≤ 191) with
      | false =>
        rw [h4, h5, Bool.and_false, if_neg Bool.false_ne_true] at ht
        repeat walk_at "dx"
        exact ⟨_, Sub.refl _, by rw [hr, ht]; rfl⟩
      | true =>
      rw [h4, h5, Bool.and_true, if_pos rfl] at ht
      have h4' := of_decide_eq_true h4
      have h5' := of_decide_eq_true h5
      repeat walk_at "dx"
      walk_at "nm"
      repeat walk_at "dx"
      exact ⟨_, rfl, l1, l2, l3, l4, rfl, ht, sixty0 h4' hr1, step_bound (upto3 hm) hk' h5' hr2⟩
    refine hide fun uu kg => ?_
    obtain ⟨r, rfl, l1, l2, l3, l4, l5, ht, hr1, hr2⟩ := hJ
    refine kg ?_
    have hkl : (steps 1 1 m.toNat).length = m.toNat := by simp [steps]
    rw [hkl, Nat.sub_self, tailR_zero] at ht
    rw [ht] at hr
    dsimp only at hr ⊢
    repeat walk_at "dx"
    walk_at "nm"
    walk_at "nm"
    repeat walk_at "dx"
    cases h6 : decide (ls ≤ r) with
    | false =>
      rw [h6, Bool.false_and, if_neg Bool.false_ne_true] at hr
      repeat walk_at "dx"
      exact ⟨_, Sub.refl _, by rw [hr]; rfl⟩
    | true =>
    rw [h6, Bool.true_and] at hr
    repeat walk_at "dx"
    refine df_is_right_rune 10 O rfl (by first | exact rfl | trivial) (by decide) ?_
    repeat walk_at "dx"
    walk_at "nm"
    repeat walk_at "dx"
    refine FnP.fnEq up_glob (right_ok _) ?_
    repeat walk_at "dx"
    cases h7 : rightR r with
    | false =>
      rw [h7, if_neg Bool.false_ne_true] at hr
      repeat walk_at "dx"
      exact ⟨_, Sub.refl _, by rw [hr]; rfl⟩
    | true =>
      rw [h7, if_pos rfl] at hr
      repeat walk_at "dx"
      walk_at "nm"
      repeat walk_at "dx"
      walk_at "nm"
      repeat walk_at "dx"
      exact ⟨_, Sub.refl _, by rw [hr]; rfl⟩
/-- the runes of a text, and in how many octets each is found -/
inductive Segs (l : List UInt8) : Nat → List (Int × Nat) → Prop
  | nil : Segs l l.length []
  | cons {i : Nat} {r : Int} {z : Nat} {rest : List (Int × Nat)} : i < l.length → runeAt l i = (r, (z : Int)) → Segs l (i + z) rest → Segs l i ((r, z) :: rest)
end
section
open PySem PySem.W PyProof.Rows
set_option maxRecDepth 100000
set_option linter.unusedVariables false
set_option maxHeartbeats 4000000
variable {w : World} {mg mb : Str → Option Value}
theorem upd_upd (M : LMap) (a : Addr) (ds es : List D) : upd (upd M a ds) a es = upd M a es := by
  funext b
  by_cases h : b = a
  · rw [h, upd_same, upd_same]
  · rw [upd_ne h, upd_ne h, upd_ne h]
theorem runes_of_ok {prog : Program} (b : Array UInt8) (hb : b.size ≤ 1000) (sg : List (Int × Nat)) (hs : Segs b.toList 0 sg) (hl : sg.length ≤ 1000) : FnL prog w (GB w.params mg mb) (.ref 121) 14 [.bytes b] (fun es => es = sg.map fun x => D.int x.1) fun uu => False := by
  refine fn_x (K := hd.heap_39 w.params) (xs := ["octets"]) (n := 13) rfl (by rfl) gb_lim ?hb (by rfl) (by decide) (by rfl) ?_
  case hb => walk_at "fn1"
  intro A base past stk L C Q0 O
  repeat walk_at "dx"
  refine sx_assign2 O ?_ ⟨rfl, .head _⟩ rfl rfl rfl
  repeat walk_at "dx"
  intro f hf
  repeat walk_at "dx"
  refine ⟨_, _, rfl, ?_⟩
  repeat walk_at "dx"
  refine sx_while PassesOwn.leaving (fun k ρ' M' => ∃ (j : Nat) (rest : List (Int × Nat)) (acc : List D), rest.length = k ∧ Segs b.toList j rest ∧ ρ'.lookup (Str.ofString "octets") = some (.bytes b) ∧ ρ'.lookup (Str.ofString "at") = some (.int j) ∧ ρ'.lookup (Str.ofString "found") = some (.lst f) ∧ M' = upd (fun uu => .none) f acc ∧ acc.length + rest.length ≤ 1000 ∧ acc ++ rest.map (fun x => D.int x.1) = sg.map fun x => D.int x.1) (fun k ρ' M' hJ => ?_) sg.length ⟨0, sg, [], rfl, hs, rfl, rfl, rfl, rfl, by simpa using hl, rfl⟩
  refine hide fun uu kg => ?_
  obtain ⟨j, rest, acc, rfl, hsg, l1, l2, l3, rfl, hlen, hacc⟩ := hJ
  refine kg ?_
  have hbl : b.toList.length = b.size := by simp
  repeat walk_at "dx"
  walk_at "nm"
  repeat walk_at "dx"
  walk_at "nm"
  repeat walk_at "dx"
  refine op_len_bytes (by omega) ?_
  repeat walk_at "dx"
  cases hsg with
  | nil =>
    have h1 : decide (((b.toList.length : Nat) : Int) < (b.size : Nat)) = false := by rw [hbl]; simp
    rw [h1]
    repeat walk_at "dx"
    walk_at "nm"
    exact ⟨_, Sub.refl _, f, _, rfl, upd_same _ _ _, by simpa using hacc⟩
  | @cons _ r z rest hj hr hsg =>
    have h1 : decide (((j : Nat) : Int) < (b.size : Nat)) = true := decide_eq_true (by omega)
    rw [h1]
    repeat walk_at "dx"
    refine df_rune_at 12 O rfl (by first | exact rfl | trivial) (by decide) ?_
    repeat walk_at "dx"
    walk_at "nm"
    repeat walk_at "dx"
    walk_at "nm"
    repeat walk_at "dx"
    refine FnP.fnEq up_glob (rune_at_ok b j (by omega) hb) ?_
    rw [hr]
    refine as_tuple O ?_ rfl rfl rfl
    repeat walk_at "dx"
    refine sx_expr ?_ rfl rfl
    refine ev_method (T := "list") (id := "list.append") F.plainAttrs_list F.slot_list_append F.type_list_append ?_ (by first | exact rfl | trivial) rfl rfl rfl rfl
    walk_at "nm"
    refine ⟨⟨rfl, by rw [upd_same]; rfl⟩, ?_⟩
    repeat walk_at "dx"
    refine op_append (upd_same _ _ _) (by rw [sizeLine_eq]; omega) ?_
    repeat walk_at "dx"
    refine ⟨rfl, ?_⟩
    repeat walk_at "dx"
    walk_at "nm"
    repeat walk_at "dx"
    exact ⟨rest.length, by simp, j + z, rest, acc ++ [D.int r], rfl, hsg, l1, rfl, l3, upd_upd _ _ _ _, by simp at hlen ⊢; omega, by rw [← hacc]; simp⟩
/-- the places of the runes -/
noncomputable def placed : Nat → List (Int × Nat) → List D
  | _, [] => []
  | i, (r, z) :: rest => .tup [.int i, .int r] :: placed (i + z) rest
theorem rune_places_ok {prog : Program} (b : Array UInt8) (hb : b.size ≤ 1000) (sg : List (Int × Nat)) (hs : Segs b.toList 0 sg) (hl : sg.length ≤ 1000) : FnL prog w (GB w.params mg mb) (.ref 128) 14 [.bytes b] (fun es => es = placed 0 sg) fun uu => False := by
  refine fn_x (K := hd.heap_39 w.params) (xs := ["octets"]) (n := 13) rfl (by rfl) gb_lim ?hb (by rfl) (by decide) (by rfl) ?_
  case hb => walk_at "fn1"
  intro A base past stk L C Q0 O
  repeat walk_at "dx"
  refine sx_assign2 O ?_ ⟨rfl, .head _⟩ rfl rfl rfl
  repeat walk_at "dx"
  intro f hf
  repeat walk_at "dx"
  refine ⟨_, _, rfl, ?_⟩
  repeat walk_at "dx"
  refine sx_while PassesOwn.leaving (fun k ρ' M' => ∃ (j : Nat) (rest : List (Int × Nat)) (acc : List D), rest.length = k ∧ Segs b.toList j rest ∧ ρ'.lookup (Str.ofString "octets") = some (.bytes b) ∧ ρ'.lookup (Str.ofString "at") = some (.int j) ∧ ρ'.lookup (Str.ofString "found") = some (.lst f) ∧ M' = upd (fun uu => .none) f acc ∧ acc.length + rest.length ≤ 1000 ∧ acc ++ placed j rest = placed 0 sg) (fun k ρ' M' hJ => ?_) sg.length ⟨0, sg, [], rfl, hs, rfl, rfl, rfl, rfl, by simpa using hl, rfl⟩
  refine hide fun uu kg => ?_
  obtain ⟨j, rest, acc, rfl, hsg, l1, l2, l3, rfl, hlen, hacc⟩ := hJ
  refine kg ?_
  have hbl : b.toList.length = b.size := by simp
  repeat walk_at "dx"
  walk_at "nm"
  repeat walk_at "dx"
  walk_at "nm"
  repeat walk_at "dx"
  refine op_len_bytes (by omega) ?_
  repeat walk_at "dx"
  cases hsg with
  | nil =>
    have h1 : decide (((b.toList.length : Nat) : Int) < (b.size : Nat)) = false := by rw [hbl]; simp
    rw [h1]
    repeat walk_at "dx"
    walk_at "nm"
    exact ⟨_, Sub.refl _, f, _, rfl, upd_same _ _ _, by simpa [placed] using hacc⟩
  | @cons _ r z rest hj hr hsg =>
    have h1 : decide (((j : Nat) : Int) < (b.size : Nat)) = true := decide_eq_true (by omega)
    rw [h1]
    repeat walk_at "dx"
    refine df_rune_at 12 O rfl (by first | exact rfl | trivial) (by decide) ?_
    repeat walk_at "dx"
    walk_at "nm"
    repeat walk_at "dx"
    walk_at "nm"
    repeat walk_at "dx"
    refine FnP.fnEq up_glob (rune_at_ok b j (by omega) hb) ?_
    rw [hr]
    refine as_tuple O ?_ rfl rfl rfl
    repeat walk_at "dx"
    refine sx_expr ?_ rfl rfl
    refine ev_method (T := "list") (id := "list.append") F.plainAttrs_list F.slot_list_append F.type_list_append ?_ (by first | exact rfl | trivial) rfl rfl rfl rfl
    walk_at "nm"
    refine ⟨⟨rfl, by rw [upd_same]; rfl⟩, ?_⟩
    repeat walk_at "dx"
    walk_at "nm"
    repeat walk_at "dx"
    refine op_append (upd_same _ _ _) (by rw [sizeLine_eq]; omega) ?_
    repeat walk_at "dx"
    refine ⟨rfl, ?_⟩
    repeat walk_at "dx"
    walk_at "nm"
    repeat walk_at "dx"
    exact ⟨rest.length, by simp, j + z, rest, acc ++ [D.tup [.int j, .int r]], rfl, hsg, l1, rfl, l3, upd_upd _ _ _ _, by simp at hlen ⊢; omega, by rw [← hacc]; simp [placed]⟩
end
section
open PySem PySem.W PyProof.Rows
set_option maxRecDepth 100000
set_option linter.unusedVariables false
set_option maxHeartbeats 4000000
variable {w : World} {mg mb : Str → Option Value}
noncomputable def tailO (m : Nat) (r : Int) : List Int := (List.range m).map fun (i : Nat) => 128 + (r.fdiv (64 ^ ((m : Int) - 1 + i * (-1)).toNat)).fmod 64
/-- the octets of a rune -/
noncomputable def octsR (r : Int) : List Int := if decide (r < 128) then [r] else if decide (r < 2048) then (192 + r.fdiv (64 ^ (1 : Int).toNat)) :: tailO 1 r else if decide (r < 65536) then (224 + r.fdiv (64 ^ (2 : Int).toNat)) :: tailO 2 r else (240 + r.fdiv (64 ^ (3 : Int).toNat)) :: tailO 3 r
theorem octets_of_rune_ok {prog : Program} (r : Int) (hr : rightR r = true) (hb : ∀ n ∈ octsR r, 0 ≤ n ∧ n < 256) : FnP prog w (GB w.params mg mb) (.ref 133) 14 [.int r] (fun d => d = .bytes (byteArr (octsR r))) fun uu => False := by
  refine fn_cells (K := hd.heap_39 w.params) (xs := ["rune"]) (n := 13) rfl (by rfl) gb_lim ?hb (fun uu => rfl) (by decide) (by decide) ?_
  case hb => walk_at "fn1"
  intro A base past stk L C Q0 O
  change Ss _ _ _ _ _ _ (KRet _)
  clear Q0
  have hrr : 0 ≤ r ∧ r ≤ 1114111 := by
    unfold rightR at hr
    simp only [Bool.and_eq_true, decide_eq_true_eq] at hr
    exact hr.1
  repeat walk_at "dx"
  refine df_is_right_rune 10 O rfl (by first | exact rfl | trivial) (by decide) ?_
  repeat walk_at "dx"
  refine FnP.fnEq up_glob (right_ok _) ?_
  rw [hr]
  repeat walk_at "dx"
  cases h1 : decide (r < 128) with
  | true =>
    have e : octsR r = [r] := by unfold octsR; rw [if_pos h1]
    rw [e] at hb ⊢
    repeat walk_at "dx"
    intro c hc
    repeat walk_at "dx"
    refine op_bytes_lst (ns := [r]) O (upd_same _ _ _) hb (by rw [sizeLine_eq]; simp) ?_
    repeat walk_at "dx"
    exact ⟨fun uu => .none, (fun c ds e => nomatch e), rfl⟩
  | false =>
  repeat walk_at "dx"
  cases h2 : decide (r < 2048) with
  | true =>
    have e : octsR r = (192 + r.fdiv (64 ^ (1 : Int).toNat)) :: tailO 1 r := by unfold octsR; rw [if_neg (by rw [h1]; exact Bool.false_ne_true), if_pos h2]
    rw [e] at hb ⊢
    repeat walk_at "dx"
    refine sx_assign_comp (fun uu => False) [(Str.ofString "rune", .int r)] O (.inr fun uu x => x) (cl := [(Str.ofString "rune", L + 1)]) rfl (by decide +kernel) rfl (by decide +kernel) rfl (fun uu uu h => h) (fun Lc => look1 ⟨rfl, .inl rfl, .inl rfl, rfl⟩) ?_ (fun uu => rfl) rfl
    refine ie_range O (n_range _) b_range rfl (by first | exact rfl | trivial) rfl ?_
    repeat walk_at "dx"
    refine ⟨(1 : Int) - 1, -1, -1, 1, by constructor, by decide, PyProof.noPylong_small (by decide), by decide +kernel, by decide +kernel, tok_name _ _, by rw [sizeLine_eq]; exact Nat.le_of_ble_eq_true rfl, fun Lc => ?_⟩
    refine comp_ind (fun i acc M' => M' = (fun uu => .none) ∧ acc = (List.range i).map fun (j : Nat) => D.int (128 + (r.fdiv (64 ^ (((1 : Nat) : Int) - 1 + j * (-1)).toNat)).fmod 64)) (fun i e acc M₃ past Oc he hi hJ => ?_) (fun uu uu uu uu => trivial) (fun acc M₃ hJ a ha => ?_) ⟨rfl, rfl⟩
    · obtain ⟨rfl, rfl⟩ := hJ
      obtain ⟨hk, rfl⟩ := steps_get he
      have hk' : i = 0 ∨ i = 1 ∨ i = 2 := by omega
      rw [List.range_succ, List.map_append]
      repeat walk_at "dx"
      refine op_pow (by omega) (by omega) (by decide) ?_
      repeat walk_at "dx"
      refine op_div (by rcases hk' with rfl | rfl | rfl <;> decide) (PyProof.noPylong_small (by rcases hk' with rfl | rfl | rfl <;> decide)) ?_
      repeat walk_at "dx"
      exact ⟨rfl, rfl⟩
    obtain ⟨rfl, rfl⟩ := hJ
    have hlen : (steps ((1 : Int) - 1) (-1) 1).length = 1 := by simp [steps]
    rw [hlen]
    repeat walk_at "dx"
    refine op_pow (by decide) (by decide) (by decide) ?_
    repeat walk_at "dx"
    refine op_div (by decide) (PyProof.noPylong_small (by decide)) ?_
    repeat walk_at "dx"
    intro c hc
    have hca := (upd_none hc).2
    repeat walk_at "dx"
    refine op_add_lst (upd_same _ _ _) ((upd_ne hca.symm).trans (upd_same _ _ _)) (by rw [sizeLine_eq]; simp) ?_
    intro f hf
    repeat walk_at "dx"
    refine op_bytes_lst (ns := (192 + r.fdiv (64 ^ (1 : Int).toNat)) :: tailO 1 r) O (by rw [upd_same]; simp [tailO]) hb (by rw [sizeLine_eq]; simp [tailO]) ?_
    repeat walk_at "dx"
    exact ⟨fun uu => .none, (fun c ds e => nomatch e), rfl⟩
  | false =>
  repeat walk_at "dx"
  cases h3 : decide (r < 65536) with
  | true =>
    have e : octsR r = (224 + r.fdiv (64 ^ (2 : Int).toNat)) :: tailO 2 r := by unfold octsR; rw [if_neg (by rw [h1]; exact Bool.false_ne_true), if_neg (by rw [h2]; exact Bool.false_ne_true), if_pos h3]
    rw [e] at hb ⊢
    repeat walk_at "dx"
    refine sx_assign_comp (fun uu => False) [(Str.ofString "rune", .int r)] O (.inr fun uu x => x) (cl := [(Str.ofString "rune", L + 1)]) rfl (by decide +kernel) rfl (by decide +kernel) rfl (fun uu uu h => h) (fun Lc => look1 ⟨rfl, .inl rfl, .inl rfl, rfl⟩) ?_ (fun uu => rfl) rfl
    refine ie_range O (n_range _) b_range rfl (by first | exact rfl | trivial) rfl ?_
    repeat walk_at "dx"
    refine ⟨(2 : Int) - 1, -1, -1, 2, by constructor, by decide, PyProof.noPylong_small (by decide), by decide +kernel, by decide +kernel, tok_name _ _, by rw [sizeLine_eq]; exact Nat.le_of_ble_eq_true rfl, fun Lc => ?_⟩
    refine comp_ind (fun i acc M' => M' = (fun uu => .none) ∧ acc = (List.range i).map fun (j : Nat) => D.int (128 + (r.fdiv (64 ^ (((2 : Nat) : Int) - 1 + j * (-1)).toNat)).fmod 64)) (fun i e acc M₃ past Oc he hi hJ => ?_) (fun uu uu uu uu => trivial) (fun acc M₃ hJ a ha => ?_) ⟨rfl, rfl⟩
    · obtain ⟨rfl, rfl⟩ := hJ
      obtain ⟨hk, rfl⟩ := steps_get he
      have hk' : i = 0 ∨ i = 1 ∨ i = 2 := by omega
      rw [List.range_succ, List.map_append]
      repeat walk_at "dx"
      refine op_pow (by omega) (by omega) (by decide) ?_
      repeat walk_at "dx"
      refine op_div (by rcases hk' with rfl | rfl | rfl <;> decide) (PyProof.noPylong_small (by rcases hk' with rfl | rfl | rfl <;> decide)) ?_
      repeat walk_at "dx"
      exact ⟨rfl, rfl⟩
    obtain ⟨rfl, rfl⟩ := hJ
    have hlen : (steps ((2 : Int) - 1) (-1) 2).length = 2 := by simp [steps]
    rw [hlen]
    repeat walk_at "dx"
    refine op_pow (by decide) (by decide) (by decide) ?_
    repeat walk_at "dx"
    refine op_div (by decide) (PyProof.noPylong_small (by decide)) ?_
    repeat walk_at "dx"
    intro c hc
    have hca := (upd_none hc).2
    repeat walk_at "dx"
    refine op_add_lst (upd_same _ _ _) ((upd_ne hca.symm).trans (upd_same _ _ _)) (by rw [sizeLine_eq]; simp) ?_
    intro f hf
    repeat walk_at "dx"
    refine op_bytes_lst (ns := (224 + r.fdiv (64 ^ (2 : Int).toNat)) :: tailO 2 r) O (by rw [upd_same]; simp [tailO]) hb (by rw [sizeLine_eq]; simp [tailO]) ?_
    repeat walk_at "dx"
    exact ⟨fun uu => .none, (fun c ds e => nomatch e), rfl⟩
  | false =>
    have e : octsR r = (240 + r.fdiv (64 ^ (3 : Int).toNat)) :: tailO 3 r := by unfold octsR; rw [if_neg (by rw [h1]; exact Bool.false_ne_true), if_neg (by rw [h2]; exact Bool.false_ne_true), if_neg (by rw [h3]; exact Bool.false_ne_true)]
    rw [e] at hb ⊢
    repeat walk_at "dx"
    refine sx_assign_comp (fun uu => False) [(Str.ofString "rune", .int r)] O (.inr fun uu x => x) (cl := [(Str.ofString "rune", L + 1)]) rfl (by decide +kernel) rfl (by decide +kernel) rfl (fun uu uu h => h) (fun Lc => look1 ⟨rfl, .inl rfl, .inl rfl, rfl⟩) ?_ (fun uu => rfl) rfl
    refine ie_range O (n_range _) b_range rfl (by first | exact rfl | trivial) rfl ?_
    repeat walk_at "dx"
    refine ⟨(3 : Int) - 1, -1, -1, 3, by constructor, by decide, PyProof.noPylong_small (by decide), by decide +kernel, by decide +kernel, tok_name _ _, by rw [sizeLine_eq]; exact Nat.le_of_ble_eq_true rfl, fun Lc => ?_⟩
    refine comp_ind (fun i acc M' => M' = (fun uu => .none) ∧ acc = (List.range i).map fun (j : Nat) => D.int (128 + (r.fdiv (64 ^ (((3 : Nat) : Int) - 1 + j * (-1)).toNat)).fmod 64)) (fun i e acc M₃ past Oc he hi hJ => ?_) (fun uu uu uu uu => trivial) (fun acc M₃ hJ a ha => ?_) ⟨rfl, rfl⟩
    · obtain ⟨rfl, rfl⟩ := hJ
      obtain ⟨hk, rfl⟩ := steps_get he
      have hk' : i = 0 ∨ i = 1 ∨ i = 2 := by omega
      rw [List.range_succ, List.map_append]
      repeat walk_at "dx"
      refine op_pow (by omega) (by omega) (by decide) ?_
      repeat walk_at "dx"
      refine op_div (by rcases hk' with rfl | rfl | rfl <;> decide) (PyProof.noPylong_small (by rcases hk' with rfl | rfl | rfl <;> decide)) ?_
      repeat walk_at "dx"
      exact ⟨rfl, rfl⟩
    obtain ⟨rfl, rfl⟩ := hJ
    have hlen : (steps ((3 : Int) - 1) (-1) 3).length = 3 := by simp [steps]
    rw [hlen]
    repeat walk_at "dx"
    refine op_pow (by decide) (by decide) (by decide) ?_
    repeat walk_at "dx"
    refine op_div (by decide) (PyProof.noPylong_small (by decide)) ?_
    repeat walk_at "dx"
    intro c hc
    have hca := (upd_none hc).2
    repeat walk_at "dx"
    refine op_add_lst (upd_same _ _ _) ((upd_ne hca.symm).trans (upd_same _ _ _)) (by rw [sizeLine_eq]; simp) ?_
    intro f hf
    repeat walk_at "dx"
    refine op_bytes_lst (ns := (240 + r.fdiv (64 ^ (3 : Int).toNat)) :: tailO 3 r) O (by rw [upd_same]; simp [tailO]) hb (by rw [sizeLine_eq]; simp [tailO]) ?_
    repeat walk_at "dx"
    exact ⟨fun uu => .none, (fun c ds e => nomatch e), rfl⟩
end
section
open PySem PySem.W PyProof.Rows
set_option maxRecDepth 100000
set_option linter.unusedVariables false
set_option maxHeartbeats 4000000
variable {w : World} {mg mb : Str → Option Value}
/-- runes that are written well -/
noncomputable def Fair (r : Int) : Prop := rightR r = true ∧ (∀ n ∈ octsR r, 0 ≤ n ∧ n < 256) ∧ (octsR r).length ≤ 4
theorem octets_of_ok {prog : Program} {M : LMap} {Q : D → LMap → Prop} {a : Addr} {rs : List Int} (hM : M a = some (rs.map D.int)) (hr : ∀ r ∈ rs, Fair r) (hl : rs.length ≤ 1000) (q : Q (.bytes (Builtin.Bytes.joined #[] (rs.map fun r => byteArr (octsR r)))) M) : Fn prog w (GB w.params mg mb) (.ref 138) 16 [.lst a] M Q := by
  refine fn_plain (K := hd.heap_39 w.params) (xs := ["runes"]) (n := 15) rfl (by rfl) gb_lim ?hb (by rfl) (by decide) (by rfl) ?_
  case hb => walk_at "fn1"
  intro A base past stk L C Q0 O
  repeat walk_at "dx"
  refine ev_method (T := "bytes") (id := "bytes.join") FB.plainAttrs_bytes slot_join type_join ?_ (by first | exact rfl | trivial) rfl rfl rfl rfl
  repeat walk_at "dx"
  refine ⟨rfl, ?_⟩
  repeat walk_at "dx"
  refine ev_comp (fun uu => False) [] O (.inr fun uu x => x) (cl := []) rfl (by decide +kernel) rfl (by decide +kernel) rfl (fun uu uu e => nomatch e) (fun uu uu uu e => nomatch e) ?_ (fun uu => rfl)
  with_reducible refine ie_lst O ?_
  repeat walk_at "dx"
  refine ⟨a, _, rfl, hM, tok_name _ _, by rw [List.length_map, sizeLine_eq]; omega, fun Lc => ?_⟩
  refine comp_ind (fun i acc M₃ => M₃ = M ∧ acc = (rs.take i).map fun r => D.bytes (byteArr (octsR r))) (fun i e acc M₃ past Oc he hi hJ => ?_) (fun uu uu uu hJ => hJ.1 ▸ hM) (fun acc M₃ hJ c hc => ?_) ⟨rfl, rfl⟩
  · obtain ⟨rfl, rfl⟩ := hJ
    rw [List.getElem?_map] at he
    obtain ⟨r, h1, rfl⟩ := Option.map_eq_some_iff.mp he
    obtain ⟨f1, f2, f3⟩ := hr r (List.mem_of_getElem? h1)
    refine df_octets_of_rune 14 Oc rfl (by first | exact rfl | trivial) (by decide) ?_
    repeat walk_at "dx"
    refine FnP.fnEq up_glob (octets_of_rune_ok r f1 f2) ?_
    refine ⟨rfl, ?_⟩
    rw [List.take_add_one, List.map_append, h1]; rfl
  obtain ⟨rfl, rfl⟩ := hJ
  repeat walk_at "dx"
  have hsz : ∀ (l : List Int) (k : Nat), (∀ r ∈ l, Fair r) → (l.map fun r => byteArr (octsR r)).foldl (· + ·.size) k ≤ k + 4 * l.length := fun l => by
    induction l with
    | nil => intro k _; simp
    | cons x l ih =>
      intro k h
      have h1 := ih (k + (byteArr (octsR x)).size) fun r hr => h r (.tail _ hr)
      have h2 := (h x (.head _)).2.2
      rw [byteArr_size] at h1
      simp only [List.map_cons, List.foldl_cons, List.length_cons, byteArr_size]
      omega
  refine op_join (bs := rs.map fun r => byteArr (octsR r)) (by rw [upd_same, List.length_map, List.take_length, List.map_map]; rfl) (by have := hsz rs 0 hr; omega) ?_
  exact ⟨M₃, (Sub.refl _).upd hc, q⟩
end
section
open PySem PySem.W PyProof.Rows
set_option maxRecDepth 100000
set_option linter.unusedVariables false
noncomputable def rims : List Int := [127, 128, 2047, 2048, 65535, 65536, 1114111, 55295, 57344]
noncomputable def enc (r : Int) : List UInt8 := (octsR r).map fun n => n.toNat.toUInt8
theorem byteArr_enc (r : Int) : (byteArr (octsR r)).toList = enc r := rfl
theorem rims_cases {P : Int → Prop} (h1 : P 127) (h2 : P 128) (h3 : P 2047) (h4 : P 2048) (h5 : P 65535) (h6 : P 65536) (h7 : P 1114111) (h8 : P 55295) (h9 : P 57344) : ∀ r ∈ rims, P r := fun r h => by
  simp only [rims, List.mem_cons, List.mem_nil_iff, or_false] at h
  rcases h with rfl | rfl | rfl | rfl | rfl | rfl | rfl | rfl | rfl <;> assumption
theorem fair_rims : ∀ r ∈ rims, Fair r := by
  refine rims_cases ?_ ?_ ?_ ?_ ?_ ?_ ?_ ?_ ?_ <;> exact ⟨by decide, by decide, by decide⟩
theorem width_rims : ∀ r ∈ rims, widthR r = (enc r).length ∧ (enc r).length ≤ 4 ∧ 1 ≤ (enc r).length := by
  refine rims_cases ?_ ?_ ?_ ?_ ?_ ?_ ?_ ?_ ?_ <;> decide
theorem utf_rims : ∀ r ∈ rims, Utf ⟨#[r.toNat]⟩ (byteArr (octsR r)) := by
  refine rims_cases ?_ ?_ ?_ ?_ ?_ ?_ ?_ ?_ ?_
  · exact utf1
  · exact utf2
  · exact utf3
  · exact utf4
  · exact utf5
  · exact utf6
  · exact utf7
  · exact utf8
  · exact utf9
theorem joined_list (bs : List (Array UInt8)) : (Builtin.Bytes.joined #[] bs).toList = (bs.map Array.toList).flatten := by
  have h : ∀ (l : List (Array UInt8 × Nat)) (acc : Array UInt8), (l.foldl (fun out x => (if x.2 > 0 then out ++ (#[] : Array UInt8) else out) ++ x.1) acc).toList = acc.toList ++ (l.map (·.1.toList)).flatten := fun l => by
    induction l with
    | nil => intro acc; simp
    | cons x l ih =>
      intro acc
      rw [List.foldl_cons, ih]
      split <;> simp
  have h1 := h bs.zipIdx #[]
  have h2 : bs.zipIdx.map (fun x => x.1.toList) = bs.map Array.toList := by
    rw [show (fun x : Array UInt8 × Nat => x.1.toList) = Array.toList ∘ Prod.fst from rfl, ← List.map_map, List.zipIdx_map_fst]
  rw [h2] at h1
  exact h1
theorem octet_drop (pre l : List UInt8) (k : Nat) : octet (pre ++ l) (pre.length + k) = octet l k := by
  unfold octet
  congr 2
  simp [List.getD, List.getElem?_append_right]
theorem tail_drop (pre l : List UInt8) : ∀ (k p : Nat) (r : Int), tailR (pre ++ l) (pre.length + p) k r = tailR l p k r
  | 0, p, r => rfl
  | k + 1, p, r => by
    simp only [tailR]
    rw [octet_drop, Nat.add_assoc, tail_drop pre l k (p + 1)]
theorem rune_drop (pre l : List UInt8) : runeAt (pre ++ l) pre.length = runeAt l 0 := by
  have h0 := octet_drop pre l 0
  rw [Nat.add_zero] at h0
  unfold runeAt
  rw [h0, tail_drop pre l _ 1, List.length_append]
  have : ∀ m : Int, decide (((pre.length + l.length : Nat) : Int) ≤ (pre.length : Nat) + m) = decide (((l.length : Nat) : Int) ≤ ((0 : Nat) : Int) + m) := fun m => by
    rw [Bool.eq_iff_iff, decide_eq_true_iff, decide_eq_true_iff]; omega
  rw [this]
theorem rune_aux {r m a b : Int} (l post : List UInt8) (h0 : decide (octet (l ++ post) 0 < 128) = false) (h1 : headOf (octet (l ++ post) 0) = (m, a, b)) (hm : (m == 0) = false) (h2 : m < l.length) (h3 : tailR (l ++ post) 1 m.toNat a = some r) (h4 : (decide (b ≤ r) && rightR r) = true) : runeAt (l ++ post) 0 = (r, m + 1) := by
  unfold runeAt
  rw [h0, if_neg Bool.false_ne_true, h1]
  dsimp only
  rw [hm, Bool.false_or, if_neg (by rw [decide_eq_true_iff, List.length_append]; omega), show 0 + 1 = 1 from rfl, h3]
  dsimp only
  rw [h4, if_pos rfl]
theorem rune_enc : ∀ r ∈ rims, ∀ post : List UInt8, runeAt (enc r ++ post) 0 = (r, (((enc r).length : Nat) : Int)) := by
  refine rims_cases ?_ ?_ ?_ ?_ ?_ ?_ ?_ ?_ ?_ <;> intro post
  · rfl
  · exact rune_aux (m := 1) (a := 2) (b := 128) (enc 128) post (by kernel_rfl) (by kernel_rfl) (by kernel_rfl) (by decide) (by kernel_rfl) (by kernel_rfl)
  · exact rune_aux (m := 1) (a := 31) (b := 128) (enc 2047) post (by kernel_rfl) (by kernel_rfl) (by kernel_rfl) (by decide) (by kernel_rfl) (by kernel_rfl)
  · exact rune_aux (m := 2) (a := 0) (b := 2048) (enc 2048) post (by kernel_rfl) (by kernel_rfl) (by kernel_rfl) (by decide) (by kernel_rfl) (by kernel_rfl)
  · exact rune_aux (m := 2) (a := 15) (b := 2048) (enc 65535) post (by kernel_rfl) (by kernel_rfl) (by kernel_rfl) (by decide) (by kernel_rfl) (by kernel_rfl)
  · exact rune_aux (m := 3) (a := 0) (b := 65536) (enc 65536) post (by kernel_rfl) (by kernel_rfl) (by kernel_rfl) (by decide) (by kernel_rfl) (by kernel_rfl)
  · exact rune_aux (m := 3) (a := 4) (b := 65536) (enc 1114111) post (by kernel_rfl) (by kernel_rfl) (by kernel_rfl) (by decide) (by kernel_rfl) (by kernel_rfl)
  · exact rune_aux (m := 2) (a := 13) (b := 2048) (enc 55295) post (by kernel_rfl) (by kernel_rfl) (by kernel_rfl) (by decide) (by kernel_rfl) (by kernel_rfl)
  · exact rune_aux (m := 2) (a := 14) (b := 2048) (enc 57344) post (by kernel_rfl) (by kernel_rfl) (by kernel_rfl) (by decide) (by kernel_rfl) (by kernel_rfl)
theorem rune_cut : ∀ r ∈ rims, ∀ many, many < (enc r).length → ∀ j, j < many → runeAt (((enc r).take many).drop j) 0 = (65533, 1) := by
  refine rims_cases ?_ ?_ ?_ ?_ ?_ ?_ ?_ ?_ ?_ <;> decide
noncomputable def wd (r : Int) : Nat := (enc r).length
noncomputable def flat (rows : List Int) : List UInt8 := (rows.map enc).flatten
theorem flat_cons (r : Int) (rows : List Int) : flat (r :: rows) = enc r ++ flat rows := by simp [flat]
theorem segs_cut {r : Int} (hr : r ∈ rims) {many : Nat} (hm : many < (enc r).length) (pre : List UInt8) : ∀ k j, j + k = many → Segs (pre ++ (enc r).take many) (pre.length + j) (List.replicate k (65533, 1)) := by
  have hl : ((enc r).take many).length = many := by rw [List.length_take]; omega
  intro k
  induction k with
  | zero =>
    intro j hj
    have e : pre.length + j = (pre ++ (enc r).take many).length := by rw [List.length_append, hl]; omega
    rw [e]; exact .nil
  | succ k ih =>
    intro j hj
    refine .cons (by rw [List.length_append, hl]; omega) ?_ (by rw [Nat.add_assoc]; exact ih (j + 1) (by omega))
    have h1 := rune_drop (pre ++ ((enc r).take many).take j) (((enc r).take many).drop j)
    rw [List.append_assoc, List.take_append_drop, List.length_append, List.length_take, hl, Nat.min_eq_left (by omega)] at h1
    rw [h1]
    exact rune_cut r hr many hm j (by omega)
theorem segs_rows : ∀ (rows : List Int) (pre post : List UInt8) (rest : List (Int × Nat)), (∀ r ∈ rows, r ∈ rims) → Segs (pre ++ flat rows ++ post) (pre.length + (flat rows).length) rest → Segs (pre ++ flat rows ++ post) pre.length (rows.map (fun r => (r, wd r)) ++ rest)
  | [], pre, post, rest, _, h => by simpa [flat] using h
  | r :: rows, pre, post, rest, hr, h => by
    have hri := hr r (.head _)
    have ih := segs_rows rows (pre ++ enc r) post rest (fun x hx => hr x (.tail _ hx))
    rw [flat_cons] at h ⊢
    have e : pre ++ (enc r ++ flat rows) ++ post = pre ++ enc r ++ flat rows ++ post := by simp
    rw [e] at h ⊢
    have h2 := (width_rims r hri).2.2
    refine .cons ?_ ?_ ?_
    · simp only [List.length_append]; omega
    · have h1 := rune_drop pre (enc r ++ (flat rows ++ post))
      have e2 : pre ++ (enc r ++ (flat rows ++ post)) = pre ++ enc r ++ flat rows ++ post := by simp
      rw [e2] at h1
      rw [h1]
      exact rune_enc r hri _
    · have e3 : pre.length + wd r = (pre ++ enc r).length := by rw [List.length_append]; rfl
      rw [e3]
      refine ih ?_
      have e4 : (pre ++ enc r).length + (flat rows).length = pre.length + (enc r ++ flat rows).length := by simp only [List.length_append]; omega
      rw [e4]; exact h
theorem segs_all {rows : List Int} (hr : ∀ r ∈ rows, r ∈ rims) {r : Int} (h : r ∈ rims) {many : Nat} (hm : many < (enc r).length) : Segs (flat rows ++ (enc r).take many) 0 (rows.map (fun r => (r, wd r)) ++ List.replicate many (65533, 1)) := by
  have := segs_rows rows [] ((enc r).take many) (List.replicate many (65533, 1)) hr (by
    have := segs_cut h hm (flat rows) many 0 (by omega)
    simpa using this)
  simpa using this
theorem segs_plain {rows : List Int} (hr : ∀ r ∈ rows, r ∈ rims) : Segs (flat rows) 0 (rows.map (fun r => (r, wd r))) := by
  have := segs_all hr (r := 127) (by decide) (many := 0) (by decide)
  simpa using this
theorem flat_len : ∀ {rows : List Int}, (∀ r ∈ rows, r ∈ rims) → (flat rows).length ≤ 4 * rows.length
  | [], _ => by simp [flat]
  | r :: rows, hr => by
    have h1 := flat_len (rows := rows) fun x hx => hr x (.tail _ hx)
    have h2 := (width_rims r (hr r (.head _))).2.1
    rw [flat_cons, List.length_append, List.length_cons]; omega
theorem deqs_int_refl : ∀ ns : List Int, deqs (ns.map D.int) (ns.map D.int) = true
  | [] => rfl
  | n :: ns => by simp [deqs, deq, deqs_int_refl ns]
theorem plains_ints : ∀ ns : List Int, plains (ns.map D.int) = true ∧ highs (ns.map D.int) = 0
  | [] => ⟨rfl, rfl⟩
  | n :: ns => by simp [plains, plain, highs, high, plains_ints ns]
theorem placed_facts : ∀ (sg : List (Int × Nat)) (i : Nat), deqs (placed i sg) (placed i sg) = true ∧ plains (placed i sg) = true ∧ highs (placed i sg) ≤ 1
  | [], _ => ⟨rfl, rfl, Nat.zero_le _⟩
  | (r, z) :: rest, i => by
    obtain ⟨h1, h2, h3⟩ := placed_facts rest (i + z)
    simp [placed, deqs, deq, plains, plain, highs, high, h1, h2, h3]
end
section
open PySem PySem.W PyProof.Rows
set_option maxRecDepth 100000
set_option linter.unusedVariables false
set_option maxHeartbeats 4000000
variable {w : World} {mg mb : Str → Option Value}
theorem small5 {k : Int} (h1 : 0 ≤ k) (h2 : k < 5) : Builtin.Range.small 0 k 1 = true ∧ Builtin.Range.rangeSize 0 k 1 = (k.toNat : Nat) := by
  have : k = 0 ∨ k = 1 ∨ k = 2 ∨ k = 3 ∨ k = 4 := by omega
  rcases this with rfl | rfl | rfl | rfl | rfl <;> exact ⟨by decide +kernel, by decide +kernel⟩
theorem runes_right_ok {prog : Program} {a r : Addr} {M : LMap} {Q : D → LMap → Prop} (S : Src M a r) (q : ∀ M', Src M' a r → Same M M' a r → Q (.bool true) M') :
    Fn prog w (GB w.params mg mb) (.ref 242) 26 [.lst a] M Q := by
  refine (fn_cells (K := hd.heap_39 w.params) (xs := ["source"]) (n := 25) rfl (by rfl) gb_lim ?hb (fun uu => rfl) (by decide) (by decide) ?_ : FnX prog w _ _ _ _ _ _ (fun uu => False)).fn (fun uu x => x)
  case hb => walk_at "fn1"
  intro A base past stk L C Q0 O
  have hu : A.units + 3 + 10 * 25 < cLine := O.units
  repeat walk_at "dx"
  intro t ht
  have kp1 := (Kp.refl M a r).upd (ds := rims.map D.int) ht
  have S1 := S.upd (ds := rims.map D.int) ht
  obtain ⟨ta, tr⟩ := S.neA ht
  have tM := upd_same M t (rims.map D.int)
  change As prog w _ _ (upd M t (rims.map D.int)) _ _ _
  generalize upd M t (rims.map D.int) = M1 at kp1 S1 tM ⊢
  refine as_name O ?_ (.inr ⟨rfl, L + 1 + 1, rfl, .tail _ (.head _)⟩)
  repeat walk_at "dx"
  refine sx_assign_comp (fun uu => False) [(Str.ofString "source", .lst a), (Str.ofString "rims", .lst t)] O (.inr fun uu x => x) (cl := [(Str.ofString "source", L + 1), (Str.ofString "rims", L + 1 + 1)]) rfl (by decide +kernel) rfl (by decide +kernel) rfl (look2 rfl rfl) (fun Lc => look2 ⟨rfl, .inl rfl, .inl rfl, rfl⟩ ⟨rfl, .inl rfl, .inl rfl, rfl⟩) ?_ (fun uu => rfl) rfl
  refine ie_range O (n_range _) b_range rfl (by first | exact rfl | trivial) rfl ?_
  repeat walk_at "dx"
  walk_at "df"
  repeat walk_at "dx"
  refine take_ok S1 (by decide) (by decide) fun k M2 hk1 hk2 S2 s2 => ?_
  have kp2 := kp1.step s2
  have t2 : M2 t = some (rims.map D.int) := (s2 t ta tr).trans tM
  repeat walk_at "dx"
  refine ⟨0, k, 1, k.toNat, by constructor, by decide, PyProof.noPylong_small (by decide), ?_, ?_, tok_name _ _, by rw [sizeLine_eq]; simp [steps]; omega, fun Lc => ?_⟩
  · exact (small5 hk1 hk2).1
  · exact (small5 hk1 hk2).2
  refine comp_ind (fun i acc M' => Src M' a r ∧ Kp M M' a r ∧ M' t = some (rims.map D.int) ∧ ∃ rows : List Int, rows.length = i ∧ acc = rows.map D.int ∧ ∀ x ∈ rows, x ∈ rims) (fun i e acc M₃ past Oc he hi hJ => ?_) (fun uu uu uu uu => trivial) (fun acc M₃ hJ v hv => ?_) ⟨S2, kp2, t2, [], rfl, rfl, fun uu h => nomatch h⟩
  · refine hide fun uu kg => ?_
    obtain ⟨S3, kp3, t3, rows, hl, rfl, hr⟩ := hJ
    refine kg ?_
    walk_at "df"
    repeat walk_at "dx"
    refine one_ok S3 t3 ⟨ta, tr⟩ (by decide) (by decide) fun d M4 hd S4 s4 => ?_
    obtain ⟨x, hx, rfl⟩ := List.mem_map.mp hd
    refine ⟨S4, kp3.step s4, (s4 t ta tr).trans t3, rows ++ [x], by simp [hl], by simp, fun y hy => ?_⟩
    rcases List.mem_append.mp hy with hy | hy
    · exact hr y hy
    · rw [List.mem_singleton.mp hy]; exact hx
  refine hide fun uu kg => ?_
  obtain ⟨S3, kp3, t3, rows, hl, rfl, hr⟩ := hJ
  refine kg ?_
  have hl5 : rows.length ≤ 4 := by rw [hl]; simp [steps]; omega
  have kp4 := kp3.upd (ds := rows.map D.int) hv
  have S4 := S3.upd (ds := rows.map D.int) hv
  obtain ⟨va, vr⟩ := S3.neA hv
  have v4 := upd_same M₃ v (rows.map D.int)
  have tv : t ≠ v := fun z => by rw [← z, t3] at hv; cases hv
  have t4 : upd M₃ v (rows.map D.int) t = some (rims.map D.int) := (upd_ne tv).trans t3
  generalize upd M₃ v (rows.map D.int) = M4 at kp4 S4 v4 t4 ⊢
  repeat walk_at "dx"
  with_reducible refine sx_for O ?hp ?_ ?hs
  case hp => exact PassesOwn.leaving
  case hs => exact fun uu => rfl
  with_reducible refine ie_lst O ?_
  repeat walk_at "dx"
  refine ⟨t, _, rfl, t4, tok_name _ _, ?_⟩
  refine for_ind (fun i ρ' M' => M' = M4 ∧ ρ'.lookup (Str.ofString "rows") = some (.lst v) ∧ ρ'.lookup (Str.ofString "source") = some (.lst a) ∧ ρ'.lookup (Str.ofString "rims") = some (.lst t)) (fun i e ρ' M' he hi hJ => ?_) (fun i ρ' M' hJ => hJ.1 ▸ t4) (fun ρ' M' hJ => ?_) ⟨rfl, rfl, rfl, rfl⟩
  · obtain ⟨rfl, l1, l2, l3⟩ := hJ
    rw [List.getElem?_map] at he
    obtain ⟨x, hx, rfl⟩ := Option.map_eq_some_iff.mp he
    have hx := List.mem_of_getElem? hx
    obtain ⟨f1, f2, f3⟩ := fair_rims x hx
    obtain ⟨w1, w2, w3⟩ := width_rims x hx
    repeat walk_at "dx"
    refine df_octets_of_rune 14 O rfl (by first | exact rfl | trivial) (by decide) ?_
    repeat walk_at "dx"
    refine FnP.fnEq up_glob (octets_of_rune_ok x f1 f2) ?_
    repeat walk_at "dx"
    refine op_len_bytes (by rw [byteArr_size]; omega) ?_
    repeat walk_at "dx"
    refine df__law_width 10 O rfl (by first | exact rfl | trivial) (by decide) ?_
    repeat walk_at "dx"
    refine FnP.fnEq up_glob (width_ok x) ?_
    repeat walk_at "dx"
    have hw : (((byteArr (octsR x)).size : Nat) : Int) = widthR x := by rw [w1, byteArr_size]; simp [enc]
    rw [hw]
    refine ite_f (by simp) ?_
    repeat walk_at "dx"
    refine df_octets_of_rune 14 O rfl (by first | exact rfl | trivial) (by decide) ?_
    repeat walk_at "dx"
    refine FnP.fnEq up_glob (octets_of_rune_ok x f1 f2) ?_
    repeat walk_at "dx"
    refine ev_method (T := "str") (id := "str.encode") F.plainAttrs_str F.slot_str_encode F.type_str_encode ?_ trivial rfl rfl rfl rfl
    repeat walk_at "dx"
    have hxr : 0 ≤ x ∧ x ≤ 1114111 := by
      unfold rightR at f1
      simp only [Bool.and_eq_true, decide_eq_true_eq] at f1
      exact f1.1
    refine op_chr hxr.1 hxr.2 ?_
    refine ⟨rfl, ?_⟩
    repeat walk_at "dx"
    refine op_utf (utf_rims x hx) ?_
    repeat walk_at "dx"
    refine op_ne_bytes ?_
    repeat walk_at "dx"
    refine ite_f (by simp) ?_
    repeat walk_at "dx"
    exact ⟨rfl, l1, l2, l3⟩
  obtain ⟨rfl, l1, l2, l3⟩ := hJ
  repeat walk_at "dx"
  refine sx_assign2 O ?_ ⟨rfl, .head _⟩ rfl rfl rfl
  repeat walk_at "dx"
  refine df_octets_of 16 O rfl (by first | exact rfl | trivial) (by decide) ?_
  repeat walk_at "dx"
  walk_at "nm"
  repeat walk_at "dx"
  refine octets_of_ok (rs := rows) v4 (fun x hx => fair_rims x (hr x hx)) (by omega) ?_
  have hfl := joined_list (rows.map fun r => byteArr (octsR r))
  have hflat : ((rows.map fun r => byteArr (octsR r)).map Array.toList).flatten = flat rows := by
    rw [List.map_map]; rfl
  rw [hflat] at hfl
  generalize Builtin.Bytes.joined #[] (rows.map fun r => byteArr (octsR r)) = bb at hfl ⊢
  have hfn := flat_len hr
  have hbs : bb.size = (flat rows).length := by rw [← hfl]; simp
  repeat walk_at "dx"
  refine ⟨_, _, rfl, ?_⟩
  repeat walk_at "dx"
  refine df_runes_of 14 O rfl (by first | exact rfl | trivial) (by decide) ?_
  repeat walk_at "dx"
  have sg0 := segs_plain hr
  refine (runes_of_ok bb (by omega) (rows.map fun r => (r, wd r)) (by rw [hfl]; exact sg0) (by rw [List.length_map]; omega)).fnAt up_glob fun f es hf he => ?_
  subst he
  have e1 : List.map (fun x => D.int x.1) (rows.map fun r => (r, wd r)) = rows.map D.int := by rw [List.map_map]; rfl
  rw [e1]
  have vf : v ≠ f := fun z => by rw [← z, v4] at hf; cases hf
  have tf : t ≠ f := fun z => by rw [← z, t4] at hf; cases hf
  have kp5 := kp4.upd (ds := rows.map D.int) hf
  have S5 := S4.upd (ds := rows.map D.int) hf
  have f5 := upd_same M' f (rows.map D.int)
  have v5 : upd M' f (rows.map D.int) v = some (rows.map D.int) := (upd_ne vf).trans v4
  have t5 : upd M' f (rows.map D.int) t = some (rims.map D.int) := (upd_ne tf).trans t4
  generalize upd M' f (rows.map D.int) = M5 at kp5 S5 f5 v5 t5 ⊢
  walk_at "nm"
  refine op_ne_lsts 0 f5 v5 (Nat.le_of_eq (plains_ints rows).2) (by show A.units + 3 + 1 + 0 < cLine; omega) (plains_ints rows).1 (plains_ints rows).1 ?_
  refine ⟨_, rfl, ite_f (by rw [deqs_int_refl]; rfl) ?_⟩
  repeat walk_at "dx"
  intro d hd
  repeat walk_at "dx"
  have vd : v ≠ d := fun z => by rw [← z, v5] at hd; cases hd
  have td : t ≠ d := fun z => by rw [← z, t5] at hd; cases hd
  with_reducible refine sx_for O ?hp ?_ ?hs
  case hp => exact PassesOwn.leaving
  case hs => exact fun uu => rfl
  with_reducible refine ie_lst O ?_
  repeat walk_at "dx"
  walk_at "nm"
  refine ⟨v, _, rfl, (upd_ne vd).trans v5, tok_name _ _, ?_⟩
  refine for_ind (fun i ρ' M' => ∃ (acc : List D) (p : Nat), M' = upd M5 d acc ∧ acc ++ placed p ((rows.drop i).map fun r => (r, wd r)) = placed 0 (rows.map fun r => (r, wd r)) ∧ acc.length = i ∧ ρ'.lookup (Str.ofString "source") = some (.lst a) ∧ ρ'.lookup (Str.ofString "rims") = some (.lst t) ∧ ρ'.lookup (Str.ofString "rows") = some (.lst v) ∧
    ρ'.lookup (Str.ofString "octets") = some (.bytes bb) ∧ ρ'.lookup (Str.ofString "place") = some (.int p) ∧ ρ'.lookup (Str.ofString "due") = some (.lst d)) (fun i e ρ' M' he hi hJ => ?_) (fun i ρ' M' hJ => by obtain ⟨acc, p, rfl, uu⟩ := hJ; exact (upd_ne vd).trans v5) (fun ρ' M' hJ => ?_) ⟨[], 0, rfl, by simp, rfl, l2, l3, l1, rfl, rfl, rfl⟩
  · refine hide fun uu kg => ?_
    obtain ⟨acc, p, rfl, hacc, hal, l1, l2, l3, l4, l5, l6⟩ := hJ
    refine kg ?_
    rw [List.getElem?_map] at he
    obtain ⟨x, hx, rfl⟩ := Option.map_eq_some_iff.mp he
    have hxr := hr x (List.mem_of_getElem? hx)
    have hxw : widthR x = (wd x : Nat) := (width_rims x hxr).1
    have hil : i < rows.length := by simpa using hi
    have hdr : rows.drop i = x :: rows.drop (i + 1) := by
      rw [List.drop_eq_getElem_cons hil]
      congr 1
      rw [List.getElem?_eq_getElem hil] at hx
      exact Option.some.inj hx
    repeat walk_at "dx"
    refine sx_expr ?_ rfl rfl
    refine ev_method (T := "list") (id := "list.append") F.plainAttrs_list F.slot_list_append F.type_list_append ?_ (by first | exact rfl | trivial) rfl rfl rfl rfl
    walk_at "nm"
    refine ⟨⟨rfl, by rw [upd_same]; rfl⟩, ?_⟩
    repeat walk_at "dx"
    walk_at "nm"
    repeat walk_at "dx"
    refine op_append (upd_same _ _ _) (by rw [sizeLine_eq]; omega) ?_
    refine ⟨rfl, ?_⟩
    repeat walk_at "dx"
    walk_at "nm"
    repeat walk_at "dx"
    refine df__law_width 10 O rfl (by first | exact rfl | trivial) (by decide) ?_
    repeat walk_at "dx"
    refine FnP.fnEq up_glob (width_ok x) ?_
    rw [hxw]
    repeat walk_at "dx"
    refine ⟨acc ++ [.tup [.int p, .int x]], p + wd x, upd_upd _ _ _ _, ?_, by simp [hal], l1, l2, l3, l4, rfl, l6⟩
    rw [← hacc, hdr]
    simp [placed]
  refine hide fun uu kg => ?_
  obtain ⟨acc, p, rfl, hacc, hal, l1, l2, l3, l4, l5, l6⟩ := hJ
  refine kg ?_
  rw [List.length_map, List.drop_length] at hacc
  have hacc : acc = placed 0 (rows.map fun r => (r, wd r)) := by simpa [placed] using hacc
  subst hacc
  have kp6 := kp5.upd (ds := placed 0 (rows.map fun r => (r, wd r))) hd
  have S6 := S5.upd (ds := placed 0 (rows.map fun r => (r, wd r))) hd
  have d6 := upd_same M5 d (placed 0 (rows.map fun r => (r, wd r)))
  have v6 : upd M5 d (placed 0 (rows.map fun r => (r, wd r))) v = some (rows.map D.int) := (upd_ne vd).trans v5
  have t6 : upd M5 d (placed 0 (rows.map fun r => (r, wd r))) t = some (rims.map D.int) := (upd_ne td).trans t5
  generalize upd M5 d (placed 0 (rows.map fun r => (r, wd r))) = M6 at kp6 S6 d6 v6 t6 ⊢
  repeat walk_at "dx"
  refine df_rune_places 14 O rfl (by first | exact rfl | trivial) (by decide) ?_
  repeat walk_at "dx"
  walk_at "nm"
  repeat walk_at "dx"
  refine (rune_places_ok bb (by omega) (rows.map fun r => (r, wd r)) (by rw [hfl]; exact sg0) (by rw [List.length_map]; omega)).fnAt up_glob fun g es hg he => ?_
  subst he
  repeat walk_at "dx"
  have hpl : (placed 0 (rows.map fun r => (r, wd r))).length ≤ 4 := by
    have : ∀ (l : List (Int × Nat)) (i : Nat), (placed i l).length = l.length := fun l => by
      induction l with
      | nil => intro i; rfl
      | cons x l ih => intro i; obtain ⟨r, z⟩ := x; simp [placed, ih]
    rw [this, List.length_map]; exact hl5
  obtain ⟨pf1, pf2, pf3⟩ := placed_facts (rows.map fun r => (r, wd r)) 0
  generalize placed 0 (rows.map fun r => (r, wd r)) = pl at hpl pf1 pf2 pf3 d6 ⊢
  refine op_list_lst (upd_same _ _ _) (by rw [sizeLine_eq]; omega) fun h hh => ?_
  have hg6 := (upd_none hh).1
  have dg : d ≠ g := fun z => by rw [← z, d6] at hg; cases hg
  have vg : v ≠ g := fun z => by rw [← z, v6] at hg; cases hg
  have tg : t ≠ g := fun z => by rw [← z, t6] at hg; cases hg
  have dh : d ≠ h := fun z => by rw [← z, d6] at hg6; cases hg6
  have vh : v ≠ h := fun z => by rw [← z, v6] at hg6; cases hg6
  have th : t ≠ h := fun z => by rw [← z, t6] at hg6; cases hg6
  have kp7 := (kp6.upd (ds := pl) hg).upd (ds := pl) hh
  have S7 := (S6.upd (ds := pl) hg).upd (ds := pl) hh
  have h7 := upd_same (upd M6 g pl) h pl
  have d7 := (upd_ne (M := upd M6 g pl) (ds := pl) dh).trans ((upd_ne (ds := pl) dg).trans d6)
  have v7 := (upd_ne (M := upd M6 g pl) (ds := pl) vh).trans ((upd_ne (ds := pl) vg).trans v6)
  have t7 := (upd_ne (M := upd M6 g pl) (ds := pl) th).trans ((upd_ne (ds := pl) tg).trans t6)
  generalize upd (upd M6 g pl) h pl = M7 at kp7 S7 h7 d7 v7 t7 ⊢
  repeat walk_at "dx"
  walk_at "nm"
  refine op_ne_lsts 1 h7 d7 pf3 (by show A.units + 3 + 1 + 1 < cLine; omega) pf2 pf2 ?_
  refine ⟨_, rfl, ite_f (by rw [pf1]; rfl) ?_⟩
  repeat walk_at "dx"
  walk_at "df"
  repeat walk_at "dx"
  walk_at "nm"
  repeat walk_at "dx"
  walk_at "nm"
  repeat walk_at "dx"
  refine one_ok S7 t7 ⟨ta, tr⟩ (by decide) (by decide) fun y M8 hy S8 s8 => ?_
  obtain ⟨x, hx, rfl⟩ := List.mem_map.mp hy
  have kp8 := kp7.step s8
  have v8 : M8 v = some (rows.map D.int) := (s8 v va vr).trans v7
  obtain ⟨x1, x2, x3⟩ := fair_rims x hx
  obtain ⟨w1, w2, w3⟩ := width_rims x hx
  repeat walk_at "dx"
  walk_at "df"
  repeat walk_at "dx"
  walk_at "nm"
  repeat walk_at "dx"
  refine df__law_width 10 O rfl (by first | exact rfl | trivial) (by decide) ?_
  repeat walk_at "dx"
  refine FnP.fnEq up_glob (width_ok x) ?_
  rw [w1]
  repeat walk_at "dx"
  refine take_ok S8 (by omega) (by omega) fun m M9 hm1 hm2 S9 s9 => ?_
  have kp9 := kp8.step s9
  have v9 : M9 v = some (rows.map D.int) := (s9 v va vr).trans v8
  obtain ⟨many, rfl⟩ := Int.eq_ofNat_of_zero_le hm1
  have hmany : many < (enc x).length := by omega
  repeat walk_at "dx"
  refine df_runes_of 14 O rfl (by first | exact rfl | trivial) (by decide) ?_
  repeat walk_at "dx"
  walk_at "nm"
  refine ev_slice_bytes ?_ ?hs ?ht
  case hs => exact fun uu uu => rfl
  case ht => exact fun uu uu uu => rfl
  repeat walk_at "dx"
  refine df_octets_of_rune 14 O rfl (by first | exact rfl | trivial) (by decide) ?_
  repeat walk_at "dx"
  refine FnP.fnEq up_glob (octets_of_rune_ok x x1 x2) ?_
  repeat walk_at "dx"
  have hbx : (byteArr (octsR x)).size = (enc x).length := by rw [byteArr_size]; simp [enc]
  refine ⟨_, many, rfl, rfl, by omega, by omega, ?_⟩
  rw [byteArr_enc]
  refine op_add_bytes (by simp; omega) ?_
  repeat walk_at "dx"
  have sg1 := segs_all hr hx hmany
  have hll : (bb ++ ((enc x).take many).toArray).toList = flat rows ++ (enc x).take many := by rw [Array.toList_append, hfl]
  have hlz : (bb ++ ((enc x).take many).toArray).size ≤ 1000 := by simp; omega
  refine (runes_of_ok (bb ++ ((enc x).take many).toArray) hlz (rows.map (fun r => (r, wd r)) ++ List.replicate many (65533, 1)) (by rw [hll]; exact sg1) (by rw [List.length_append, List.length_map, List.length_replicate]; omega)).fnAt up_glob fun u es hu he => ?_
  subst he
  have e2 : List.map (fun x => D.int x.1) (rows.map (fun r => (r, wd r)) ++ List.replicate many (65533, 1)) = (rows ++ List.replicate many 65533).map D.int := by
    rw [List.map_append, List.map_append, List.map_map, List.map_replicate, List.map_replicate]; rfl
  rw [e2]
  have vu : v ≠ u := fun z => by rw [← z, v9] at hu; cases hu
  have kp10 := kp9.upd (ds := (rows ++ List.replicate many 65533).map D.int) hu
  have S10 := S9.upd (ds := (rows ++ List.replicate many 65533).map D.int) hu
  have u10 := upd_same M9 u ((rows ++ List.replicate many 65533).map D.int)
  have v10 := (upd_ne (M := M9) (ds := (rows ++ List.replicate many 65533).map D.int) vu).trans v9
  generalize upd M9 u ((rows ++ List.replicate many 65533).map D.int) = M10 at kp10 S10 u10 v10 ⊢
  repeat walk_at "dx"
  walk_at "nm"
  repeat walk_at "dx"
  intro z hz
  repeat walk_at "dx"
  refine op_mul_lst (upd_same _ _ _) (by omega) (by simp) (by simp; omega) ?_
  intro y hy
  repeat walk_at "dx"
  have e3 : (List.replicate ((many : Nat) : Int).toNat [D.int 65533]).flatten = (List.replicate many (65533 : Int)).map D.int := by
    rw [Int.toNat_natCast, lm_rep_flat_one, List.map_replicate]
  rw [e3]
  have hz' := (upd_none hy).1
  have uz : u ≠ z := fun q => by rw [← q, u10] at hz; cases hz
  have vz : v ≠ z := fun q => by rw [← q, v10] at hz; cases hz
  have uy : u ≠ y := fun q => by rw [← q, u10] at hz'; cases hz'
  have vy : v ≠ y := fun q => by rw [← q, v10] at hz'; cases hz'
  refine op_add_lst ((upd_ne vy).trans ((upd_ne vz).trans v10)) (upd_same _ _ _) (by rw [sizeLine_eq, List.length_map, List.length_map, List.length_replicate]; omega) ?_
  intro o ho
  have hy' := (upd_none ho).1
  have hzo := (upd_none hy').1
  have uo : u ≠ o := fun q => by rw [← q, u10] at hzo; cases hzo
  have e4 : rows.map D.int ++ (List.replicate many (65533 : Int)).map D.int = (rows ++ List.replicate many 65533).map D.int := (List.map_append ..).symm
  rw [e4]
  have kp11 := ((kp10.upd (ds := [D.int 65533]) hz).upd (ds := (List.replicate many (65533 : Int)).map D.int) hy).upd (ds := (rows ++ List.replicate many 65533).map D.int) ho
  have S11 := ((S10.upd (ds := [D.int 65533]) hz).upd (ds := (List.replicate many (65533 : Int)).map D.int) hy).upd (ds := (rows ++ List.replicate many 65533).map D.int) ho
  refine op_eq_lsts 0 ((upd_ne uo).trans ((upd_ne uy).trans ((upd_ne uz).trans u10))) (upd_same _ _ _) (Nat.le_of_eq (plains_ints _).2) (by show A.units + 3 + 1 + 0 < cLine; omega) (plains_ints _).1 (plains_ints _).1 ?_
  rw [deqs_int_refl]
  obtain ⟨M'', z1, z2, z3⟩ := kp11.fin S11
  exact ⟨M'', z1, q M'' z2 z3⟩
end
section
open PySem PySem.W PyProof.Rows
set_option maxRecDepth 100000
set_option linter.unusedVariables false
set_option maxHeartbeats 4000000
variable {w : World} {mg mb : Str → Option Value}
theorem op_max {prog : Program} {C : Cx} {ρ : Locs} {M : LMap} {n : Nat} {G : Heap → Prop} {Q : D → LMap → Prop} {i j : Int} (O : CxOk G C n) (q : Q (.int (if j > i then j else i)) M) : OpN prog w C ρ M (fun vs => PySem.call (.builtin "max") vs) [.int i, .int j] Q := fun s vs S rs => by
  obtain ⟨v₁, v₂, rfl, r₁, r₂⟩ := rs.two
  obtain ⟨_, rfl⟩ := r₁.int_; obtain ⟨_, rfl⟩ := r₂.int_
  refine max_two_ints O.handled fun h' tk hk => ?_
  by_cases c : j > i
  · rw [if_pos c] at q ⊢
    exact Post.keeps (tk := tk) S.lists hk (.int _ _) q
  · rw [if_neg c] at q ⊢
    exact Post.keeps (tk := tk) S.lists hk (.int _ _) q
section
open PySem.SeqAt
open MeetsSeq MeetsSeq2 MeetsSeq3 SeqRoads2
variable {prog : Program} {C : Cx} {ρ : Locs} {M : LMap} {Q : D → LMap → Prop} {l e : Addr} {vs : List Value} {ns : List Int}
theorem op_ne_raw (hb : C.base.get? l = some (lstO vs.toArray 0)) (hi : IntsAre vs ns) (he : M e = some []) (hu : C.A.units + 1 < cLine) (q : Q (.bool (!decide (ns = []))) M) : Op2 prog w C ρ M (compareOp .NotEq) (.raw (.ref l)) (.lst e) Q := fun s v₁ v₂ S r₁ r₂ => by
  have hl : s.heap.IsList l vs.toArray := IsLs.list ⟨0, S.stays _ _ hb⟩
  obtain ⟨uu, ws, hl', rs'⟩ := S.lists.lst he r₂
  obtain rfl := r₁.raw_; obtain ⟨rfl, _⟩ := r₂.lst_; obtain rfl := rs'.nil_
  have P : Post C s M Q (.bool (!decide (ns = []))) s := Post.same (tk := s.toks) S.lists (.bool _) q
  cases hi with
  | nil => exact RcNeAt.lists (e := fun uu => true) hl hl'.list rfl (by omega) (fun j h1 uu => absurd h1 (by simp)) prog w _ _ P
  | cons n t r => exact RcNeAt.lists_lengths hl hl'.list (by simp) (by omega) prog w _ _ P
theorem op_eq_raw (hb : C.base.get? l = some (lstO vs.toArray 0)) (hi : IntsAre vs ns) (he : M e = some []) (hu : C.A.units + 1 < cLine) (q : Q (.bool (decide (ns = []))) M) : Op2 prog w C ρ M (compareOp .Eq) (.raw (.ref l)) (.lst e) Q := fun s v₁ v₂ S r₁ r₂ => by
  have hl : s.heap.IsList l vs.toArray := IsLs.list ⟨0, S.stays _ _ hb⟩
  obtain ⟨uu, ws, hl', rs'⟩ := S.lists.lst he r₂
  obtain rfl := r₁.raw_; obtain ⟨rfl, _⟩ := r₂.lst_; obtain rfl := rs'.nil_
  have P : Post C s M Q (.bool (decide (ns = []))) s := Post.same (tk := s.toks) S.lists (.bool _) q
  cases hi with
  | nil => exact RcAt.lists (e := fun uu => true) hl hl'.list rfl (by omega) (fun j h1 uu => absurd h1 (by simp)) prog w _ _ P
  | cons n t r => exact RcAt.lists_lengths hl hl'.list (by simp) (by omega) prog w _ _ P
theorem op_item_raw {value slice : Expr} {n : Int} (hb : C.base.get? l = some (lstO vs.toArray 0)) (hi : IntsAre vs (n :: ns)) (q : Q (.int n) M)
    (hs : ∀ o i, subscripted slice false o i = operate [o, i] (getItem o i)) : Op2 prog w C ρ M (subscriptTail value slice) (.raw (.ref l)) (.int 0) Q := fun s v₁ v₂ S r₁ r₂ => by
  have hl : s.heap.IsList l vs.toArray := IsLs.list ⟨0, S.stays _ _ hb⟩
  obtain rfl := r₁.raw_; obtain ⟨_, rfl⟩ := r₂.int_
  cases hi with
  | cons n t r =>
    exact tail_any hl.typeIs slot_list_getitem.lookup (wpAny_getItem_list hl (by decide) (by decide) rfl (Post.same (tk := s.toks) S.lists (.int _ _) q)) (hs _ _)
end
/-- a list that holds the rest of the draws -/
noncomputable def Row (ns : List Int) : Prop := (∀ i ∈ ns, (0 : Int) ≤ i) ∧ ns.length ≤ 7
theorem upd_up {M : LMap} {a : Addr} {ds : List D} (h : M a = .none) {b : Addr} {es : List D} (e : M b = some es) : upd M a ds b = some es := (upd_ne fun q => by (first | exact (nb q h e).elim | obtain rfl := sb q h e | (rw [q, h] at e; cases e))).trans e
theorem pool_ok {prog : Program} {G : Heap → Prop} {a r : Addr} {M : LMap} {Q : D → LMap → Prop} {vs : List Value} {ns rs : List Int} (hG : ∀ base, G base → GB w.params mg mb base ∧ base.get? a = some (lstO vs.toArray 0)) (hi : IntsAre vs ns) (hr : M r = some (rs.map D.int)) (hrow : Row rs)
    (q : ∀ c t M', Src M' c t → Sub M M' → M c = .none → (t = r ∨ M t = .none) → Q (.lst c) M') : Fn prog w G (.ref 145) 12 [.raw (.ref a), .lst r] M Q := by
  refine fn_plain (K := hd.heap_39 w.params) (G := G) (xs := ["script", "row"]) (n := 11) rfl (by rfl) (fun base h => gb_lim base (hG base h).1) ?hb (by rfl) (by decide) (by rfl) ?_
  case hb => walk_at "fn2"
  intro A base past stk L C Q0 Og
  have O := Og.toG fun base h => (hG base h).1
  have hb := (hG _ Og.glob).2
  have hu : A.units + 3 + 10 * 11 < cLine := O.units
  repeat walk_at "dx"
  intro e he
  have re : r ≠ e := fun z => by rw [← z, hr] at he; cases he
  refine op_ne_raw hb hi (upd_same _ _ _) (by show A.units + 3 + 1 < cLine; omega) ?_
  have r1 : upd M e [] r = some (rs.map D.int) := (upd_ne re).trans hr
  have k1 : Sub M (upd M e []) := (Sub.refl M).upd he
  generalize upd M e [] = M1 at r1 k1 ⊢
  cases ns with
  | nil =>
    repeat walk_at "dx"
    refine op_max O ?_
    have hbig : 0 ≤ (if -1 - 0 > 0 then -1 - 0 else 0) := by split <;> omega
    generalize (if -1 - 0 > 0 then -1 - 0 else 0) = big at hbig ⊢
    repeat walk_at "dx"
    refine op_mul (IntMulOk.of_right (intBits_le_64 (by decide) (by decide))) ?_
    repeat walk_at "dx"
    have hmx := fmod_bounds (a := (big.fmod 2147483629 + 17) * 48271) (b := 2147483647) (by decide)
    generalize ((big.fmod 2147483629 + 17) * 48271).fmod 2147483647 = mixed at hmx ⊢
    refine op_pow (by decide) (by decide) (by decide) ?_
    repeat walk_at "dx"
    have hx : 0 ≤ (if decide ((10 : Int) ^ (18 : Int).toNat ≤ big) = true then (1 : Int) else 0) ∧ (if decide ((10 : Int) ^ (18 : Int).toNat ≤ big) = true then (1 : Int) else 0) ≤ 1 := by split <;> decide
    generalize (if decide ((10 : Int) ^ (18 : Int).toNat ≤ big) = true then (1 : Int) else 0) = one at hx ⊢
    refine op_mul (IntMulOk.of_right (intBits_le_64 (by omega) (by omega))) ?_
    have hbo : 0 ≤ big * one := Int.mul_nonneg hbig hx.1
    generalize big * one = bo at hbo ⊢
    repeat walk_at "dx"
    intro f hf
    repeat walk_at "dx"
    refine op_eq_raw hb hi (upd_same _ _ _) (by show A.units + 3 + 1 < cLine; omega) ?_
    refine ⟨_, rfl, ite_t rfl ?_⟩
    repeat walk_at "dx"
    intro c hc
    have kf := k1.upd (ds := []) (k1.none hf)
    have k2 := kf.upd (ds := [D.int bo, D.int mixed, D.lst r]) (kf.none hc)
    have r2 := upd_up (ds := [D.int bo, D.int mixed, D.lst r]) hc (upd_up (ds := []) hf r1)
    have c2 := upd_same (upd M1 f []) c [D.int bo, D.int mixed, D.lst r]
    have hcr : c ≠ r := fun z => by rw [z] at hc; rw [upd_up (ds := []) hf r1] at hc; cases hc
    exact ⟨_, Sub.refl _, q c r _ ⟨hcr, bo, mixed, rs, c2, r2, hbo, hmx.1, hmx.2, hrow.1, hrow.2⟩ k2 (kf.none hc) (.inl rfl)⟩
  | cons n ns =>
    repeat walk_at "dx"
    refine op_item_raw hb hi ?_ (fun uu uu => rfl)
    repeat walk_at "dx"
    refine op_max O ?_
    have hbig : 0 ≤ (if -1 - n > n then -1 - n else n) := by split <;> omega
    generalize (if -1 - n > n then -1 - n else n) = big at hbig ⊢
    repeat walk_at "dx"
    refine op_mul (IntMulOk.of_right (intBits_le_64 (by decide) (by decide))) ?_
    repeat walk_at "dx"
    have hmx := fmod_bounds (a := (big.fmod 2147483629 + 17) * 48271) (b := 2147483647) (by decide)
    generalize ((big.fmod 2147483629 + 17) * 48271).fmod 2147483647 = mixed at hmx ⊢
    refine op_pow (by decide) (by decide) (by decide) ?_
    repeat walk_at "dx"
    have hx : 0 ≤ (if decide ((10 : Int) ^ (18 : Int).toNat ≤ big) = true then (1 : Int) else 0) ∧ (if decide ((10 : Int) ^ (18 : Int).toNat ≤ big) = true then (1 : Int) else 0) ≤ 1 := by split <;> decide
    generalize (if decide ((10 : Int) ^ (18 : Int).toNat ≤ big) = true then (1 : Int) else 0) = one at hx ⊢
    refine op_mul (IntMulOk.of_right (intBits_le_64 (by omega) (by omega))) ?_
    have hbo : 0 ≤ big * one := Int.mul_nonneg hbig hx.1
    generalize big * one = bo at hbo ⊢
    repeat walk_at "dx"
    intro f hf
    repeat walk_at "dx"
    refine op_eq_raw hb hi (upd_same _ _ _) (by show A.units + 3 + 1 < cLine; omega) ?_
    refine ⟨_, rfl, ite_f rfl ?_⟩
    repeat walk_at "dx"
    intro t ht
    repeat walk_at "dx"
    intro c hc
    have k2 := k1.upd (ds := []) (k1.none hf)
    have k3 := k2.upd (ds := []) (k2.none ht)
    have k4 := k3.upd (ds := [D.int bo, D.int mixed, D.lst t]) (k3.none hc)
    have t2 := upd_up (ds := [D.int bo, D.int mixed, D.lst t]) hc (upd_same (upd M1 f []) t [])
    have c2 := upd_same (upd (upd M1 f []) t []) c [D.int bo, D.int mixed, D.lst t]
    have hct : c ≠ t := fun z => by (first | exact (nb z (upd_same _ _ _) hc).elim | obtain rfl := sb z (upd_same _ _ _) hc | (rw [z, upd_same] at hc; cases hc))
    exact ⟨_, Sub.refl _, q c t _ ⟨hct, bo, mixed, [], c2, t2, hbo, hmx.1, hmx.2, (fun uu h => nomatch h), Nat.zero_le _⟩ k4 (k3.none hc) (.inr (k2.none ht))⟩
theorem dp_values {prog : Program} {C : Cx} {ρ : Locs} {M : LMap} {n : Nat} {np pos : Pos} {args : List Expr} {Q : D → LMap → Prop} (Op : CxOk (GPair w.params mg mb) C n) (hn : 30 ≤ n) (hx : C.env.kindOf (Str.ofString "_law_values_right") = some .globalImplicit)
    (he : Heads args C.env)
    (h : Evs prog w C ρ M pos args fun ds M₂ => Fn prog w (GPair w.params mg mb) (.ref 230) 30 ds M₂ Q) : Ev prog w C ρ M (.Call (.Name (Str.ofString "_law_values_right") np) args [] pos) Q := by
  refine hide fun uu kg => ?_
  obtain ⟨uu, uu, uu, uu, hK⟩ := k__law_values_right w.params
  refine kg ?_
  exact ev_call (n' := 30) Op (fun uu h => gb_in _ h.1) hn hK (ev_global Op.gb (g__law_values_right _) (fun uu uu => .raw _) ⟨rfl, h⟩ hx (by decide)) he
noncomputable def GLaw (P : Params) (mg mb : Str → Option Value) (a : Addr) (vs : List Value) : Heap → Prop := fun base => GPair P mg mb base ∧ base.get? a = some (lstO vs.toArray 0)
theorem dp_pool {prog : Program} {C : Cx} {ρ : Locs} {M : LMap} {n : Nat} {np pos : Pos} {args : List Expr} {Q : D → LMap → Prop} {a : Addr} {vs : List Value} (Op : CxOk (GLaw w.params mg mb a vs) C n) (hn : 12 ≤ n) (hx : C.env.kindOf (Str.ofString "_law_pool") = some .globalImplicit)
    (he : Heads args C.env)
    (h : Evs prog w C ρ M pos args fun ds M₂ => Fn prog w (GLaw w.params mg mb a vs) (.ref 145) 12 ds M₂ Q) : Ev prog w C ρ M (.Call (.Name (Str.ofString "_law_pool") np) args [] pos) Q := by
  refine hide fun uu kg => ?_
  obtain ⟨uu, uu, uu, uu, hK⟩ := k__law_pool w.params
  refine kg ?_
  exact ev_call (n' := 12) Op (fun uu h => gb_in _ h.1.1) hn hK (ev_global (Op.toG fun uu h => h.1.1) (g__law_pool _) (fun uu uu => .raw _) ⟨rfl, h⟩ hx (by decide)) he
theorem law_ok {prog : Program} {a : Addr} {M : LMap} {vs : List Value} {ns : List Int} (hi : IntsAre vs ns) (hM : M tabA = some []) :
    Fn prog w (GLaw w.params mg mb a vs) (.ref 249) 40 [.raw (.ref a)] M (fun d M' => d = .bool true ∧ M' tabA = some []) := by
  refine fn_plain (K := hd.heap_39 w.params) (xs := ["script"]) (n := 39) rfl (by rfl) (fun base h => gpair_lim base h.1) ?hb (by rfl) (by decide) (by rfl) ?_
  case hb => walk_at "fn1"
  intro A base past stk L C Q0 Og
  have Op := Og.toG fun uu h => h.1
  have O := Op.gb
  have hu : A.units + 3 + 10 * 39 < cLine := O.units
  repeat walk_at "dx"
  refine dp_pool Og (by decide) rfl (by first | exact rfl | trivial) ?_
  repeat walk_at "dx"
  intro r hr
  repeat walk_at "dx"
  have hrt : tabA ≠ r := fun z => by rw [← z, hM] at hr; cases hr
  refine pool_ok (ns := ns) (rs := [3, 1, 0, 4, 1, 0, 0]) (fun base h => ⟨h.1.1, h.2⟩) hi (upd_same _ _ _) ⟨by decide, by decide⟩ fun c t M1 S1 k1 hc ht => ?_
  have tM : M1 tabA = some [] := k1 _ _ (upd_up hr hM)
  have hct : tabA ≠ c := fun z => by rw [← z, upd_up hr hM] at hc; cases hc
  have htt : tabA ≠ t := fun z => by
    rcases ht with h | h
    · exact hrt (z.trans h)
    · rw [← z, upd_up hr hM] at h; cases h
  repeat walk_at "dx"
  refine dp_values Op (by decide) rfl (by first | exact rfl | trivial) ?_
  repeat walk_at "dx"
  refine values_right_ok S1 tM hct htt fun M2 S2 s2 => ?_
  repeat walk_at "dx"
  refine df__law_runes_right 26 O rfl (by first | exact rfl | trivial) (by decide) ?_
  repeat walk_at "dx"
  refine runes_right_ok S2 fun M3 S3 s3 => ?_
  exact ⟨_, Sub.refl _, rfl, (s3 _ hct htt).trans ((s2 _ hct htt).trans tM)⟩
end
section
open PySem PySem.W PyProof.Rows
open PySem.Calls
open PyProof.Rows.TI (gone gone_get gone_none gone_some)
set_option maxRecDepth 100000
set_option linter.unusedVariables false
set_option maxHeartbeats 8000000
theorem end_good {w : World} {s₁ s' : Shared} {cl : Str → Option Addr} {mean : ExcName → Option Value} {ns : List Int} (hg : s₁.gens = #[]) (hr : s' = { s₁ with heap := s'.heap, toks := s'.toks }) (ho : OldK s₁.heap s'.heap) :
    GoodWG PySem.Challenge.rw_pq0222_01.row.claim cl mean [ofPy (PyData.list (ns.map PyData.int))] s₁ (Except.ok (Flow.ret (.bool true))) s' := by
  refine ⟨.inl ⟨_, .bool true, [], rfl, fun cls => ?_, .bool _, ?_, fun uu => ⟨List.nodup_nil, fun uu h => nomatch h⟩⟩, ho, by rw [hr], fun y hy => ?_⟩
  · first | rfl | exact raisesW_false (fun ct h => by cases h) _ | (unfold ClaimW.raises; rfl)
  · exact postW_of (by wrow_shape) (by wtm_val) (by w_fin)
  · have : s'.gens = s₁.gens := by rw [hr]
    rw [this, hg] at hy
    simp at hy
theorem closing : PySem.Challenge.rw_pq0222_01.Holds := by
  refine hd.head rfl rfl rfl ?_
  intro w s₀ s₁ mg mb G Y fa o pm cd doc dV kV ho hdep hcd hD hmg hg args vals as hpre hlay hrd hwl hlo
  have KX : (hd.heap_39 w.params).In s₁.heap := km_in_of Y
  have KT : s₁.heap.get? tabA = some (tabObj #[]) := km_tabs_of Y 220 (.head _)
  refine Ground.open G ?_
  intro T B D TE TW
  wrow_args hpre hlay hrd hwl hlo
  rename_i ns hs hlay0 hL1 hr1 hl2 w4 w3 l vs w0 hL ra w1 r0 hI hr hc1 hc0
  have efa : fa = 249 := by
    have h1 := mg_of KX T.g (g_law w.params)
    have h2 : mg (Str.ofString "law") = some (.ref fa) := hmg
    rw [h2] at h1
    cases h1; rfl
  subst efa
  have hlst : s₁.heap.get? l = some (lstO vs.toArray 0) := by
    refine hide fun uu kg => ?_
    obtain ⟨o', ho', hc', n', hd'⟩ := hL
    refine kg ?_
    cases w1 with
    | list h1 h2 =>
      rw [h1] at ho'
      cases ho'
      cases hd'
      exact h1
  let base := gone s₁.heap [tabA]
  have bget : ∀ b o, b ≠ tabA → s₁.heap.get? b = some o → base.get? b = some o := fun b o hb e => (gone_get (by simpa using hb)).trans e
  have bdict : ∀ b o, s₁.heap.get? b = some o → (∀ vs, o.data ≠ .fields vs) → base.get? b = some o := fun b o e hn => bget b o (fun z => by (first | exact (nb z KT e).elim | obtain rfl := sb z KT e | (rw [z, KT] at e; cases e)); exact hn _ rfl) e
  have bns : ∀ {a : Addr} {m : Str → Option Value}, s₁.heap.Ns a m → base.Ns a m := fun ⟨o, es, ep, e, hd, r⟩ => ⟨o, es, ep, bdict _ _ e (fun vs q => by (first | exact (nne hd q).elim | exact (dd hd q rfl).elim | obtain rfl := some_inj hd q | (rw [hd] at q; cases q))), hd, r⟩
  have bK : (hd.heap_39 w.params).In base := fun a o e => bget a o (fun z => by
    rw [z] at e
    have : (hd.heap_39 w.params).lookup 220 = none := rfl
    rw [show tabA = 220 from rfl, this] at e; cases e) (KX a o e)
  have hlim : base.NoLimit := let ⟨mc, h1, h2⟩ := T.nolimit; ⟨mc, bns h1, h2⟩
  have hG : GLaw w.params mg mb l vs base := by
    refine ⟨⟨⟨bK, ⟨bns T.g, bns T.b, hlim, T.builtins, T.free⟩⟩, ?_⟩, bdict _ _ hlst (fun vs q => by cases q)⟩
    refine hide fun uu kg => ?_
    obtain ⟨bm, ob, h1, h2, h3, h4, h5, h6⟩ := T.bmain
    refine kg ?_
    refine ⟨bm, ob, h1, h2, fun z => ?_, fun z => ?_, bdict _ _ h3 (fun vs q => by (first | exact (nne h6 q).elim | exact (dd h6 q rfl).elim | obtain rfl := some_inj h6 q | (rw [h6] at q; cases q))), h4, h5, h6⟩
    · refine hide fun uu kg => ?_
      obtain ⟨o', es, ep, e, hd', uu⟩ := T.g
      refine kg ?_
      (first | exact (nb z e h3).elim | obtain rfl := sb z e h3 | (rw [z, e] at h3; cases h3)); (first | exact (nne h6 hd').elim | exact (dd h6 hd' rfl).elim | obtain rfl := some_inj h6 hd' | (rw [h6] at hd'; cases hd'))
    · (first | exact (nb z KT h3).elim | obtain rfl := sb z KT h3 | (rw [z, KT] at h3; cases h3)); cases h6
  have law := law_ok (prog := PySem.Challenge.rw_pq0222_01.row.prog) (w := w) (mg := mg) (mb := mb) (a := l) (M := upd (fun uu => .none) tabA []) hI (upd_same _ _ _)
  refine wpAny_mono (law callerA [] base s₁ [.ref l] _ rfl (by decide) (by decide) rfl hG (fun b o e => (gone_some e).2) (fun env he => nomatch he) ?_ ⟨_, KT⟩ (.cons (.raw _) .nil)) (fun v s' P => ?_) fun uu uu x => x
  · intro a ds e
    by_cases z : a = tabA
    · subst z
      (first | exact (nne (upd_same _ _ _) e).elim | exact (dd (upd_same _ _ _) e rfl).elim | obtain rfl := some_inj (upd_same _ _ _) e | (rw [upd_same] at e; cases e))
      exact ⟨gone_none (.head _), .inr ⟨rfl, #[], KT, trivial, fun pos cv q => nomatch q⟩⟩
    · (first | exact (nne (upd_ne z) e).elim | exact (dd (upd_ne z) e rfl).elim | obtain rfl := some_inj (upd_ne z) e | (rw [upd_ne z] at e; cases e))
  · refine hide fun uu kg => ?_
    obtain ⟨d, M', S, L, r, rfl, hM'⟩ := P
    refine kg ?_
    obtain rfl := r.bool_
    refine end_good (w := w) hg S.rest ?_
    refine ⟨fun b ob e => ?_, fun b ob e => S.there b ob e⟩
    by_cases z : b = tabA
    · subst z
      (first | exact (nne KT e).elim | exact (dd KT e rfl).elim | obtain rfl := some_inj KT e | (rw [KT] at e; cases e))
      rcases (L tabA [] hM').2 with ⟨q, _⟩ | ⟨_, ps, e', _⟩
      · exact absurd rfl q
      · refine .inr (.inl ⟨?_, rfl, #[], ps, rfl, by rw [e']; simp [tabObj]⟩)
        refine hide fun uu kg => ?_
        obtain ⟨oc, vc, uu, uu, uu, uu, uu, uu, uu, q1, q2, q3, q4, uu⟩ := code_222 w.params KX
        refine kg ?_
        exact ⟨222, oc, vc, q1, q2, q3, q4⟩
    · obtain ⟨sl, e', q⟩ := S.keep b ob e (upd_ne z) (fun z => nomatch z)
      rw [q (fun z => nomatch z)] at e'
      exact .inl e'
end
end Mine
theorem PySem.Challenge.cw_pq0222_01_holds : PySem.Challenge.rw_pq0222_01.Holds :=
  Mine.closing
