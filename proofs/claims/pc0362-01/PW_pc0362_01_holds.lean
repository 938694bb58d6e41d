import PyProof.Rows.All
import Wide.All
import OpenK.AllK
import Wide.FinOn
import Lean
import PySem.Challenge.RW_pc0362_01
open PySem PySem.W PyProof.Rows PySem.Calls
set_option Elab.async false
set_option maxRecDepth 100000
set_option maxHeartbeats 8000000
set_option genSizeOf false
set_option genInjectivity false
set_option linter.all false
namespace Mine
/-! the view of the text and the part of the heap that it leaves, written out; the defs' parameters, bodies and scopes are read off the row's text -/
def nthS : List Stmt → Nat → Option Stmt
  | [], _ => none
  | x :: _, 0 => some x
  | _ :: r, n + 1 => nthS r n
def clsBody : Option Stmt → List Stmt
  | some (.ClassDef _ _ _ body _ _ _ _ _ _ _) => body
  | _ => []
def fnBits : Option Stmt → Option (Arguments × List Stmt × Scope)
  | some (.FunctionDef _ p b _ _ _ s _ _ _) => some (p, b, s)
  | _ => none
def dropAt : List Stmt → List Bool → List Stmt
  | x :: r, true :: k => x :: dropAt r k
  | _ :: r, false :: k => dropAt r k
  | _, _ => []
abbrev topS : List Stmt := PySem.Challenge.pw_pc0362_01.main.body
noncomputable def withBits {α : Type} (x : Option (Arguments × List Stmt × Scope)) (p : Arguments) (b : List Stmt) (s : Scope) (_ : x = some (p, b, s)) (k : Arguments → List Stmt → Scope → α) : α := k p b s
noncomputable def withList {α : Type} (x l : List Stmt) (_ : x = l) (k : List Stmt → α) : α := k l
noncomputable def hd.view_39 : Program := withList (dropAt topS [false, true, true, false, true, true, true, false, true, true, true, true, true, true, true, true, false, true, true, true, true, true, true, true, true, true, true, true, true]) [_, _, _, _, _, _, _, _, _, _, _, _, _, _, _, _, _, _, _, _, _, _, _, _, _] rfl fun l => { PySem.Challenge.pw_pc0362_01 with main := { PySem.Challenge.pw_pc0362_01.main with body := l } }
noncomputable def hd.heap_39 : Params → Frag := fun P =>
  (nat_lit 2, ({ cls := Value.none, data := Data.dict #[{ hash := PyData.keyHash P (Str.ofString "type.__subclasses__.Exception.0"), key := Value.str (Str.ofString "type.__subclasses__.Exception.0") 214, val := Value.int 31 0 }, { hash := PyData.keyHash P (Str.ofString "type.__subclasses__.Exception.n"), key := Value.str (Str.ofString "type.__subclasses__.Exception.n") 215, val := Value.int 1 0 }] 2 } : Obj)) ::
  (nat_lit 3, ({ cls := Value.type "dict", data := Data.dict #[{ hash := PyData.keyHash P (Str.ofString "__name__"), key := Value.str (Str.ofString "__name__") 165, val := Value.str (Str.ofString "law_pc0362_01") 462 }, { hash := PyData.keyHash P (Str.ofString "__doc__"), key := Value.str (Str.ofString "__doc__") 166, val := Value.none }, { hash := PyData.keyHash P (Str.ofString "__package__"), key := Value.str (Str.ofString "__package__") 167, val := Value.none }, { hash := PyData.keyHash P (Str.ofString "__loader__"), key := Value.str (Str.ofString "__loader__") 168, val := Value.builtin "__main__.__loader__#opaque" }, { hash := PyData.keyHash P (Str.ofString "__spec__"), key := Value.str (Str.ofString "__spec__") 169, val := Value.none }, { hash := PyData.keyHash P (Str.ofString "__annotations__"), key := Value.str (Str.ofString "__annotations__") 170, val := Value.ref 6 }, { hash := PyData.keyHash P (Str.ofString "__builtins__"), key := Value.str (Str.ofString "__builtins__") 171, val := Value.ref 4 }, { hash := PyData.keyHash P (Str.ofString "__file__"), key := Value.str (Str.ofString "__file__") 173, val := Value.str (Str.ofString "/claim/cut.py") 172 }, { hash := PyData.keyHash P (Str.ofString "__cached__"), key := Value.str (Str.ofString "__cached__") 174, val := Value.none }, { hash := PyData.keyHash P (Str.ofString "SwitchError"), key := Value.str (Str.ofString "SwitchError") 217, val := Value.ref 31 }, { hash := PyData.keyHash P (Str.ofString "TableError"), key := Value.str (Str.ofString "TableError") 233, val := Value.ref 44 }, { hash := PyData.keyHash P (Str.ofString "EVERYBODY"), key := Value.str (Str.ofString "EVERYBODY") 241, val := Value.int 281474976710655 240 }, { hash := PyData.keyHash P (Str.ofString "is_group"), key := Value.str (Str.ofString "is_group") 248, val := Value.ref 53 }, { hash := PyData.keyHash P (Str.ofString "is_broadcast"), key := Value.str (Str.ofString "is_broadcast") 255, val := Value.ref 60 }, { hash := PyData.keyHash P (Str.ofString "SIZE_ENDS"), key := Value.str (Str.ofString "SIZE_ENDS") 264, val := Value.ref 61 }, { hash := PyData.keyHash P (Str.ofString "SIZE_NAMES"), key := Value.str (Str.ofString "SIZE_NAMES") 272, val := Value.ref 62 }, { hash := PyData.keyHash P (Str.ofString "SORTS"), key := Value.str (Str.ofString "SORTS") 276, val := Value.ref 63 }, { hash := PyData.keyHash P (Str.ofString "sort_of_target"), key := Value.str (Str.ofString "sort_of_target") 283, val := Value.ref 70 }, { hash := PyData.keyHash P (Str.ofString "class_of_size"), key := Value.str (Str.ofString "class_of_size") 292, val := Value.ref 77 }, { hash := PyData.keyHash P (Str.ofString "counted_between"), key := Value.str (Str.ofString "counted_between") 301, val := Value.ref 84 }, { hash := PyData.keyHash P (Str.ofString "PortCounters"), key := Value.str (Str.ofString "PortCounters") 356, val := Value.ref 123 }, { hash := PyData.keyHash P (Str.ofString "Counters"), key := Value.str (Str.ofString "Counters") 461, val := Value.ref 202 }, { hash := PyData.keyHash P (Str.ofString "_law_pool"), key := Value.str (Str.ofString "_law_pool") 474, val := Value.ref 213 }, { hash := PyData.keyHash P (Str.ofString "_law_take"), key := Value.str (Str.ofString "_law_take") 483, val := Value.ref 220 }, { hash := PyData.keyHash P (Str.ofString "_law_one"), key := Value.str (Str.ofString "_law_one") 491, val := Value.ref 227 }, { hash := PyData.keyHash P (Str.ofString "_law_sizes"), key := Value.str (Str.ofString "_law_sizes") 497, val := Value.ref 234 }, { hash := PyData.keyHash P (Str.ofString "_law_class"), key := Value.str (Str.ofString "_law_class") 503, val := Value.ref 239 }, { hash := PyData.keyHash P (Str.ofString "_law_sort"), key := Value.str (Str.ofString "_law_sort") 510, val := Value.ref 246 }, { hash := PyData.keyHash P (Str.ofString "_law_names"), key := Value.str (Str.ofString "_law_names") 521, val := Value.ref 253 }, { hash := PyData.keyHash P (Str.ofString "_law_counts"), key := Value.str (Str.ofString "_law_counts") 533, val := Value.ref 260 }, { hash := PyData.keyHash P (Str.ofString "_law_refused"), key := Value.str (Str.ofString "_law_refused") 540, val := Value.ref 267 }, { hash := PyData.keyHash P (Str.ofString "_law_step"), key := Value.str (Str.ofString "_law_step") 556, val := Value.ref 274 }, { hash := PyData.keyHash P (Str.ofString "_law_is_right"), key := Value.str (Str.ofString "_law_is_right") 562, val := Value.ref 279 }, { hash := PyData.keyHash P (Str.ofString "law"), key := Value.str (Str.ofString "law") 568, val := Value.ref 284 }] 34 } : Obj)) ::
  (nat_lit 15, ({ cls := Value.type "tuple", data := Data.seq #[Value.type "Exception"] } : Obj)) ::
  (nat_lit 22, ({ cls := Value.type "tuple", data := Data.seq #[] } : Obj)) ::
  (nat_lit 24, ({ cls := Value.type "tuple", data := Data.seq #[Value.str (Str.ofString "self") 204, Value.str (Str.ofString "message") 205] } : Obj)) ::
  (nat_lit 25, ({ cls := Value.type "tuple", data := Data.seq #[] } : Obj)) ::
  (nat_lit 27, ({ cls := Value.type "code", data := Data.fields #[Value.str (Str.ofString "__init__") 201, Value.str (Str.ofString "SwitchError.__init__") 202, Value.str (Str.ofString "/claim/cut.py") 203, Value.int 4 0, Value.int 2 0, Value.int 0 0, Value.int 0 0, Value.int 3 0, Value.ref 22, Value.bool true, Value.int 181 0, Value.ref 23, Value.none, Value.ref 24, Value.ref 25, Value.ref 26, Value.int 206 0, Value.int 4 0, Value.str (Str.ofString "/claim/cut.py") 207] } : Obj)) ::
  (nat_lit 28, (withBits (fnBits (nthS (clsBody (nthS topS 1)) 0)) _ _ _ rfl fun p b s => { cls := Value.type "function", data := Data.func { name := Str.ofString "__init__", qualname := Str.ofString "SwitchError.__init__", params := p, body := FuncBody.stmts b, scope := s, globals := 3, closure := [], defaults := Value.none, kwdefaults := Value.none, pyModule := Value.str (Str.ofString "switchloom.errors") 187, code := Value.ref 27 } } : Obj)) ::
  (nat_lit 29, ({ cls := Value.type "tuple", data := Data.seq #[Value.str (Str.ofString "message") 209] } : Obj)) ::
  (nat_lit 30, ({ cls := Value.type "dict", data := Data.dict #[{ hash := PyData.keyHash P (Str.ofString "__module__"), key := Value.str (Str.ofString "__module__") 196, val := Value.str (Str.ofString "switchloom.errors") 187 }, { hash := PyData.keyHash P (Str.ofString "__firstlineno__"), key := Value.str (Str.ofString "__firstlineno__") 200, val := Value.int 2 199 }, { hash := PyData.keyHash P (Str.ofString "__init__"), key := Value.str (Str.ofString "__init__") 208, val := Value.ref 28 }, { hash := PyData.keyHash P (Str.ofString "__static_attributes__"), key := Value.str (Str.ofString "__static_attributes__") 210, val := Value.ref 29 }, { hash := PyData.keyHash P (Str.ofString "__weakref__"), key := Value.str (Str.ofString "__weakref__") 212, val := Value.ref 32 }, { hash := PyData.keyHash P (Str.ofString "__doc__"), key := Value.str (Str.ofString "__doc__") 213, val := Value.none }] 3 } : Obj)) ::
  (nat_lit 31, ({ cls := Value.type "type", data := Data.cls { name := Str.ofString "SwitchError", bases := [Value.type "Exception"], mro := [Value.ref 31, Value.type "Exception", Value.type "BaseException", Value.type "object"], ns := 30, qualname := Str.ofString "SwitchError", subclasses := [Value.ref 44] }, slots := #[some (Value.ref 15), none, some (Value.str (Str.ofString "SwitchError") 189), some (Value.str (Str.ofString "SwitchError") 197), some (Value.builtin "Exception.__new__"), some (Value.bool true)] } : Obj)) ::
  (nat_lit 32, ({ cls := Value.type "getset_descriptor", data := Data.fields #[Value.str (Str.ofString "__weakref__") 211, Value.ref 31, Value.builtin "ExceptionGroup.__weakref__", Value.none] } : Obj)) ::
  (nat_lit 35, ({ cls := Value.type "tuple", data := Data.seq #[Value.ref 31] } : Obj)) ::
  (nat_lit 42, ({ cls := Value.type "tuple", data := Data.seq #[] } : Obj)) ::
  (nat_lit 43, ({ cls := Value.type "dict", data := Data.dict #[{ hash := PyData.keyHash P (Str.ofString "__module__"), key := Value.str (Str.ofString "__module__") 225, val := Value.str (Str.ofString "switchloom.errors") 187 }, { hash := PyData.keyHash P (Str.ofString "__firstlineno__"), key := Value.str (Str.ofString "__firstlineno__") 229, val := Value.int 7 228 }, { hash := PyData.keyHash P (Str.ofString "__static_attributes__"), key := Value.str (Str.ofString "__static_attributes__") 230, val := Value.ref 42 }, { hash := PyData.keyHash P (Str.ofString "__doc__"), key := Value.str (Str.ofString "__doc__") 231, val := Value.none }] 2 } : Obj)) ::
  (nat_lit 44, ({ cls := Value.type "type", data := Data.cls { name := Str.ofString "TableError", bases := [Value.ref 31], mro := [Value.ref 44, Value.ref 31, Value.type "Exception", Value.type "BaseException", Value.type "object"], ns := 43, qualname := Str.ofString "TableError" }, slots := #[some (Value.ref 35), none, some (Value.str (Str.ofString "TableError") 218), some (Value.str (Str.ofString "TableError") 226), some (Value.builtin "Exception.__new__"), some (Value.bool true)] } : Obj)) ::
  (nat_lit 47, ({ cls := Value.type "tuple", data := Data.seq #[] } : Obj)) ::
  (nat_lit 49, ({ cls := Value.type "tuple", data := Data.seq #[Value.str (Str.ofString "mac") 245] } : Obj)) ::
  (nat_lit 50, ({ cls := Value.type "tuple", data := Data.seq #[] } : Obj)) ::
  (nat_lit 52, ({ cls := Value.type "code", data := Data.fields #[Value.str (Str.ofString "is_group") 242, Value.str (Str.ofString "is_group") 243, Value.str (Str.ofString "/claim/cut.py") 244, Value.int 11 0, Value.int 1 0, Value.int 0 0, Value.int 0 0, Value.int 3 0, Value.ref 47, Value.bool true, Value.int 181 0, Value.ref 48, Value.none, Value.ref 49, Value.ref 50, Value.ref 51, Value.int 246 0, Value.int 11 0, Value.str (Str.ofString "/claim/cut.py") 247] } : Obj)) ::
  (nat_lit 53, (withBits (fnBits (nthS topS 5)) _ _ _ rfl fun p b s => { cls := Value.type "function", data := Data.func { name := Str.ofString "is_group", qualname := Str.ofString "is_group", params := p, body := FuncBody.stmts b, scope := s, globals := 3, closure := [], defaults := Value.none, kwdefaults := Value.none, pyModule := Value.str (Str.ofString "switchloom.frames") 234, code := Value.ref 52 } } : Obj)) ::
  (nat_lit 54, ({ cls := Value.type "tuple", data := Data.seq #[] } : Obj)) ::
  (nat_lit 56, ({ cls := Value.type "tuple", data := Data.seq #[Value.str (Str.ofString "mac") 252] } : Obj)) ::
  (nat_lit 57, ({ cls := Value.type "tuple", data := Data.seq #[] } : Obj)) ::
  (nat_lit 59, ({ cls := Value.type "code", data := Data.fields #[Value.str (Str.ofString "is_broadcast") 249, Value.str (Str.ofString "is_broadcast") 250, Value.str (Str.ofString "/claim/cut.py") 251, Value.int 13 0, Value.int 1 0, Value.int 0 0, Value.int 0 0, Value.int 3 0, Value.ref 54, Value.bool true, Value.int 181 0, Value.ref 55, Value.none, Value.ref 56, Value.ref 57, Value.ref 58, Value.int 253 0, Value.int 13 0, Value.str (Str.ofString "/claim/cut.py") 254] } : Obj)) ::
  (nat_lit 60, (withBits (fnBits (nthS topS 6)) _ _ _ rfl fun p b s => { cls := Value.type "function", data := Data.func { name := Str.ofString "is_broadcast", qualname := Str.ofString "is_broadcast", params := p, body := FuncBody.stmts b, scope := s, globals := 3, closure := [], defaults := Value.none, kwdefaults := Value.none, pyModule := Value.str (Str.ofString "switchloom.frames") 234, code := Value.ref 59 } } : Obj)) ::
  (nat_lit 61, ({ cls := Value.type "tuple", data := Data.seq #[Value.int 64 258, Value.int 127 259, Value.int 255 260, Value.int 511 261, Value.int 1023 262, Value.int 1518 263] } : Obj)) ::
  (nat_lit 62, ({ cls := Value.type "tuple", data := Data.seq #[Value.str (Str.ofString "64") 265, Value.str (Str.ofString "65 to 127") 266, Value.str (Str.ofString "128 to 255") 267, Value.str (Str.ofString "256 to 511") 268, Value.str (Str.ofString "512 to 1023") 269, Value.str (Str.ofString "1024 to 1518") 270, Value.str (Str.ofString "more") 271] } : Obj)) ::
  (nat_lit 63, ({ cls := Value.type "tuple", data := Data.seq #[Value.str (Str.ofString "single") 273, Value.str (Str.ofString "group") 274, Value.str (Str.ofString "broadcast") 275] } : Obj)) ::
  (nat_lit 64, ({ cls := Value.type "tuple", data := Data.seq #[] } : Obj)) ::
  (nat_lit 66, ({ cls := Value.type "tuple", data := Data.seq #[Value.str (Str.ofString "target") 280] } : Obj)) ::
  (nat_lit 67, ({ cls := Value.type "tuple", data := Data.seq #[] } : Obj)) ::
  (nat_lit 69, ({ cls := Value.type "code", data := Data.fields #[Value.str (Str.ofString "sort_of_target") 277, Value.str (Str.ofString "sort_of_target") 278, Value.str (Str.ofString "/claim/cut.py") 279, Value.int 19 0, Value.int 1 0, Value.int 0 0, Value.int 0 0, Value.int 3 0, Value.ref 64, Value.bool true, Value.int 181 0, Value.ref 65, Value.none, Value.ref 66, Value.ref 67, Value.ref 68, Value.int 281 0, Value.int 19 0, Value.str (Str.ofString "/claim/cut.py") 282] } : Obj)) ::
  (nat_lit 70, (withBits (fnBits (nthS topS 11)) _ _ _ rfl fun p b s => { cls := Value.type "function", data := Data.func { name := Str.ofString "sort_of_target", qualname := Str.ofString "sort_of_target", params := p, body := FuncBody.stmts b, scope := s, globals := 3, closure := [], defaults := Value.none, kwdefaults := Value.none, pyModule := Value.str (Str.ofString "switchloom.counters") 256, code := Value.ref 69 } } : Obj)) ::
  (nat_lit 71, ({ cls := Value.type "tuple", data := Data.seq #[] } : Obj)) ::
  (nat_lit 73, ({ cls := Value.type "tuple", data := Data.seq #[Value.str (Str.ofString "size") 287, Value.str (Str.ofString "at") 288, Value.str (Str.ofString "end") 289] } : Obj)) ::
  (nat_lit 74, ({ cls := Value.type "tuple", data := Data.seq #[] } : Obj)) ::
  (nat_lit 76, ({ cls := Value.type "code", data := Data.fields #[Value.str (Str.ofString "class_of_size") 284, Value.str (Str.ofString "class_of_size") 285, Value.str (Str.ofString "/claim/cut.py") 286, Value.int 23 0, Value.int 1 0, Value.int 0 0, Value.int 0 0, Value.int 3 0, Value.ref 71, Value.bool true, Value.int 181 0, Value.ref 72, Value.none, Value.ref 73, Value.ref 74, Value.ref 75, Value.int 290 0, Value.int 23 0, Value.str (Str.ofString "/claim/cut.py") 291] } : Obj)) ::
  (nat_lit 77, (withBits (fnBits (nthS topS 12)) _ _ _ rfl fun p b s => { cls := Value.type "function", data := Data.func { name := Str.ofString "class_of_size", qualname := Str.ofString "class_of_size", params := p, body := FuncBody.stmts b, scope := s, globals := 3, closure := [], defaults := Value.none, kwdefaults := Value.none, pyModule := Value.str (Str.ofString "switchloom.counters") 256, code := Value.ref 76 } } : Obj)) ::
  (nat_lit 78, ({ cls := Value.type "tuple", data := Data.seq #[] } : Obj)) ::
  (nat_lit 80, ({ cls := Value.type "tuple", data := Data.seq #[Value.str (Str.ofString "old") 296, Value.str (Str.ofString "new") 297, Value.str (Str.ofString "bits") 298] } : Obj)) ::
  (nat_lit 81, ({ cls := Value.type "tuple", data := Data.seq #[] } : Obj)) ::
  (nat_lit 83, ({ cls := Value.type "code", data := Data.fields #[Value.str (Str.ofString "counted_between") 293, Value.str (Str.ofString "counted_between") 294, Value.str (Str.ofString "/claim/cut.py") 295, Value.int 28 0, Value.int 3 0, Value.int 0 0, Value.int 0 0, Value.int 3 0, Value.ref 78, Value.bool true, Value.int 181 0, Value.ref 79, Value.none, Value.ref 80, Value.ref 81, Value.ref 82, Value.int 299 0, Value.int 28 0, Value.str (Str.ofString "/claim/cut.py") 300] } : Obj)) ::
  (nat_lit 84, (withBits (fnBits (nthS topS 13)) _ _ _ rfl fun p b s => { cls := Value.type "function", data := Data.func { name := Str.ofString "counted_between", qualname := Str.ofString "counted_between", params := p, body := FuncBody.stmts b, scope := s, globals := 3, closure := [], defaults := Value.none, kwdefaults := Value.none, pyModule := Value.str (Str.ofString "switchloom.counters") 256, code := Value.ref 83 } } : Obj)) ::
  (nat_lit 92, ({ cls := Value.type "tuple", data := Data.seq #[] } : Obj)) ::
  (nat_lit 94, ({ cls := Value.type "tuple", data := Data.seq #[Value.str (Str.ofString "self") 317, Value.str (Str.ofString "bits") 318] } : Obj)) ::
  (nat_lit 95, ({ cls := Value.type "tuple", data := Data.seq #[] } : Obj)) ::
  (nat_lit 97, ({ cls := Value.type "code", data := Data.fields #[Value.str (Str.ofString "__init__") 314, Value.str (Str.ofString "PortCounters.__init__") 315, Value.str (Str.ofString "/claim/cut.py") 316, Value.int 32 0, Value.int 2 0, Value.int 0 0, Value.int 0 0, Value.int 3 0, Value.ref 92, Value.bool true, Value.int 181 0, Value.ref 93, Value.none, Value.ref 94, Value.ref 95, Value.ref 96, Value.int 319 0, Value.int 32 0, Value.str (Str.ofString "/claim/cut.py") 320] } : Obj)) ::
  (nat_lit 98, (withBits (fnBits (nthS (clsBody (nthS topS 14)) 0)) _ _ _ rfl fun p b s => { cls := Value.type "function", data := Data.func { name := Str.ofString "__init__", qualname := Str.ofString "PortCounters.__init__", params := p, body := FuncBody.stmts b, scope := s, globals := 3, closure := [], defaults := Value.none, kwdefaults := Value.none, pyModule := Value.str (Str.ofString "switchloom.counters") 256, code := Value.ref 97 } } : Obj)) ::
  (nat_lit 99, ({ cls := Value.type "tuple", data := Data.seq #[Value.int 1 322] } : Obj)) ::
  (nat_lit 100, ({ cls := Value.type "tuple", data := Data.seq #[] } : Obj)) ::
  (nat_lit 102, ({ cls := Value.type "tuple", data := Data.seq #[Value.str (Str.ofString "self") 326, Value.str (Str.ofString "name") 327, Value.str (Str.ofString "many") 328] } : Obj)) ::
  (nat_lit 103, ({ cls := Value.type "tuple", data := Data.seq #[] } : Obj)) ::
  (nat_lit 105, ({ cls := Value.type "code", data := Data.fields #[Value.str (Str.ofString "count") 323, Value.str (Str.ofString "PortCounters.count") 324, Value.str (Str.ofString "/claim/cut.py") 325, Value.int 36 0, Value.int 3 0, Value.int 0 0, Value.int 0 0, Value.int 3 0, Value.ref 100, Value.bool true, Value.int 181 0, Value.ref 101, Value.none, Value.ref 102, Value.ref 103, Value.ref 104, Value.int 329 0, Value.int 36 0, Value.str (Str.ofString "/claim/cut.py") 330] } : Obj)) ::
  (nat_lit 106, (withBits (fnBits (nthS (clsBody (nthS topS 14)) 1)) _ _ _ rfl fun p b s => { cls := Value.type "function", data := Data.func { name := Str.ofString "count", qualname := Str.ofString "PortCounters.count", params := p, body := FuncBody.stmts b, scope := s, globals := 3, closure := [], defaults := Value.ref 99, kwdefaults := Value.none, pyModule := Value.str (Str.ofString "switchloom.counters") 256, code := Value.ref 105 } } : Obj)) ::
  (nat_lit 107, ({ cls := Value.type "tuple", data := Data.seq #[] } : Obj)) ::
  (nat_lit 109, ({ cls := Value.type "tuple", data := Data.seq #[Value.str (Str.ofString "self") 335, Value.str (Str.ofString "name") 336] } : Obj)) ::
  (nat_lit 110, ({ cls := Value.type "tuple", data := Data.seq #[] } : Obj)) ::
  (nat_lit 112, ({ cls := Value.type "code", data := Data.fields #[Value.str (Str.ofString "value") 332, Value.str (Str.ofString "PortCounters.value") 333, Value.str (Str.ofString "/claim/cut.py") 334, Value.int 39 0, Value.int 2 0, Value.int 0 0, Value.int 0 0, Value.int 3 0, Value.ref 107, Value.bool true, Value.int 181 0, Value.ref 108, Value.none, Value.ref 109, Value.ref 110, Value.ref 111, Value.int 337 0, Value.int 39 0, Value.str (Str.ofString "/claim/cut.py") 338] } : Obj)) ::
  (nat_lit 113, (withBits (fnBits (nthS (clsBody (nthS topS 14)) 2)) _ _ _ rfl fun p b s => { cls := Value.type "function", data := Data.func { name := Str.ofString "value", qualname := Str.ofString "PortCounters.value", params := p, body := FuncBody.stmts b, scope := s, globals := 3, closure := [], defaults := Value.none, kwdefaults := Value.none, pyModule := Value.str (Str.ofString "switchloom.counters") 256, code := Value.ref 112 } } : Obj)) ::
  (nat_lit 114, ({ cls := Value.type "tuple", data := Data.seq #[] } : Obj)) ::
  (nat_lit 116, ({ cls := Value.type "tuple", data := Data.seq #[Value.str (Str.ofString "self") 343] } : Obj)) ::
  (nat_lit 117, ({ cls := Value.type "tuple", data := Data.seq #[] } : Obj)) ::
  (nat_lit 119, ({ cls := Value.type "code", data := Data.fields #[Value.str (Str.ofString "clear") 340, Value.str (Str.ofString "PortCounters.clear") 341, Value.str (Str.ofString "/claim/cut.py") 342, Value.int 42 0, Value.int 1 0, Value.int 0 0, Value.int 0 0, Value.int 3 0, Value.ref 114, Value.bool true, Value.int 181 0, Value.ref 115, Value.none, Value.ref 116, Value.ref 117, Value.ref 118, Value.int 344 0, Value.int 42 0, Value.str (Str.ofString "/claim/cut.py") 345] } : Obj)) ::
  (nat_lit 120, (withBits (fnBits (nthS (clsBody (nthS topS 14)) 3)) _ _ _ rfl fun p b s => { cls := Value.type "function", data := Data.func { name := Str.ofString "clear", qualname := Str.ofString "PortCounters.clear", params := p, body := FuncBody.stmts b, scope := s, globals := 3, closure := [], defaults := Value.none, kwdefaults := Value.none, pyModule := Value.str (Str.ofString "switchloom.counters") 256, code := Value.ref 119 } } : Obj)) ::
  (nat_lit 121, ({ cls := Value.type "tuple", data := Data.seq #[Value.str (Str.ofString "bits") 347, Value.str (Str.ofString "counts") 348] } : Obj)) ::
  (nat_lit 122, ({ cls := Value.type "dict", data := Data.dict #[{ hash := PyData.keyHash P (Str.ofString "__module__"), key := Value.str (Str.ofString "__module__") 309, val := Value.str (Str.ofString "switchloom.counters") 256 }, { hash := PyData.keyHash P (Str.ofString "__firstlineno__"), key := Value.str (Str.ofString "__firstlineno__") 313, val := Value.int 30 312 }, { hash := PyData.keyHash P (Str.ofString "__init__"), key := Value.str (Str.ofString "__init__") 321, val := Value.ref 98 }, { hash := PyData.keyHash P (Str.ofString "count"), key := Value.str (Str.ofString "count") 331, val := Value.ref 106 }, { hash := PyData.keyHash P (Str.ofString "value"), key := Value.str (Str.ofString "value") 339, val := Value.ref 113 }, { hash := PyData.keyHash P (Str.ofString "clear"), key := Value.str (Str.ofString "clear") 346, val := Value.ref 120 }, { hash := PyData.keyHash P (Str.ofString "__static_attributes__"), key := Value.str (Str.ofString "__static_attributes__") 349, val := Value.ref 121 }, { hash := PyData.keyHash P (Str.ofString "__dict__"), key := Value.str (Str.ofString "__dict__") 351, val := Value.ref 124 }, { hash := PyData.keyHash P (Str.ofString "__weakref__"), key := Value.str (Str.ofString "__weakref__") 353, val := Value.ref 125 }, { hash := PyData.keyHash P (Str.ofString "__doc__"), key := Value.str (Str.ofString "__doc__") 354, val := Value.none }] 4 } : Obj)) ::
  (nat_lit 123, ({ cls := Value.type "type", data := Data.cls { name := Str.ofString "PortCounters", bases := [Value.type "object"], mro := [Value.ref 123, Value.type "object"], ns := 122, qualname := Str.ofString "PortCounters" }, slots := #[none, none, some (Value.str (Str.ofString "PortCounters") 302), some (Value.str (Str.ofString "PortCounters") 310), some (Value.builtin "object.__new__"), some (Value.bool true)] } : Obj)) ::
  (nat_lit 124, ({ cls := Value.type "getset_descriptor", data := Data.fields #[Value.str (Str.ofString "__dict__") 350, Value.ref 123, Value.builtin "function.__dict__", Value.builtin "function.__dict__#set"] } : Obj)) ::
  (nat_lit 125, ({ cls := Value.type "getset_descriptor", data := Data.fields #[Value.str (Str.ofString "__weakref__") 352, Value.ref 123, Value.builtin "ExceptionGroup.__weakref__", Value.none] } : Obj)) ::
  (nat_lit 135, ({ cls := Value.type "tuple", data := Data.seq #[Value.int 32 369] } : Obj)) ::
  (nat_lit 136, ({ cls := Value.type "tuple", data := Data.seq #[] } : Obj)) ::
  (nat_lit 138, ({ cls := Value.type "tuple", data := Data.seq #[Value.str (Str.ofString "self") 373, Value.str (Str.ofString "bits") 374] } : Obj)) ::
  (nat_lit 139, ({ cls := Value.type "tuple", data := Data.seq #[] } : Obj)) ::
  (nat_lit 141, ({ cls := Value.type "code", data := Data.fields #[Value.str (Str.ofString "__init__") 370, Value.str (Str.ofString "Counters.__init__") 371, Value.str (Str.ofString "/claim/cut.py") 372, Value.int 46 0, Value.int 2 0, Value.int 0 0, Value.int 0 0, Value.int 3 0, Value.ref 136, Value.bool true, Value.int 181 0, Value.ref 137, Value.none, Value.ref 138, Value.ref 139, Value.ref 140, Value.int 375 0, Value.int 46 0, Value.str (Str.ofString "/claim/cut.py") 376] } : Obj)) ::
  (nat_lit 142, (withBits (fnBits (nthS (clsBody (nthS topS 15)) 0)) _ _ _ rfl fun p b s => { cls := Value.type "function", data := Data.func { name := Str.ofString "__init__", qualname := Str.ofString "Counters.__init__", params := p, body := FuncBody.stmts b, scope := s, globals := 3, closure := [], defaults := Value.ref 135, kwdefaults := Value.none, pyModule := Value.str (Str.ofString "switchloom.counters") 256, code := Value.ref 141 } } : Obj)) ::
  (nat_lit 143, ({ cls := Value.type "tuple", data := Data.seq #[] } : Obj)) ::
  (nat_lit 145, ({ cls := Value.type "tuple", data := Data.seq #[Value.str (Str.ofString "self") 381, Value.str (Str.ofString "port") 382] } : Obj)) ::
  (nat_lit 146, ({ cls := Value.type "tuple", data := Data.seq #[] } : Obj)) ::
  (nat_lit 148, ({ cls := Value.type "code", data := Data.fields #[Value.str (Str.ofString "add_port") 378, Value.str (Str.ofString "Counters.add_port") 379, Value.str (Str.ofString "/claim/cut.py") 380, Value.int 50 0, Value.int 2 0, Value.int 0 0, Value.int 0 0, Value.int 3 0, Value.ref 143, Value.bool true, Value.int 181 0, Value.ref 144, Value.none, Value.ref 145, Value.ref 146, Value.ref 147, Value.int 383 0, Value.int 50 0, Value.str (Str.ofString "/claim/cut.py") 384] } : Obj)) ::
  (nat_lit 149, (withBits (fnBits (nthS (clsBody (nthS topS 15)) 1)) _ _ _ rfl fun p b s => { cls := Value.type "function", data := Data.func { name := Str.ofString "add_port", qualname := Str.ofString "Counters.add_port", params := p, body := FuncBody.stmts b, scope := s, globals := 3, closure := [], defaults := Value.none, kwdefaults := Value.none, pyModule := Value.str (Str.ofString "switchloom.counters") 256, code := Value.ref 148 } } : Obj)) ::
  (nat_lit 150, ({ cls := Value.type "tuple", data := Data.seq #[] } : Obj)) ::
  (nat_lit 152, ({ cls := Value.type "tuple", data := Data.seq #[Value.str (Str.ofString "self") 389, Value.str (Str.ofString "port") 390] } : Obj)) ::
  (nat_lit 153, ({ cls := Value.type "tuple", data := Data.seq #[] } : Obj)) ::
  (nat_lit 155, ({ cls := Value.type "code", data := Data.fields #[Value.str (Str.ofString "row") 386, Value.str (Str.ofString "Counters.row") 387, Value.str (Str.ofString "/claim/cut.py") 388, Value.int 55 0, Value.int 2 0, Value.int 0 0, Value.int 0 0, Value.int 3 0, Value.ref 150, Value.bool true, Value.int 181 0, Value.ref 151, Value.none, Value.ref 152, Value.ref 153, Value.ref 154, Value.int 391 0, Value.int 55 0, Value.str (Str.ofString "/claim/cut.py") 392] } : Obj)) ::
  (nat_lit 156, (withBits (fnBits (nthS (clsBody (nthS topS 15)) 2)) _ _ _ rfl fun p b s => { cls := Value.type "function", data := Data.func { name := Str.ofString "row", qualname := Str.ofString "Counters.row", params := p, body := FuncBody.stmts b, scope := s, globals := 3, closure := [], defaults := Value.none, kwdefaults := Value.none, pyModule := Value.str (Str.ofString "switchloom.counters") 256, code := Value.ref 155 } } : Obj)) ::
  (nat_lit 157, ({ cls := Value.type "tuple", data := Data.seq #[] } : Obj)) ::
  (nat_lit 159, ({ cls := Value.type "tuple", data := Data.seq #[Value.str (Str.ofString "self") 397, Value.str (Str.ofString "port") 398, Value.str (Str.ofString "way") 399, Value.str (Str.ofString "target") 400, Value.str (Str.ofString "size") 401, Value.str (Str.ofString "row") 402] } : Obj)) ::
  (nat_lit 160, ({ cls := Value.type "tuple", data := Data.seq #[] } : Obj)) ::
  (nat_lit 162, ({ cls := Value.type "code", data := Data.fields #[Value.str (Str.ofString "passed") 394, Value.str (Str.ofString "Counters.passed") 395, Value.str (Str.ofString "/claim/cut.py") 396, Value.int 60 0, Value.int 5 0, Value.int 0 0, Value.int 0 0, Value.int 3 0, Value.ref 157, Value.bool true, Value.int 181 0, Value.ref 158, Value.none, Value.ref 159, Value.ref 160, Value.ref 161, Value.int 403 0, Value.int 60 0, Value.str (Str.ofString "/claim/cut.py") 404] } : Obj)) ::
  (nat_lit 163, (withBits (fnBits (nthS (clsBody (nthS topS 15)) 3)) _ _ _ rfl fun p b s => { cls := Value.type "function", data := Data.func { name := Str.ofString "passed", qualname := Str.ofString "Counters.passed", params := p, body := FuncBody.stmts b, scope := s, globals := 3, closure := [], defaults := Value.none, kwdefaults := Value.none, pyModule := Value.str (Str.ofString "switchloom.counters") 256, code := Value.ref 162 } } : Obj)) ::
  (nat_lit 164, ({ cls := Value.type "tuple", data := Data.seq #[] } : Obj)) ::
  (nat_lit 166, ({ cls := Value.type "tuple", data := Data.seq #[Value.str (Str.ofString "self") 409, Value.str (Str.ofString "port") 410, Value.str (Str.ofString "way") 411, Value.str (Str.ofString "why") 412, Value.str (Str.ofString "row") 413] } : Obj)) ::
  (nat_lit 167, ({ cls := Value.type "tuple", data := Data.seq #[] } : Obj)) ::
  (nat_lit 169, ({ cls := Value.type "code", data := Data.fields #[Value.str (Str.ofString "dropped") 406, Value.str (Str.ofString "Counters.dropped") 407, Value.str (Str.ofString "/claim/cut.py") 408, Value.int 67 0, Value.int 4 0, Value.int 0 0, Value.int 0 0, Value.int 3 0, Value.ref 164, Value.bool true, Value.int 181 0, Value.ref 165, Value.none, Value.ref 166, Value.ref 167, Value.ref 168, Value.int 414 0, Value.int 67 0, Value.str (Str.ofString "/claim/cut.py") 415] } : Obj)) ::
  (nat_lit 170, (withBits (fnBits (nthS (clsBody (nthS topS 15)) 4)) _ _ _ rfl fun p b s => { cls := Value.type "function", data := Data.func { name := Str.ofString "dropped", qualname := Str.ofString "Counters.dropped", params := p, body := FuncBody.stmts b, scope := s, globals := 3, closure := [], defaults := Value.none, kwdefaults := Value.none, pyModule := Value.str (Str.ofString "switchloom.counters") 256, code := Value.ref 169 } } : Obj)) ::
  (nat_lit 171, ({ cls := Value.type "tuple", data := Data.seq #[] } : Obj)) ::
  (nat_lit 173, ({ cls := Value.type "tuple", data := Data.seq #[Value.str (Str.ofString "self") 420, Value.str (Str.ofString "port") 421, Value.str (Str.ofString "name") 422] } : Obj)) ::
  (nat_lit 174, ({ cls := Value.type "tuple", data := Data.seq #[] } : Obj)) ::
  (nat_lit 176, ({ cls := Value.type "code", data := Data.fields #[Value.str (Str.ofString "value") 417, Value.str (Str.ofString "Counters.value") 418, Value.str (Str.ofString "/claim/cut.py") 419, Value.int 72 0, Value.int 3 0, Value.int 0 0, Value.int 0 0, Value.int 3 0, Value.ref 171, Value.bool true, Value.int 181 0, Value.ref 172, Value.none, Value.ref 173, Value.ref 174, Value.ref 175, Value.int 423 0, Value.int 72 0, Value.str (Str.ofString "/claim/cut.py") 424] } : Obj)) ::
  (nat_lit 177, (withBits (fnBits (nthS (clsBody (nthS topS 15)) 5)) _ _ _ rfl fun p b s => { cls := Value.type "function", data := Data.func { name := Str.ofString "value", qualname := Str.ofString "Counters.value", params := p, body := FuncBody.stmts b, scope := s, globals := 3, closure := [], defaults := Value.none, kwdefaults := Value.none, pyModule := Value.str (Str.ofString "switchloom.counters") 256, code := Value.ref 176 } } : Obj)) ::
  (nat_lit 178, ({ cls := Value.type "tuple", data := Data.seq #[] } : Obj)) ::
  (nat_lit 181, ({ cls := Value.type "code", data := Data.fields #[Value.str (Str.ofString "total") 426, Value.str (Str.ofString "Counters.total") 427, Value.str (Str.ofString "/claim/cut.py") 428, Value.int 75 0, Value.int 2 0, Value.int 0 0, Value.int 0 0, Value.int 3 0, Value.ref 178, Value.bool true, Value.int 181 0, Value.ref 179, Value.none, Value.none, Value.none, Value.ref 180, Value.int 429 0, Value.int 75 0, Value.str (Str.ofString "/claim/cut.py") 430] } : Obj)) ::
  (nat_lit 182, (withBits (fnBits (nthS (clsBody (nthS topS 15)) 6)) _ _ _ rfl fun p b s => { cls := Value.type "function", data := Data.func { name := Str.ofString "total", qualname := Str.ofString "Counters.total", params := p, body := FuncBody.stmts b, scope := s, globals := 3, closure := [], defaults := Value.none, kwdefaults := Value.none, pyModule := Value.str (Str.ofString "switchloom.counters") 256, code := Value.ref 181 } } : Obj)) ::
  (nat_lit 183, ({ cls := Value.type "tuple", data := Data.seq #[] } : Obj)) ::
  (nat_lit 185, ({ cls := Value.type "tuple", data := Data.seq #[Value.str (Str.ofString "self") 435, Value.str (Str.ofString "port") 436] } : Obj)) ::
  (nat_lit 186, ({ cls := Value.type "tuple", data := Data.seq #[] } : Obj)) ::
  (nat_lit 188, ({ cls := Value.type "code", data := Data.fields #[Value.str (Str.ofString "clear") 432, Value.str (Str.ofString "Counters.clear") 433, Value.str (Str.ofString "/claim/cut.py") 434, Value.int 78 0, Value.int 2 0, Value.int 0 0, Value.int 0 0, Value.int 3 0, Value.ref 183, Value.bool true, Value.int 181 0, Value.ref 184, Value.none, Value.ref 185, Value.ref 186, Value.ref 187, Value.int 437 0, Value.int 78 0, Value.str (Str.ofString "/claim/cut.py") 438] } : Obj)) ::
  (nat_lit 189, (withBits (fnBits (nthS (clsBody (nthS topS 15)) 7)) _ _ _ rfl fun p b s => { cls := Value.type "function", data := Data.func { name := Str.ofString "clear", qualname := Str.ofString "Counters.clear", params := p, body := FuncBody.stmts b, scope := s, globals := 3, closure := [], defaults := Value.none, kwdefaults := Value.none, pyModule := Value.str (Str.ofString "switchloom.counters") 256, code := Value.ref 188 } } : Obj)) ::
  (nat_lit 190, ({ cls := Value.type "tuple", data := Data.seq #[] } : Obj)) ::
  (nat_lit 193, ({ cls := Value.type "code", data := Data.fields #[Value.str (Str.ofString "told_rows") 440, Value.str (Str.ofString "Counters.told_rows") 441, Value.str (Str.ofString "/claim/cut.py") 442, Value.int 81 0, Value.int 2 0, Value.int 0 0, Value.int 0 0, Value.int 3 0, Value.ref 190, Value.bool true, Value.int 181 0, Value.ref 191, Value.none, Value.none, Value.none, Value.ref 192, Value.int 443 0, Value.int 81 0, Value.str (Str.ofString "/claim/cut.py") 444] } : Obj)) ::
  (nat_lit 194, (withBits (fnBits (nthS (clsBody (nthS topS 15)) 8)) _ _ _ rfl fun p b s => { cls := Value.type "function", data := Data.func { name := Str.ofString "told_rows", qualname := Str.ofString "Counters.told_rows", params := p, body := FuncBody.stmts b, scope := s, globals := 3, closure := [], defaults := Value.none, kwdefaults := Value.none, pyModule := Value.str (Str.ofString "switchloom.counters") 256, code := Value.ref 193 } } : Obj)) ::
  (nat_lit 195, ({ cls := Value.type "tuple", data := Data.seq #[] } : Obj)) ::
  (nat_lit 198, ({ cls := Value.type "code", data := Data.fields #[Value.str (Str.ofString "adds_up") 446, Value.str (Str.ofString "Counters.adds_up") 447, Value.str (Str.ofString "/claim/cut.py") 448, Value.int 85 0, Value.int 3 0, Value.int 0 0, Value.int 0 0, Value.int 3 0, Value.ref 195, Value.bool true, Value.int 181 0, Value.ref 196, Value.none, Value.none, Value.none, Value.ref 197, Value.int 449 0, Value.int 85 0, Value.str (Str.ofString "/claim/cut.py") 450] } : Obj)) ::
  (nat_lit 199, (withBits (fnBits (nthS (clsBody (nthS topS 15)) 9)) _ _ _ rfl fun p b s => { cls := Value.type "function", data := Data.func { name := Str.ofString "adds_up", qualname := Str.ofString "Counters.adds_up", params := p, body := FuncBody.stmts b, scope := s, globals := 3, closure := [], defaults := Value.none, kwdefaults := Value.none, pyModule := Value.str (Str.ofString "switchloom.counters") 256, code := Value.ref 198 } } : Obj)) ::
  (nat_lit 200, ({ cls := Value.type "tuple", data := Data.seq #[Value.str (Str.ofString "bits") 452, Value.str (Str.ofString "ports") 453] } : Obj)) ::
  (nat_lit 201, ({ cls := Value.type "dict", data := Data.dict #[{ hash := PyData.keyHash P (Str.ofString "__module__"), key := Value.str (Str.ofString "__module__") 364, val := Value.str (Str.ofString "switchloom.counters") 256 }, { hash := PyData.keyHash P (Str.ofString "__firstlineno__"), key := Value.str (Str.ofString "__firstlineno__") 368, val := Value.int 44 367 }, { hash := PyData.keyHash P (Str.ofString "__init__"), key := Value.str (Str.ofString "__init__") 377, val := Value.ref 142 }, { hash := PyData.keyHash P (Str.ofString "add_port"), key := Value.str (Str.ofString "add_port") 385, val := Value.ref 149 }, { hash := PyData.keyHash P (Str.ofString "row"), key := Value.str (Str.ofString "row") 393, val := Value.ref 156 }, { hash := PyData.keyHash P (Str.ofString "passed"), key := Value.str (Str.ofString "passed") 405, val := Value.ref 163 }, { hash := PyData.keyHash P (Str.ofString "dropped"), key := Value.str (Str.ofString "dropped") 416, val := Value.ref 170 }, { hash := PyData.keyHash P (Str.ofString "value"), key := Value.str (Str.ofString "value") 425, val := Value.ref 177 }, { hash := PyData.keyHash P (Str.ofString "total"), key := Value.str (Str.ofString "total") 431, val := Value.ref 182 }, { hash := PyData.keyHash P (Str.ofString "clear"), key := Value.str (Str.ofString "clear") 439, val := Value.ref 189 }, { hash := PyData.keyHash P (Str.ofString "told_rows"), key := Value.str (Str.ofString "told_rows") 445, val := Value.ref 194 }, { hash := PyData.keyHash P (Str.ofString "adds_up"), key := Value.str (Str.ofString "adds_up") 451, val := Value.ref 199 }, { hash := PyData.keyHash P (Str.ofString "__static_attributes__"), key := Value.str (Str.ofString "__static_attributes__") 454, val := Value.ref 200 }, { hash := PyData.keyHash P (Str.ofString "__dict__"), key := Value.str (Str.ofString "__dict__") 456, val := Value.ref 203 }, { hash := PyData.keyHash P (Str.ofString "__weakref__"), key := Value.str (Str.ofString "__weakref__") 458, val := Value.ref 204 }, { hash := PyData.keyHash P (Str.ofString "__doc__"), key := Value.str (Str.ofString "__doc__") 459, val := Value.none }] 4 } : Obj)) ::
  (nat_lit 202, ({ cls := Value.type "type", data := Data.cls { name := Str.ofString "Counters", bases := [Value.type "object"], mro := [Value.ref 202, Value.type "object"], ns := 201, qualname := Str.ofString "Counters" }, slots := #[none, none, some (Value.str (Str.ofString "Counters") 357), some (Value.str (Str.ofString "Counters") 365), some (Value.builtin "object.__new__"), some (Value.bool true)] } : Obj)) ::
  (nat_lit 203, ({ cls := Value.type "getset_descriptor", data := Data.fields #[Value.str (Str.ofString "__dict__") 455, Value.ref 202, Value.builtin "function.__dict__", Value.builtin "function.__dict__#set"] } : Obj)) ::
  (nat_lit 204, ({ cls := Value.type "getset_descriptor", data := Data.fields #[Value.str (Str.ofString "__weakref__") 457, Value.ref 202, Value.builtin "ExceptionGroup.__weakref__", Value.none] } : Obj)) ::
  (nat_lit 207, ({ cls := Value.type "tuple", data := Data.seq #[] } : Obj)) ::
  (nat_lit 209, ({ cls := Value.type "tuple", data := Data.seq #[Value.str (Str.ofString "script") 467, Value.str (Str.ofString "k") 468, Value.str (Str.ofString "cell") 469, Value.str (Str.ofString "big") 470, Value.str (Str.ofString "mixed") 471] } : Obj)) ::
  (nat_lit 210, ({ cls := Value.type "tuple", data := Data.seq #[] } : Obj)) ::
  (nat_lit 212, ({ cls := Value.type "code", data := Data.fields #[Value.str (Str.ofString "_law_pool") 464, Value.str (Str.ofString "_law_pool") 465, Value.str (Str.ofString "/claim/cut.py") 466, Value.int 92 0, Value.int 2 0, Value.int 0 0, Value.int 0 0, Value.int 3 0, Value.ref 207, Value.bool true, Value.int 181 0, Value.ref 208, Value.none, Value.ref 209, Value.ref 210, Value.ref 211, Value.int 472 0, Value.int 92 0, Value.str (Str.ofString "/claim/cut.py") 473] } : Obj)) ::
  (nat_lit 213, (withBits (fnBits (nthS topS 17)) _ _ _ rfl fun p b s => { cls := Value.type "function", data := Data.func { name := Str.ofString "_law_pool", qualname := Str.ofString "_law_pool", params := p, body := FuncBody.stmts b, scope := s, globals := 3, closure := [], defaults := Value.none, kwdefaults := Value.none, pyModule := Value.str (Str.ofString "law_pc0362_01") 462, code := Value.ref 212 } } : Obj)) ::
  (nat_lit 214, ({ cls := Value.type "tuple", data := Data.seq #[] } : Obj)) ::
  (nat_lit 216, ({ cls := Value.type "tuple", data := Data.seq #[Value.str (Str.ofString "source") 478, Value.str (Str.ofString "top") 479, Value.str (Str.ofString "drawn") 480] } : Obj)) ::
  (nat_lit 217, ({ cls := Value.type "tuple", data := Data.seq #[] } : Obj)) ::
  (nat_lit 219, ({ cls := Value.type "code", data := Data.fields #[Value.str (Str.ofString "_law_take") 475, Value.str (Str.ofString "_law_take") 476, Value.str (Str.ofString "/claim/cut.py") 477, Value.int 99 0, Value.int 2 0, Value.int 0 0, Value.int 0 0, Value.int 3 0, Value.ref 214, Value.bool true, Value.int 181 0, Value.ref 215, Value.none, Value.ref 216, Value.ref 217, Value.ref 218, Value.int 481 0, Value.int 99 0, Value.str (Str.ofString "/claim/cut.py") 482] } : Obj)) ::
  (nat_lit 220, (withBits (fnBits (nthS topS 18)) _ _ _ rfl fun p b s => { cls := Value.type "function", data := Data.func { name := Str.ofString "_law_take", qualname := Str.ofString "_law_take", params := p, body := FuncBody.stmts b, scope := s, globals := 3, closure := [], defaults := Value.none, kwdefaults := Value.none, pyModule := Value.str (Str.ofString "law_pc0362_01") 462, code := Value.ref 219 } } : Obj)) ::
  (nat_lit 221, ({ cls := Value.type "tuple", data := Data.seq #[] } : Obj)) ::
  (nat_lit 223, ({ cls := Value.type "tuple", data := Data.seq #[Value.str (Str.ofString "source") 487, Value.str (Str.ofString "things") 488] } : Obj)) ::
  (nat_lit 224, ({ cls := Value.type "tuple", data := Data.seq #[] } : Obj)) ::
  (nat_lit 226, ({ cls := Value.type "code", data := Data.fields #[Value.str (Str.ofString "_law_one") 484, Value.str (Str.ofString "_law_one") 485, Value.str (Str.ofString "/claim/cut.py") 486, Value.int 106 0, Value.int 2 0, Value.int 0 0, Value.int 0 0, Value.int 3 0, Value.ref 221, Value.bool true, Value.int 181 0, Value.ref 222, Value.none, Value.ref 223, Value.ref 224, Value.ref 225, Value.int 489 0, Value.int 106 0, Value.str (Str.ofString "/claim/cut.py") 490] } : Obj)) ::
  (nat_lit 227, (withBits (fnBits (nthS topS 19)) _ _ _ rfl fun p b s => { cls := Value.type "function", data := Data.func { name := Str.ofString "_law_one", qualname := Str.ofString "_law_one", params := p, body := FuncBody.stmts b, scope := s, globals := 3, closure := [], defaults := Value.none, kwdefaults := Value.none, pyModule := Value.str (Str.ofString "law_pc0362_01") 462, code := Value.ref 226 } } : Obj)) ::
  (nat_lit 228, ({ cls := Value.type "tuple", data := Data.seq #[] } : Obj)) ::
  (nat_lit 230, ({ cls := Value.type "tuple", data := Data.seq #[] } : Obj)) ::
  (nat_lit 231, ({ cls := Value.type "tuple", data := Data.seq #[] } : Obj)) ::
  (nat_lit 233, ({ cls := Value.type "code", data := Data.fields #[Value.str (Str.ofString "_law_sizes") 492, Value.str (Str.ofString "_law_sizes") 493, Value.str (Str.ofString "/claim/cut.py") 494, Value.int 108 0, Value.int 0 0, Value.int 0 0, Value.int 0 0, Value.int 3 0, Value.ref 228, Value.bool true, Value.int 181 0, Value.ref 229, Value.none, Value.ref 230, Value.ref 231, Value.ref 232, Value.int 495 0, Value.int 108 0, Value.str (Str.ofString "/claim/cut.py") 496] } : Obj)) ::
  (nat_lit 234, (withBits (fnBits (nthS topS 20)) _ _ _ rfl fun p b s => { cls := Value.type "function", data := Data.func { name := Str.ofString "_law_sizes", qualname := Str.ofString "_law_sizes", params := p, body := FuncBody.stmts b, scope := s, globals := 3, closure := [], defaults := Value.none, kwdefaults := Value.none, pyModule := Value.str (Str.ofString "law_pc0362_01") 462, code := Value.ref 233 } } : Obj)) ::
  (nat_lit 235, ({ cls := Value.type "tuple", data := Data.seq #[] } : Obj)) ::
  (nat_lit 238, ({ cls := Value.type "code", data := Data.fields #[Value.str (Str.ofString "_law_class") 498, Value.str (Str.ofString "_law_class") 499, Value.str (Str.ofString "/claim/cut.py") 500, Value.int 110 0, Value.int 1 0, Value.int 0 0, Value.int 0 0, Value.int 3 0, Value.ref 235, Value.bool true, Value.int 181 0, Value.ref 236, Value.none, Value.none, Value.none, Value.ref 237, Value.int 501 0, Value.int 110 0, Value.str (Str.ofString "/claim/cut.py") 502] } : Obj)) ::
  (nat_lit 239, (withBits (fnBits (nthS topS 21)) _ _ _ rfl fun p b s => { cls := Value.type "function", data := Data.func { name := Str.ofString "_law_class", qualname := Str.ofString "_law_class", params := p, body := FuncBody.stmts b, scope := s, globals := 3, closure := [], defaults := Value.none, kwdefaults := Value.none, pyModule := Value.str (Str.ofString "law_pc0362_01") 462, code := Value.ref 238 } } : Obj)) ::
  (nat_lit 240, ({ cls := Value.type "tuple", data := Data.seq #[] } : Obj)) ::
  (nat_lit 242, ({ cls := Value.type "tuple", data := Data.seq #[Value.str (Str.ofString "target") 507] } : Obj)) ::
  (nat_lit 243, ({ cls := Value.type "tuple", data := Data.seq #[] } : Obj)) ::
  (nat_lit 245, ({ cls := Value.type "code", data := Data.fields #[Value.str (Str.ofString "_law_sort") 504, Value.str (Str.ofString "_law_sort") 505, Value.str (Str.ofString "/claim/cut.py") 506, Value.int 112 0, Value.int 1 0, Value.int 0 0, Value.int 0 0, Value.int 3 0, Value.ref 240, Value.bool true, Value.int 181 0, Value.ref 241, Value.none, Value.ref 242, Value.ref 243, Value.ref 244, Value.int 508 0, Value.int 112 0, Value.str (Str.ofString "/claim/cut.py") 509] } : Obj)) ::
  (nat_lit 246, (withBits (fnBits (nthS topS 22)) _ _ _ rfl fun p b s => { cls := Value.type "function", data := Data.func { name := Str.ofString "_law_sort", qualname := Str.ofString "_law_sort", params := p, body := FuncBody.stmts b, scope := s, globals := 3, closure := [], defaults := Value.none, kwdefaults := Value.none, pyModule := Value.str (Str.ofString "law_pc0362_01") 462, code := Value.ref 245 } } : Obj)) ::
  (nat_lit 247, ({ cls := Value.type "tuple", data := Data.seq #[] } : Obj)) ::
  (nat_lit 249, ({ cls := Value.type "tuple", data := Data.seq #[Value.str (Str.ofString "row") 514, Value.str (Str.ofString "way") 515, Value.str (Str.ofString "word") 516, Value.str (Str.ofString "more") 517, Value.str (Str.ofString "names") 518] } : Obj)) ::
  (nat_lit 250, ({ cls := Value.type "tuple", data := Data.seq #[] } : Obj)) ::
  (nat_lit 252, ({ cls := Value.type "code", data := Data.fields #[Value.str (Str.ofString "_law_names") 511, Value.str (Str.ofString "_law_names") 512, Value.str (Str.ofString "/claim/cut.py") 513, Value.int 116 0, Value.int 1 0, Value.int 0 0, Value.int 0 0, Value.int 3 0, Value.ref 247, Value.bool true, Value.int 181 0, Value.ref 248, Value.none, Value.ref 249, Value.ref 250, Value.ref 251, Value.int 519 0, Value.int 116 0, Value.str (Str.ofString "/claim/cut.py") 520] } : Obj)) ::
  (nat_lit 253, (withBits (fnBits (nthS topS 23)) _ _ _ rfl fun p b s => { cls := Value.type "function", data := Data.func { name := Str.ofString "_law_names", qualname := Str.ofString "_law_names", params := p, body := FuncBody.stmts b, scope := s, globals := 3, closure := [], defaults := Value.none, kwdefaults := Value.none, pyModule := Value.str (Str.ofString "law_pc0362_01") 462, code := Value.ref 252 } } : Obj)) ::
  (nat_lit 254, ({ cls := Value.type "tuple", data := Data.seq #[] } : Obj)) ::
  (nat_lit 256, ({ cls := Value.type "tuple", data := Data.seq #[Value.str (Str.ofString "rows") 525, Value.str (Str.ofString "bits") 526, Value.str (Str.ofString "found") 527, Value.str (Str.ofString "row") 528, Value.str (Str.ofString "name") 529, Value.str (Str.ofString "many") 530] } : Obj)) ::
  (nat_lit 257, ({ cls := Value.type "tuple", data := Data.seq #[] } : Obj)) ::
  (nat_lit 259, ({ cls := Value.type "code", data := Data.fields #[Value.str (Str.ofString "_law_counts") 522, Value.str (Str.ofString "_law_counts") 523, Value.str (Str.ofString "/claim/cut.py") 524, Value.int 122 0, Value.int 2 0, Value.int 0 0, Value.int 0 0, Value.int 3 0, Value.ref 254, Value.bool true, Value.int 181 0, Value.ref 255, Value.none, Value.ref 256, Value.ref 257, Value.ref 258, Value.int 531 0, Value.int 122 0, Value.str (Str.ofString "/claim/cut.py") 532] } : Obj)) ::
  (nat_lit 260, (withBits (fnBits (nthS topS 24)) _ _ _ rfl fun p b s => { cls := Value.type "function", data := Data.func { name := Str.ofString "_law_counts", qualname := Str.ofString "_law_counts", params := p, body := FuncBody.stmts b, scope := s, globals := 3, closure := [], defaults := Value.none, kwdefaults := Value.none, pyModule := Value.str (Str.ofString "law_pc0362_01") 462, code := Value.ref 259 } } : Obj)) ::
  (nat_lit 261, ({ cls := Value.type "tuple", data := Data.seq #[] } : Obj)) ::
  (nat_lit 263, ({ cls := Value.type "tuple", data := Data.seq #[Value.str (Str.ofString "deed") 537] } : Obj)) ::
  (nat_lit 264, ({ cls := Value.type "tuple", data := Data.seq #[] } : Obj)) ::
  (nat_lit 266, ({ cls := Value.type "code", data := Data.fields #[Value.str (Str.ofString "_law_refused") 534, Value.str (Str.ofString "_law_refused") 535, Value.str (Str.ofString "/claim/cut.py") 536, Value.int 128 0, Value.int 1 0, Value.int 0 0, Value.int 0 0, Value.int 3 0, Value.ref 261, Value.bool true, Value.int 181 0, Value.ref 262, Value.none, Value.ref 263, Value.ref 264, Value.ref 265, Value.int 538 0, Value.int 128 0, Value.str (Str.ofString "/claim/cut.py") 539] } : Obj)) ::
  (nat_lit 267, (withBits (fnBits (nthS topS 25)) _ _ _ rfl fun p b s => { cls := Value.type "function", data := Data.func { name := Str.ofString "_law_refused", qualname := Str.ofString "_law_refused", params := p, body := FuncBody.stmts b, scope := s, globals := 3, closure := [], defaults := Value.none, kwdefaults := Value.none, pyModule := Value.str (Str.ofString "law_pc0362_01") 462, code := Value.ref 266 } } : Obj)) ::
  (nat_lit 268, ({ cls := Value.type "tuple", data := Data.seq #[] } : Obj)) ::
  (nat_lit 270, ({ cls := Value.type "tuple", data := Data.seq #[Value.str (Str.ofString "source") 544, Value.str (Str.ofString "counters") 545, Value.str (Str.ofString "lists") 546, Value.str (Str.ofString "port") 547, Value.str (Str.ofString "way") 548, Value.str (Str.ofString "word") 549, Value.str (Str.ofString "why") 550, Value.str (Str.ofString "target") 551, Value.str (Str.ofString "ends") 552, Value.str (Str.ofString "size") 553] } : Obj)) ::
  (nat_lit 271, ({ cls := Value.type "tuple", data := Data.seq #[] } : Obj)) ::
  (nat_lit 273, ({ cls := Value.type "code", data := Data.fields #[Value.str (Str.ofString "_law_step") 541, Value.str (Str.ofString "_law_step") 542, Value.str (Str.ofString "/claim/cut.py") 543, Value.int 134 0, Value.int 3 0, Value.int 0 0, Value.int 0 0, Value.int 3 0, Value.ref 268, Value.bool true, Value.int 181 0, Value.ref 269, Value.none, Value.ref 270, Value.ref 271, Value.ref 272, Value.int 554 0, Value.int 134 0, Value.str (Str.ofString "/claim/cut.py") 555] } : Obj)) ::
  (nat_lit 274, (withBits (fnBits (nthS topS 26)) _ _ _ rfl fun p b s => { cls := Value.type "function", data := Data.func { name := Str.ofString "_law_step", qualname := Str.ofString "_law_step", params := p, body := FuncBody.stmts b, scope := s, globals := 3, closure := [], defaults := Value.none, kwdefaults := Value.none, pyModule := Value.str (Str.ofString "law_pc0362_01") 462, code := Value.ref 273 } } : Obj)) ::
  (nat_lit 275, ({ cls := Value.type "tuple", data := Data.seq #[] } : Obj)) ::
  (nat_lit 278, ({ cls := Value.type "code", data := Data.fields #[Value.str (Str.ofString "_law_is_right") 557, Value.str (Str.ofString "_law_is_right") 558, Value.str (Str.ofString "/claim/cut.py") 559, Value.int 149 0, Value.int 3 0, Value.int 0 0, Value.int 0 0, Value.int 3 0, Value.ref 275, Value.bool true, Value.int 181 0, Value.ref 276, Value.none, Value.none, Value.none, Value.ref 277, Value.int 560 0, Value.int 149 0, Value.str (Str.ofString "/claim/cut.py") 561] } : Obj)) ::
  (nat_lit 279, (withBits (fnBits (nthS topS 27)) _ _ _ rfl fun p b s => { cls := Value.type "function", data := Data.func { name := Str.ofString "_law_is_right", qualname := Str.ofString "_law_is_right", params := p, body := FuncBody.stmts b, scope := s, globals := 3, closure := [], defaults := Value.none, kwdefaults := Value.none, pyModule := Value.str (Str.ofString "law_pc0362_01") 462, code := Value.ref 278 } } : Obj)) ::
  (nat_lit 280, ({ cls := Value.type "tuple", data := Data.seq #[] } : Obj)) ::
  (nat_lit 283, ({ cls := Value.type "code", data := Data.fields #[Value.str (Str.ofString "law") 563, Value.str (Str.ofString "law") 564, Value.str (Str.ofString "/claim/cut.py") 565, Value.int 162 0, Value.int 1 0, Value.int 0 0, Value.int 0 0, Value.int 3 0, Value.ref 280, Value.bool true, Value.int 181 0, Value.ref 281, Value.none, Value.none, Value.none, Value.ref 282, Value.int 566 0, Value.int 162 0, Value.str (Str.ofString "/claim/cut.py") 567] } : Obj)) ::
  (nat_lit 284, (withBits (fnBits (nthS topS 28)) _ _ _ rfl fun p b s => { cls := Value.type "function", data := Data.func { name := Str.ofString "law", qualname := Str.ofString "law", params := p, body := FuncBody.stmts b, scope := s, globals := 3, closure := [], defaults := Value.none, kwdefaults := Value.none, pyModule := Value.str (Str.ofString "law_pc0362_01") 462, code := Value.ref 283 } } : Obj)) ::
  []
abbrev hd.addrs : List Addr := nat_lit 2 :: nat_lit 3 :: nat_lit 15 :: nat_lit 22 :: nat_lit 24 :: nat_lit 25 :: nat_lit 27 :: nat_lit 28 :: nat_lit 29 :: nat_lit 30 :: nat_lit 31 :: nat_lit 32 :: nat_lit 35 :: nat_lit 42 :: nat_lit 43 :: nat_lit 44 :: nat_lit 47 :: nat_lit 49 :: nat_lit 50 :: nat_lit 52 :: nat_lit 53 :: nat_lit 54 :: nat_lit 56 :: nat_lit 57 :: nat_lit 59 :: nat_lit 60 :: nat_lit 61 :: nat_lit 62 :: nat_lit 63 :: nat_lit 64 :: nat_lit 66 :: nat_lit 67 :: nat_lit 69 :: nat_lit 70 :: nat_lit 71 :: nat_lit 73 :: nat_lit 74 :: nat_lit 76 :: nat_lit 77 :: nat_lit 78 :: nat_lit 80 :: nat_lit 81 :: nat_lit 83 :: nat_lit 84 :: nat_lit 92 :: nat_lit 94 :: nat_lit 95 :: nat_lit 97 :: nat_lit 98 :: nat_lit 99 :: nat_lit 100 :: nat_lit 102 :: nat_lit 103 :: nat_lit 105 :: nat_lit 106 :: nat_lit 107 :: nat_lit 109 :: nat_lit 110 :: nat_lit 112 :: nat_lit 113 :: nat_lit 114 :: nat_lit 116 :: nat_lit 117 :: nat_lit 119 :: nat_lit 120 :: nat_lit 121 :: nat_lit 122 :: nat_lit 123 :: nat_lit 124 :: nat_lit 125 :: nat_lit 135 :: nat_lit 136 :: nat_lit 138 :: nat_lit 139 :: nat_lit 141 :: nat_lit 142 :: nat_lit 143 :: nat_lit 145 :: nat_lit 146 :: nat_lit 148 :: nat_lit 149 :: nat_lit 150 :: nat_lit 152 :: nat_lit 153 :: nat_lit 155 :: nat_lit 156 :: nat_lit 157 :: nat_lit 159 :: nat_lit 160 :: nat_lit 162 :: nat_lit 163 :: nat_lit 164 :: nat_lit 166 :: nat_lit 167 :: nat_lit 169 :: nat_lit 170 :: nat_lit 171 :: nat_lit 173 :: nat_lit 174 :: nat_lit 176 :: nat_lit 177 :: nat_lit 178 :: nat_lit 181 :: nat_lit 182 :: nat_lit 183 :: nat_lit 185 :: nat_lit 186 :: nat_lit 188 :: nat_lit 189 :: nat_lit 190 :: nat_lit 193 :: nat_lit 194 :: nat_lit 195 :: nat_lit 198 :: nat_lit 199 :: nat_lit 200 :: nat_lit 201 :: nat_lit 202 :: nat_lit 203 :: nat_lit 204 :: nat_lit 207 :: nat_lit 209 :: nat_lit 210 :: nat_lit 212 :: nat_lit 213 :: nat_lit 214 :: nat_lit 216 :: nat_lit 217 :: nat_lit 219 :: nat_lit 220 :: nat_lit 221 :: nat_lit 223 :: nat_lit 224 :: nat_lit 226 :: nat_lit 227 :: nat_lit 228 :: nat_lit 230 :: nat_lit 231 :: nat_lit 233 :: nat_lit 234 :: nat_lit 235 :: nat_lit 238 :: nat_lit 239 :: nat_lit 240 :: nat_lit 242 :: nat_lit 243 :: nat_lit 245 :: nat_lit 246 :: nat_lit 247 :: nat_lit 249 :: nat_lit 250 :: nat_lit 252 :: nat_lit 253 :: nat_lit 254 :: nat_lit 256 :: nat_lit 257 :: nat_lit 259 :: nat_lit 260 :: nat_lit 261 :: nat_lit 263 :: nat_lit 264 :: nat_lit 266 :: nat_lit 267 :: nat_lit 268 :: nat_lit 270 :: nat_lit 271 :: nat_lit 273 :: nat_lit 274 :: nat_lit 275 :: nat_lit 278 :: nat_lit 279 :: nat_lit 280 :: nat_lit 283 :: nat_lit 284 ::  []
end Mine
namespace Mine
/-! the states of the top's run, and the run, piece by piece -/
noncomputable def hd.o_43 (P : Params) : Obj := { cls := Value.type "tuple", data := Data.seq #[] }
noncomputable def hd.o_44 (P : Params) : Obj := { cls := Value.none, data := Data.fields #[] }
noncomputable def hd.o_45 (P : Params) : Obj := { cls := Value.type "code", data := Data.fields #[Value.str (Str.ofString "<module>") 182, Value.str (Str.ofString "<module>") 183, Value.str (Str.ofString "/claim/cut.py") 184, Value.int 1 0, Value.int 0 0, Value.int 0 0, Value.int 0 0, Value.int 0 0, Value.ref 11, Value.bool false, Value.int 181 0, Value.ref 12, Value.none, Value.none, Value.none, Value.none, Value.int 185 0, Value.int 1 0, Value.str (Str.ofString "/claim/cut.py") 186] }
noncomputable def hd.o_46 (P : Params) : Obj := { cls := Value.type "frame", slots := #[some (Value.ref 13), some (Value.ref 3), some (Value.ref 3), none, some (Value.str (Str.ofString "__main__") 164), none, some (Value.ref 0)] }
noncomputable def hd.o_49 (P : Params) : Obj := { cls := Value.none, data := Data.dict #[{ hash := PyData.keyHash P (Str.ofString "type.__subclasses__.Exception.0"), key := Value.str (Str.ofString "type.__subclasses__.Exception.0") 214, val := Value.int 31 0 }, { hash := PyData.keyHash P (Str.ofString "type.__subclasses__.Exception.n"), key := Value.str (Str.ofString "type.__subclasses__.Exception.n") 215, val := Value.int 1 0 }] 2 }
noncomputable def hd.o_50 (P : Params) : Obj := { cls := Value.type "dict", data := Data.dict #[{ hash := PyData.keyHash P (Str.ofString "__name__"), key := Value.str (Str.ofString "__name__") 165, val := Value.str (Str.ofString "switchloom.errors") 187 }, { hash := PyData.keyHash P (Str.ofString "__doc__"), key := Value.str (Str.ofString "__doc__") 166, val := Value.none }, { hash := PyData.keyHash P (Str.ofString "__package__"), key := Value.str (Str.ofString "__package__") 167, val := Value.none }, { hash := PyData.keyHash P (Str.ofString "__loader__"), key := Value.str (Str.ofString "__loader__") 168, val := Value.builtin "__main__.__loader__#opaque" }, { hash := PyData.keyHash P (Str.ofString "__spec__"), key := Value.str (Str.ofString "__spec__") 169, val := Value.none }, { hash := PyData.keyHash P (Str.ofString "__annotations__"), key := Value.str (Str.ofString "__annotations__") 170, val := Value.ref 6 }, { hash := PyData.keyHash P (Str.ofString "__builtins__"), key := Value.str (Str.ofString "__builtins__") 171, val := Value.ref 4 }, { hash := PyData.keyHash P (Str.ofString "__file__"), key := Value.str (Str.ofString "__file__") 173, val := Value.str (Str.ofString "/claim/cut.py") 172 }, { hash := PyData.keyHash P (Str.ofString "__cached__"), key := Value.str (Str.ofString "__cached__") 174, val := Value.none }, { hash := PyData.keyHash P (Str.ofString "SwitchError"), key := Value.str (Str.ofString "SwitchError") 217, val := Value.ref 31 }] 10 }
noncomputable def hd.o_51 (P : Params) : Obj := { cls := Value.none, data := Data.fields #[Value.int 2 0, Value.int 0 0, Value.ref 20] }
noncomputable def hd.o_52 (P : Params) : Obj := { cls := Value.type "tuple", data := Data.seq #[Value.type "Exception"] }
noncomputable def hd.o_53 (P : Params) : Obj := { cls := Value.type "builtin_function_or_method", data := Data.fields #[Value.builtin "type.__prepare__", Value.type "type"] }
noncomputable def hd.o_54 (P : Params) : Obj := { cls := Value.type "dict", data := Data.dict #[{ hash := PyData.keyHash P (Str.ofString "__module__"), key := Value.str (Str.ofString "__module__") 196, val := Value.str (Str.ofString "switchloom.errors") 187 }, { hash := PyData.keyHash P (Str.ofString "__qualname__"), key := Value.str (Str.ofString "__qualname__") 198, val := Value.str (Str.ofString "SwitchError") 197 }, { hash := PyData.keyHash P (Str.ofString "__firstlineno__"), key := Value.str (Str.ofString "__firstlineno__") 200, val := Value.int 2 199 }, { hash := PyData.keyHash P (Str.ofString "__init__"), key := Value.str (Str.ofString "__init__") 208, val := Value.ref 28 }, { hash := PyData.keyHash P (Str.ofString "__static_attributes__"), key := Value.str (Str.ofString "__static_attributes__") 210, val := Value.ref 29 }] 5 }
noncomputable def hd.o_55 (P : Params) : Obj := { cls := Value.type "tuple", data := Data.seq #[] }
noncomputable def hd.o_56 (P : Params) : Obj := { cls := Value.none, data := Data.fields #[Value.int 4 0, Value.int 4 0, Value.ref 27] }
noncomputable def hd.o_57 (P : Params) : Obj := { cls := Value.type "code", data := Data.fields #[Value.str (Str.ofString "SwitchError") 191, Value.str (Str.ofString "SwitchError") 192, Value.str (Str.ofString "/claim/cut.py") 193, Value.int 2 0, Value.int 0 0, Value.int 0 0, Value.int 0 0, Value.int 0 0, Value.ref 18, Value.bool false, Value.int 181 0, Value.ref 19, Value.none, Value.none, Value.none, Value.none, Value.int 194 0, Value.int 2 0, Value.str (Str.ofString "/claim/cut.py") 195] }
noncomputable def hd.o_58 (P : Params) : Obj := { cls := Value.type "frame", slots := #[some (Value.ref 20), some (Value.ref 3), some (Value.ref 17), none, some (Value.str (Str.ofString "switchloom.errors") 187), none, some (Value.ref 0)] }
noncomputable def hd.o_59 (P : Params) : Obj := { cls := Value.type "tuple", data := Data.seq #[] }
noncomputable def hd.o_60 (P : Params) : Obj := { cls := Value.none, data := Data.fields #[] }
noncomputable def hd.o_61 (P : Params) : Obj := { cls := Value.type "tuple", data := Data.seq #[Value.str (Str.ofString "self") 204, Value.str (Str.ofString "message") 205] }
noncomputable def hd.o_62 (P : Params) : Obj := { cls := Value.type "tuple", data := Data.seq #[] }
noncomputable def hd.o_63 (P : Params) : Obj := withBits (fnBits (nthS (clsBody (nthS topS 1)) 0)) _ _ _ rfl fun p b s => { cls := Value.none, data := Data.func { name := Str.ofString "__init__", qualname := Str.ofString "SwitchError.__init__", params := p, body := FuncBody.stmts b, scope := s, globals := 0, closure := [], defaults := Value.none, kwdefaults := Value.none } }
noncomputable def hd.o_64 (P : Params) : Obj := { cls := Value.type "code", data := Data.fields #[Value.str (Str.ofString "__init__") 201, Value.str (Str.ofString "SwitchError.__init__") 202, Value.str (Str.ofString "/claim/cut.py") 203, Value.int 4 0, Value.int 2 0, Value.int 0 0, Value.int 0 0, Value.int 3 0, Value.ref 22, Value.bool true, Value.int 181 0, Value.ref 23, Value.none, Value.ref 24, Value.ref 25, Value.ref 26, Value.int 206 0, Value.int 4 0, Value.str (Str.ofString "/claim/cut.py") 207] }
noncomputable def hd.o_65 (P : Params) : Obj := withBits (fnBits (nthS (clsBody (nthS topS 1)) 0)) _ _ _ rfl fun p b s => { cls := Value.type "function", data := Data.func { name := Str.ofString "__init__", qualname := Str.ofString "SwitchError.__init__", params := p, body := FuncBody.stmts b, scope := s, globals := 3, closure := [], defaults := Value.none, kwdefaults := Value.none, pyModule := Value.str (Str.ofString "switchloom.errors") 187, code := Value.ref 27 } }
noncomputable def hd.o_66 (P : Params) : Obj := { cls := Value.type "tuple", data := Data.seq #[Value.str (Str.ofString "message") 209] }
noncomputable def hd.o_67 (P : Params) : Obj := { cls := Value.type "dict", data := Data.dict #[{ hash := PyData.keyHash P (Str.ofString "__module__"), key := Value.str (Str.ofString "__module__") 196, val := Value.str (Str.ofString "switchloom.errors") 187 }, { hash := PyData.keyHash P (Str.ofString "__firstlineno__"), key := Value.str (Str.ofString "__firstlineno__") 200, val := Value.int 2 199 }, { hash := PyData.keyHash P (Str.ofString "__init__"), key := Value.str (Str.ofString "__init__") 208, val := Value.ref 28 }, { hash := PyData.keyHash P (Str.ofString "__static_attributes__"), key := Value.str (Str.ofString "__static_attributes__") 210, val := Value.ref 29 }, { hash := PyData.keyHash P (Str.ofString "__weakref__"), key := Value.str (Str.ofString "__weakref__") 212, val := Value.ref 32 }, { hash := PyData.keyHash P (Str.ofString "__doc__"), key := Value.str (Str.ofString "__doc__") 213, val := Value.none }] 3 }
noncomputable def hd.o_68 (P : Params) : Obj := { cls := Value.type "type", data := Data.cls { name := Str.ofString "SwitchError", bases := [Value.type "Exception"], mro := [Value.ref 31, Value.type "Exception", Value.type "BaseException", Value.type "object"], ns := 30, qualname := Str.ofString "SwitchError" }, slots := #[some (Value.ref 15), none, some (Value.str (Str.ofString "SwitchError") 189), some (Value.str (Str.ofString "SwitchError") 197), some (Value.builtin "Exception.__new__"), some (Value.bool true)] }
noncomputable def hd.o_69 (P : Params) : Obj := { cls := Value.type "getset_descriptor", data := Data.fields #[Value.str (Str.ofString "__weakref__") 211, Value.ref 31, Value.builtin "ExceptionGroup.__weakref__", Value.none] }
noncomputable def hd.o_70 (P : Params) : Obj := { cls := Value.type "super", data := Data.fields #[Value.ref 31, Value.ref 31, Value.ref 31] }
noncomputable def hd.o_71 (P : Params) : Obj := { cls := Value.type "builtin_function_or_method", data := Data.fields #[Value.builtin "object.__init_subclass__", Value.ref 31] }
noncomputable def hd.o_72 (P : Params) : Obj := { cls := Value.type "dict", data := Data.dict #[{ hash := PyData.keyHash P (Str.ofString "__name__"), key := Value.str (Str.ofString "__name__") 165, val := Value.str (Str.ofString "switchloom.counters") 256 }, { hash := PyData.keyHash P (Str.ofString "__doc__"), key := Value.str (Str.ofString "__doc__") 166, val := Value.none }, { hash := PyData.keyHash P (Str.ofString "__package__"), key := Value.str (Str.ofString "__package__") 167, val := Value.none }, { hash := PyData.keyHash P (Str.ofString "__loader__"), key := Value.str (Str.ofString "__loader__") 168, val := Value.builtin "__main__.__loader__#opaque" }, { hash := PyData.keyHash P (Str.ofString "__spec__"), key := Value.str (Str.ofString "__spec__") 169, val := Value.none }, { hash := PyData.keyHash P (Str.ofString "__annotations__"), key := Value.str (Str.ofString "__annotations__") 170, val := Value.ref 6 }, { hash := PyData.keyHash P (Str.ofString "__builtins__"), key := Value.str (Str.ofString "__builtins__") 171, val := Value.ref 4 }, { hash := PyData.keyHash P (Str.ofString "__file__"), key := Value.str (Str.ofString "__file__") 173, val := Value.str (Str.ofString "/claim/cut.py") 172 }, { hash := PyData.keyHash P (Str.ofString "__cached__"), key := Value.str (Str.ofString "__cached__") 174, val := Value.none }, { hash := PyData.keyHash P (Str.ofString "SwitchError"), key := Value.str (Str.ofString "SwitchError") 217, val := Value.ref 31 }, { hash := PyData.keyHash P (Str.ofString "TableError"), key := Value.str (Str.ofString "TableError") 233, val := Value.ref 44 }, { hash := PyData.keyHash P (Str.ofString "EVERYBODY"), key := Value.str (Str.ofString "EVERYBODY") 241, val := Value.int 281474976710655 240 }, { hash := PyData.keyHash P (Str.ofString "is_group"), key := Value.str (Str.ofString "is_group") 248, val := Value.ref 53 }, { hash := PyData.keyHash P (Str.ofString "is_broadcast"), key := Value.str (Str.ofString "is_broadcast") 255, val := Value.ref 60 }, { hash := PyData.keyHash P (Str.ofString "SIZE_ENDS"), key := Value.str (Str.ofString "SIZE_ENDS") 264, val := Value.ref 61 }, { hash := PyData.keyHash P (Str.ofString "SIZE_NAMES"), key := Value.str (Str.ofString "SIZE_NAMES") 272, val := Value.ref 62 }, { hash := PyData.keyHash P (Str.ofString "SORTS"), key := Value.str (Str.ofString "SORTS") 276, val := Value.ref 63 }, { hash := PyData.keyHash P (Str.ofString "sort_of_target"), key := Value.str (Str.ofString "sort_of_target") 283, val := Value.ref 70 }] 18 }
noncomputable def hd.o_73 (P : Params) : Obj := { cls := Value.none, data := Data.fields #[Value.int 2 0, Value.int 0 0, Value.ref 20, Value.int 7 0, Value.int 0 0, Value.ref 40, Value.int 11 0, Value.int 0 0, Value.ref 52, Value.int 13 0, Value.int 0 0, Value.ref 59, Value.int 19 0, Value.int 0 0, Value.ref 69] }
noncomputable def hd.o_74 (P : Params) : Obj := { cls := Value.type "type", data := Data.cls { name := Str.ofString "SwitchError", bases := [Value.type "Exception"], mro := [Value.ref 31, Value.type "Exception", Value.type "BaseException", Value.type "object"], ns := 30, qualname := Str.ofString "SwitchError", subclasses := [Value.ref 44] }, slots := #[some (Value.ref 15), none, some (Value.str (Str.ofString "SwitchError") 189), some (Value.str (Str.ofString "SwitchError") 197), some (Value.builtin "Exception.__new__"), some (Value.bool true)] }
noncomputable def hd.o_75 (P : Params) : Obj := { cls := Value.type "tuple", data := Data.seq #[Value.ref 31] }
noncomputable def hd.o_76 (P : Params) : Obj := { cls := Value.type "builtin_function_or_method", data := Data.fields #[Value.builtin "type.__prepare__", Value.type "type"] }
noncomputable def hd.o_77 (P : Params) : Obj := { cls := Value.type "dict", data := Data.dict #[{ hash := PyData.keyHash P (Str.ofString "__module__"), key := Value.str (Str.ofString "__module__") 225, val := Value.str (Str.ofString "switchloom.errors") 187 }, { hash := PyData.keyHash P (Str.ofString "__qualname__"), key := Value.str (Str.ofString "__qualname__") 227, val := Value.str (Str.ofString "TableError") 226 }, { hash := PyData.keyHash P (Str.ofString "__firstlineno__"), key := Value.str (Str.ofString "__firstlineno__") 229, val := Value.int 7 228 }, { hash := PyData.keyHash P (Str.ofString "__static_attributes__"), key := Value.str (Str.ofString "__static_attributes__") 230, val := Value.ref 42 }] 4 }
noncomputable def hd.o_78 (P : Params) : Obj := { cls := Value.type "tuple", data := Data.seq #[] }
noncomputable def hd.o_79 (P : Params) : Obj := { cls := Value.none, data := Data.fields #[] }
noncomputable def hd.o_80 (P : Params) : Obj := { cls := Value.type "code", data := Data.fields #[Value.str (Str.ofString "TableError") 220, Value.str (Str.ofString "TableError") 221, Value.str (Str.ofString "/claim/cut.py") 222, Value.int 7 0, Value.int 0 0, Value.int 0 0, Value.int 0 0, Value.int 0 0, Value.ref 38, Value.bool false, Value.int 181 0, Value.ref 39, Value.none, Value.none, Value.none, Value.none, Value.int 223 0, Value.int 7 0, Value.str (Str.ofString "/claim/cut.py") 224] }
noncomputable def hd.o_81 (P : Params) : Obj := { cls := Value.type "frame", slots := #[some (Value.ref 40), some (Value.ref 3), some (Value.ref 37), none, some (Value.str (Str.ofString "switchloom.errors") 187), none, some (Value.ref 0)] }
noncomputable def hd.o_82 (P : Params) : Obj := { cls := Value.type "tuple", data := Data.seq #[] }
noncomputable def hd.o_83 (P : Params) : Obj := { cls := Value.type "dict", data := Data.dict #[{ hash := PyData.keyHash P (Str.ofString "__module__"), key := Value.str (Str.ofString "__module__") 225, val := Value.str (Str.ofString "switchloom.errors") 187 }, { hash := PyData.keyHash P (Str.ofString "__firstlineno__"), key := Value.str (Str.ofString "__firstlineno__") 229, val := Value.int 7 228 }, { hash := PyData.keyHash P (Str.ofString "__static_attributes__"), key := Value.str (Str.ofString "__static_attributes__") 230, val := Value.ref 42 }, { hash := PyData.keyHash P (Str.ofString "__doc__"), key := Value.str (Str.ofString "__doc__") 231, val := Value.none }] 2 }
noncomputable def hd.o_84 (P : Params) : Obj := { cls := Value.type "type", data := Data.cls { name := Str.ofString "TableError", bases := [Value.ref 31], mro := [Value.ref 44, Value.ref 31, Value.type "Exception", Value.type "BaseException", Value.type "object"], ns := 43, qualname := Str.ofString "TableError" }, slots := #[some (Value.ref 35), none, some (Value.str (Str.ofString "TableError") 218), some (Value.str (Str.ofString "TableError") 226), some (Value.builtin "Exception.__new__"), some (Value.bool true)] }
noncomputable def hd.o_85 (P : Params) : Obj := { cls := Value.type "super", data := Data.fields #[Value.ref 44, Value.ref 44, Value.ref 44] }
noncomputable def hd.o_86 (P : Params) : Obj := { cls := Value.type "builtin_function_or_method", data := Data.fields #[Value.builtin "object.__init_subclass__", Value.ref 44] }
noncomputable def hd.o_87 (P : Params) : Obj := { cls := Value.type "tuple", data := Data.seq #[] }
noncomputable def hd.o_88 (P : Params) : Obj := { cls := Value.none, data := Data.fields #[] }
noncomputable def hd.o_89 (P : Params) : Obj := { cls := Value.type "tuple", data := Data.seq #[Value.str (Str.ofString "mac") 245] }
noncomputable def hd.o_90 (P : Params) : Obj := { cls := Value.type "tuple", data := Data.seq #[] }
noncomputable def hd.o_91 (P : Params) : Obj := withBits (fnBits (nthS topS 5)) _ _ _ rfl fun p b s => { cls := Value.none, data := Data.func { name := Str.ofString "is_group", qualname := Str.ofString "is_group", params := p, body := FuncBody.stmts b, scope := s, globals := 0, closure := [], defaults := Value.none, kwdefaults := Value.none } }
noncomputable def hd.o_92 (P : Params) : Obj := { cls := Value.type "code", data := Data.fields #[Value.str (Str.ofString "is_group") 242, Value.str (Str.ofString "is_group") 243, Value.str (Str.ofString "/claim/cut.py") 244, Value.int 11 0, Value.int 1 0, Value.int 0 0, Value.int 0 0, Value.int 3 0, Value.ref 47, Value.bool true, Value.int 181 0, Value.ref 48, Value.none, Value.ref 49, Value.ref 50, Value.ref 51, Value.int 246 0, Value.int 11 0, Value.str (Str.ofString "/claim/cut.py") 247] }
noncomputable def hd.o_93 (P : Params) : Obj := withBits (fnBits (nthS topS 5)) _ _ _ rfl fun p b s => { cls := Value.type "function", data := Data.func { name := Str.ofString "is_group", qualname := Str.ofString "is_group", params := p, body := FuncBody.stmts b, scope := s, globals := 3, closure := [], defaults := Value.none, kwdefaults := Value.none, pyModule := Value.str (Str.ofString "switchloom.frames") 234, code := Value.ref 52 } }
noncomputable def hd.o_94 (P : Params) : Obj := { cls := Value.type "tuple", data := Data.seq #[] }
noncomputable def hd.o_95 (P : Params) : Obj := { cls := Value.none, data := Data.fields #[] }
noncomputable def hd.o_96 (P : Params) : Obj := { cls := Value.type "tuple", data := Data.seq #[Value.str (Str.ofString "mac") 252] }
noncomputable def hd.o_97 (P : Params) : Obj := { cls := Value.type "tuple", data := Data.seq #[] }
noncomputable def hd.o_98 (P : Params) : Obj := withBits (fnBits (nthS topS 6)) _ _ _ rfl fun p b s => { cls := Value.none, data := Data.func { name := Str.ofString "is_broadcast", qualname := Str.ofString "is_broadcast", params := p, body := FuncBody.stmts b, scope := s, globals := 0, closure := [], defaults := Value.none, kwdefaults := Value.none } }
noncomputable def hd.o_99 (P : Params) : Obj := { cls := Value.type "code", data := Data.fields #[Value.str (Str.ofString "is_broadcast") 249, Value.str (Str.ofString "is_broadcast") 250, Value.str (Str.ofString "/claim/cut.py") 251, Value.int 13 0, Value.int 1 0, Value.int 0 0, Value.int 0 0, Value.int 3 0, Value.ref 54, Value.bool true, Value.int 181 0, Value.ref 55, Value.none, Value.ref 56, Value.ref 57, Value.ref 58, Value.int 253 0, Value.int 13 0, Value.str (Str.ofString "/claim/cut.py") 254] }
noncomputable def hd.o_100 (P : Params) : Obj := withBits (fnBits (nthS topS 6)) _ _ _ rfl fun p b s => { cls := Value.type "function", data := Data.func { name := Str.ofString "is_broadcast", qualname := Str.ofString "is_broadcast", params := p, body := FuncBody.stmts b, scope := s, globals := 3, closure := [], defaults := Value.none, kwdefaults := Value.none, pyModule := Value.str (Str.ofString "switchloom.frames") 234, code := Value.ref 59 } }
noncomputable def hd.o_101 (P : Params) : Obj := { cls := Value.type "tuple", data := Data.seq #[Value.int 64 258, Value.int 127 259, Value.int 255 260, Value.int 511 261, Value.int 1023 262, Value.int 1518 263] }
noncomputable def hd.o_102 (P : Params) : Obj := { cls := Value.type "tuple", data := Data.seq #[Value.str (Str.ofString "64") 265, Value.str (Str.ofString "65 to 127") 266, Value.str (Str.ofString "128 to 255") 267, Value.str (Str.ofString "256 to 511") 268, Value.str (Str.ofString "512 to 1023") 269, Value.str (Str.ofString "1024 to 1518") 270, Value.str (Str.ofString "more") 271] }
noncomputable def hd.o_103 (P : Params) : Obj := { cls := Value.type "tuple", data := Data.seq #[Value.str (Str.ofString "single") 273, Value.str (Str.ofString "group") 274, Value.str (Str.ofString "broadcast") 275] }
noncomputable def hd.o_104 (P : Params) : Obj := { cls := Value.type "tuple", data := Data.seq #[] }
noncomputable def hd.o_105 (P : Params) : Obj := { cls := Value.none, data := Data.fields #[] }
noncomputable def hd.o_106 (P : Params) : Obj := { cls := Value.type "tuple", data := Data.seq #[Value.str (Str.ofString "target") 280] }
noncomputable def hd.o_107 (P : Params) : Obj := { cls := Value.type "tuple", data := Data.seq #[] }
noncomputable def hd.o_108 (P : Params) : Obj := withBits (fnBits (nthS topS 11)) _ _ _ rfl fun p b s => { cls := Value.none, data := Data.func { name := Str.ofString "sort_of_target", qualname := Str.ofString "sort_of_target", params := p, body := FuncBody.stmts b, scope := s, globals := 0, closure := [], defaults := Value.none, kwdefaults := Value.none } }
noncomputable def hd.o_109 (P : Params) : Obj := { cls := Value.type "code", data := Data.fields #[Value.str (Str.ofString "sort_of_target") 277, Value.str (Str.ofString "sort_of_target") 278, Value.str (Str.ofString "/claim/cut.py") 279, Value.int 19 0, Value.int 1 0, Value.int 0 0, Value.int 0 0, Value.int 3 0, Value.ref 64, Value.bool true, Value.int 181 0, Value.ref 65, Value.none, Value.ref 66, Value.ref 67, Value.ref 68, Value.int 281 0, Value.int 19 0, Value.str (Str.ofString "/claim/cut.py") 282] }
noncomputable def hd.o_110 (P : Params) : Obj := withBits (fnBits (nthS topS 11)) _ _ _ rfl fun p b s => { cls := Value.type "function", data := Data.func { name := Str.ofString "sort_of_target", qualname := Str.ofString "sort_of_target", params := p, body := FuncBody.stmts b, scope := s, globals := 3, closure := [], defaults := Value.none, kwdefaults := Value.none, pyModule := Value.str (Str.ofString "switchloom.counters") 256, code := Value.ref 69 } }
noncomputable def hd.o_111 (P : Params) : Obj := { cls := Value.type "dict", data := Data.dict #[{ hash := PyData.keyHash P (Str.ofString "__name__"), key := Value.str (Str.ofString "__name__") 165, val := Value.str (Str.ofString "switchloom.counters") 256 }, { hash := PyData.keyHash P (Str.ofString "__doc__"), key := Value.str (Str.ofString "__doc__") 166, val := Value.none }, { hash := PyData.keyHash P (Str.ofString "__package__"), key := Value.str (Str.ofString "__package__") 167, val := Value.none }, { hash := PyData.keyHash P (Str.ofString "__loader__"), key := Value.str (Str.ofString "__loader__") 168, val := Value.builtin "__main__.__loader__#opaque" }, { hash := PyData.keyHash P (Str.ofString "__spec__"), key := Value.str (Str.ofString "__spec__") 169, val := Value.none }, { hash := PyData.keyHash P (Str.ofString "__annotations__"), key := Value.str (Str.ofString "__annotations__") 170, val := Value.ref 6 }, { hash := PyData.keyHash P (Str.ofString "__builtins__"), key := Value.str (Str.ofString "__builtins__") 171, val := Value.ref 4 }, { hash := PyData.keyHash P (Str.ofString "__file__"), key := Value.str (Str.ofString "__file__") 173, val := Value.str (Str.ofString "/claim/cut.py") 172 }, { hash := PyData.keyHash P (Str.ofString "__cached__"), key := Value.str (Str.ofString "__cached__") 174, val := Value.none }, { hash := PyData.keyHash P (Str.ofString "SwitchError"), key := Value.str (Str.ofString "SwitchError") 217, val := Value.ref 31 }, { hash := PyData.keyHash P (Str.ofString "TableError"), key := Value.str (Str.ofString "TableError") 233, val := Value.ref 44 }, { hash := PyData.keyHash P (Str.ofString "EVERYBODY"), key := Value.str (Str.ofString "EVERYBODY") 241, val := Value.int 281474976710655 240 }, { hash := PyData.keyHash P (Str.ofString "is_group"), key := Value.str (Str.ofString "is_group") 248, val := Value.ref 53 }, { hash := PyData.keyHash P (Str.ofString "is_broadcast"), key := Value.str (Str.ofString "is_broadcast") 255, val := Value.ref 60 }, { hash := PyData.keyHash P (Str.ofString "SIZE_ENDS"), key := Value.str (Str.ofString "SIZE_ENDS") 264, val := Value.ref 61 }, { hash := PyData.keyHash P (Str.ofString "SIZE_NAMES"), key := Value.str (Str.ofString "SIZE_NAMES") 272, val := Value.ref 62 }, { hash := PyData.keyHash P (Str.ofString "SORTS"), key := Value.str (Str.ofString "SORTS") 276, val := Value.ref 63 }, { hash := PyData.keyHash P (Str.ofString "sort_of_target"), key := Value.str (Str.ofString "sort_of_target") 283, val := Value.ref 70 }, { hash := PyData.keyHash P (Str.ofString "class_of_size"), key := Value.str (Str.ofString "class_of_size") 292, val := Value.ref 77 }, { hash := PyData.keyHash P (Str.ofString "counted_between"), key := Value.str (Str.ofString "counted_between") 301, val := Value.ref 84 }, { hash := PyData.keyHash P (Str.ofString "PortCounters"), key := Value.str (Str.ofString "PortCounters") 356, val := Value.ref 123 }] 21 }
noncomputable def hd.o_112 (P : Params) : Obj := { cls := Value.none, data := Data.fields #[Value.int 2 0, Value.int 0 0, Value.ref 20, Value.int 7 0, Value.int 0 0, Value.ref 40, Value.int 11 0, Value.int 0 0, Value.ref 52, Value.int 13 0, Value.int 0 0, Value.ref 59, Value.int 19 0, Value.int 0 0, Value.ref 69, Value.int 23 0, Value.int 0 0, Value.ref 76, Value.int 28 0, Value.int 0 0, Value.ref 83, Value.int 30 0, Value.int 0 0, Value.ref 90] }
noncomputable def hd.o_113 (P : Params) : Obj := { cls := Value.type "tuple", data := Data.seq #[] }
noncomputable def hd.o_114 (P : Params) : Obj := { cls := Value.none, data := Data.fields #[] }
noncomputable def hd.o_115 (P : Params) : Obj := { cls := Value.type "tuple", data := Data.seq #[Value.str (Str.ofString "size") 287, Value.str (Str.ofString "at") 288, Value.str (Str.ofString "end") 289] }
noncomputable def hd.o_116 (P : Params) : Obj := { cls := Value.type "tuple", data := Data.seq #[] }
noncomputable def hd.o_117 (P : Params) : Obj := withBits (fnBits (nthS topS 12)) _ _ _ rfl fun p b s => { cls := Value.none, data := Data.func { name := Str.ofString "class_of_size", qualname := Str.ofString "class_of_size", params := p, body := FuncBody.stmts b, scope := s, globals := 0, closure := [], defaults := Value.none, kwdefaults := Value.none } }
noncomputable def hd.o_118 (P : Params) : Obj := { cls := Value.type "code", data := Data.fields #[Value.str (Str.ofString "class_of_size") 284, Value.str (Str.ofString "class_of_size") 285, Value.str (Str.ofString "/claim/cut.py") 286, Value.int 23 0, Value.int 1 0, Value.int 0 0, Value.int 0 0, Value.int 3 0, Value.ref 71, Value.bool true, Value.int 181 0, Value.ref 72, Value.none, Value.ref 73, Value.ref 74, Value.ref 75, Value.int 290 0, Value.int 23 0, Value.str (Str.ofString "/claim/cut.py") 291] }
noncomputable def hd.o_119 (P : Params) : Obj := withBits (fnBits (nthS topS 12)) _ _ _ rfl fun p b s => { cls := Value.type "function", data := Data.func { name := Str.ofString "class_of_size", qualname := Str.ofString "class_of_size", params := p, body := FuncBody.stmts b, scope := s, globals := 3, closure := [], defaults := Value.none, kwdefaults := Value.none, pyModule := Value.str (Str.ofString "switchloom.counters") 256, code := Value.ref 76 } }
noncomputable def hd.o_120 (P : Params) : Obj := { cls := Value.type "tuple", data := Data.seq #[] }
noncomputable def hd.o_121 (P : Params) : Obj := { cls := Value.none, data := Data.fields #[] }
noncomputable def hd.o_122 (P : Params) : Obj := { cls := Value.type "tuple", data := Data.seq #[Value.str (Str.ofString "old") 296, Value.str (Str.ofString "new") 297, Value.str (Str.ofString "bits") 298] }
noncomputable def hd.o_123 (P : Params) : Obj := { cls := Value.type "tuple", data := Data.seq #[] }
noncomputable def hd.o_124 (P : Params) : Obj := withBits (fnBits (nthS topS 13)) _ _ _ rfl fun p b s => { cls := Value.none, data := Data.func { name := Str.ofString "counted_between", qualname := Str.ofString "counted_between", params := p, body := FuncBody.stmts b, scope := s, globals := 0, closure := [], defaults := Value.none, kwdefaults := Value.none } }
noncomputable def hd.o_125 (P : Params) : Obj := { cls := Value.type "code", data := Data.fields #[Value.str (Str.ofString "counted_between") 293, Value.str (Str.ofString "counted_between") 294, Value.str (Str.ofString "/claim/cut.py") 295, Value.int 28 0, Value.int 3 0, Value.int 0 0, Value.int 0 0, Value.int 3 0, Value.ref 78, Value.bool true, Value.int 181 0, Value.ref 79, Value.none, Value.ref 80, Value.ref 81, Value.ref 82, Value.int 299 0, Value.int 28 0, Value.str (Str.ofString "/claim/cut.py") 300] }
noncomputable def hd.o_126 (P : Params) : Obj := withBits (fnBits (nthS topS 13)) _ _ _ rfl fun p b s => { cls := Value.type "function", data := Data.func { name := Str.ofString "counted_between", qualname := Str.ofString "counted_between", params := p, body := FuncBody.stmts b, scope := s, globals := 3, closure := [], defaults := Value.none, kwdefaults := Value.none, pyModule := Value.str (Str.ofString "switchloom.counters") 256, code := Value.ref 83 } }
noncomputable def hd.o_127 (P : Params) : Obj := { cls := Value.type "tuple", data := Data.seq #[] }
noncomputable def hd.o_128 (P : Params) : Obj := { cls := Value.type "builtin_function_or_method", data := Data.fields #[Value.builtin "type.__prepare__", Value.type "type"] }
noncomputable def hd.o_129 (P : Params) : Obj := { cls := Value.type "dict", data := Data.dict #[{ hash := PyData.keyHash P (Str.ofString "__module__"), key := Value.str (Str.ofString "__module__") 309, val := Value.str (Str.ofString "switchloom.counters") 256 }, { hash := PyData.keyHash P (Str.ofString "__qualname__"), key := Value.str (Str.ofString "__qualname__") 311, val := Value.str (Str.ofString "PortCounters") 310 }, { hash := PyData.keyHash P (Str.ofString "__firstlineno__"), key := Value.str (Str.ofString "__firstlineno__") 313, val := Value.int 30 312 }, { hash := PyData.keyHash P (Str.ofString "__init__"), key := Value.str (Str.ofString "__init__") 321, val := Value.ref 98 }, { hash := PyData.keyHash P (Str.ofString "count"), key := Value.str (Str.ofString "count") 331, val := Value.ref 106 }, { hash := PyData.keyHash P (Str.ofString "value"), key := Value.str (Str.ofString "value") 339, val := Value.ref 113 }, { hash := PyData.keyHash P (Str.ofString "clear"), key := Value.str (Str.ofString "clear") 346, val := Value.ref 120 }, { hash := PyData.keyHash P (Str.ofString "__static_attributes__"), key := Value.str (Str.ofString "__static_attributes__") 349, val := Value.ref 121 }] 8 }
noncomputable def hd.o_130 (P : Params) : Obj := { cls := Value.type "tuple", data := Data.seq #[] }
noncomputable def hd.o_131 (P : Params) : Obj := { cls := Value.none, data := Data.fields #[Value.int 32 0, Value.int 4 0, Value.ref 97, Value.int 36 0, Value.int 4 0, Value.ref 105, Value.int 39 0, Value.int 4 0, Value.ref 112, Value.int 42 0, Value.int 4 0, Value.ref 119] }
noncomputable def hd.o_132 (P : Params) : Obj := { cls := Value.type "code", data := Data.fields #[Value.str (Str.ofString "PortCounters") 304, Value.str (Str.ofString "PortCounters") 305, Value.str (Str.ofString "/claim/cut.py") 306, Value.int 30 0, Value.int 0 0, Value.int 0 0, Value.int 0 0, Value.int 0 0, Value.ref 88, Value.bool false, Value.int 181 0, Value.ref 89, Value.none, Value.none, Value.none, Value.none, Value.int 307 0, Value.int 30 0, Value.str (Str.ofString "/claim/cut.py") 308] }
noncomputable def hd.o_133 (P : Params) : Obj := { cls := Value.type "frame", slots := #[some (Value.ref 90), some (Value.ref 3), some (Value.ref 87), none, some (Value.str (Str.ofString "switchloom.counters") 256), none, some (Value.ref 0)] }
noncomputable def hd.o_134 (P : Params) : Obj := { cls := Value.type "tuple", data := Data.seq #[] }
noncomputable def hd.o_135 (P : Params) : Obj := { cls := Value.none, data := Data.fields #[] }
noncomputable def hd.o_136 (P : Params) : Obj := { cls := Value.type "tuple", data := Data.seq #[Value.str (Str.ofString "self") 317, Value.str (Str.ofString "bits") 318] }
noncomputable def hd.o_137 (P : Params) : Obj := { cls := Value.type "tuple", data := Data.seq #[] }
noncomputable def hd.o_138 (P : Params) : Obj := withBits (fnBits (nthS (clsBody (nthS topS 14)) 0)) _ _ _ rfl fun p b s => { cls := Value.none, data := Data.func { name := Str.ofString "__init__", qualname := Str.ofString "PortCounters.__init__", params := p, body := FuncBody.stmts b, scope := s, globals := 0, closure := [], defaults := Value.none, kwdefaults := Value.none } }
noncomputable def hd.o_139 (P : Params) : Obj := { cls := Value.type "code", data := Data.fields #[Value.str (Str.ofString "__init__") 314, Value.str (Str.ofString "PortCounters.__init__") 315, Value.str (Str.ofString "/claim/cut.py") 316, Value.int 32 0, Value.int 2 0, Value.int 0 0, Value.int 0 0, Value.int 3 0, Value.ref 92, Value.bool true, Value.int 181 0, Value.ref 93, Value.none, Value.ref 94, Value.ref 95, Value.ref 96, Value.int 319 0, Value.int 32 0, Value.str (Str.ofString "/claim/cut.py") 320] }
noncomputable def hd.o_140 (P : Params) : Obj := withBits (fnBits (nthS (clsBody (nthS topS 14)) 0)) _ _ _ rfl fun p b s => { cls := Value.type "function", data := Data.func { name := Str.ofString "__init__", qualname := Str.ofString "PortCounters.__init__", params := p, body := FuncBody.stmts b, scope := s, globals := 3, closure := [], defaults := Value.none, kwdefaults := Value.none, pyModule := Value.str (Str.ofString "switchloom.counters") 256, code := Value.ref 97 } }
noncomputable def hd.o_141 (P : Params) : Obj := { cls := Value.type "tuple", data := Data.seq #[Value.int 1 322] }
noncomputable def hd.o_142 (P : Params) : Obj := { cls := Value.type "tuple", data := Data.seq #[] }
noncomputable def hd.o_143 (P : Params) : Obj := { cls := Value.none, data := Data.fields #[] }
noncomputable def hd.o_144 (P : Params) : Obj := { cls := Value.type "tuple", data := Data.seq #[Value.str (Str.ofString "self") 326, Value.str (Str.ofString "name") 327, Value.str (Str.ofString "many") 328] }
noncomputable def hd.o_145 (P : Params) : Obj := { cls := Value.type "tuple", data := Data.seq #[] }
noncomputable def hd.o_146 (P : Params) : Obj := withBits (fnBits (nthS (clsBody (nthS topS 14)) 1)) _ _ _ rfl fun p b s => { cls := Value.none, data := Data.func { name := Str.ofString "count", qualname := Str.ofString "PortCounters.count", params := p, body := FuncBody.stmts b, scope := s, globals := 0, closure := [], defaults := Value.none, kwdefaults := Value.none } }
noncomputable def hd.o_147 (P : Params) : Obj := { cls := Value.type "code", data := Data.fields #[Value.str (Str.ofString "count") 323, Value.str (Str.ofString "PortCounters.count") 324, Value.str (Str.ofString "/claim/cut.py") 325, Value.int 36 0, Value.int 3 0, Value.int 0 0, Value.int 0 0, Value.int 3 0, Value.ref 100, Value.bool true, Value.int 181 0, Value.ref 101, Value.none, Value.ref 102, Value.ref 103, Value.ref 104, Value.int 329 0, Value.int 36 0, Value.str (Str.ofString "/claim/cut.py") 330] }
noncomputable def hd.o_148 (P : Params) : Obj := withBits (fnBits (nthS (clsBody (nthS topS 14)) 1)) _ _ _ rfl fun p b s => { cls := Value.type "function", data := Data.func { name := Str.ofString "count", qualname := Str.ofString "PortCounters.count", params := p, body := FuncBody.stmts b, scope := s, globals := 3, closure := [], defaults := Value.ref 99, kwdefaults := Value.none, pyModule := Value.str (Str.ofString "switchloom.counters") 256, code := Value.ref 105 } }
noncomputable def hd.o_149 (P : Params) : Obj := { cls := Value.type "tuple", data := Data.seq #[] }
noncomputable def hd.o_150 (P : Params) : Obj := { cls := Value.none, data := Data.fields #[] }
noncomputable def hd.o_151 (P : Params) : Obj := { cls := Value.type "tuple", data := Data.seq #[Value.str (Str.ofString "self") 335, Value.str (Str.ofString "name") 336] }
noncomputable def hd.o_152 (P : Params) : Obj := { cls := Value.type "tuple", data := Data.seq #[] }
noncomputable def hd.o_153 (P : Params) : Obj := withBits (fnBits (nthS (clsBody (nthS topS 14)) 2)) _ _ _ rfl fun p b s => { cls := Value.none, data := Data.func { name := Str.ofString "value", qualname := Str.ofString "PortCounters.value", params := p, body := FuncBody.stmts b, scope := s, globals := 0, closure := [], defaults := Value.none, kwdefaults := Value.none } }
noncomputable def hd.o_154 (P : Params) : Obj := { cls := Value.type "code", data := Data.fields #[Value.str (Str.ofString "value") 332, Value.str (Str.ofString "PortCounters.value") 333, Value.str (Str.ofString "/claim/cut.py") 334, Value.int 39 0, Value.int 2 0, Value.int 0 0, Value.int 0 0, Value.int 3 0, Value.ref 107, Value.bool true, Value.int 181 0, Value.ref 108, Value.none, Value.ref 109, Value.ref 110, Value.ref 111, Value.int 337 0, Value.int 39 0, Value.str (Str.ofString "/claim/cut.py") 338] }
noncomputable def hd.o_155 (P : Params) : Obj := withBits (fnBits (nthS (clsBody (nthS topS 14)) 2)) _ _ _ rfl fun p b s => { cls := Value.type "function", data := Data.func { name := Str.ofString "value", qualname := Str.ofString "PortCounters.value", params := p, body := FuncBody.stmts b, scope := s, globals := 3, closure := [], defaults := Value.none, kwdefaults := Value.none, pyModule := Value.str (Str.ofString "switchloom.counters") 256, code := Value.ref 112 } }
noncomputable def hd.o_156 (P : Params) : Obj := { cls := Value.type "tuple", data := Data.seq #[] }
noncomputable def hd.o_157 (P : Params) : Obj := { cls := Value.none, data := Data.fields #[] }
noncomputable def hd.o_158 (P : Params) : Obj := { cls := Value.type "tuple", data := Data.seq #[Value.str (Str.ofString "self") 343] }
noncomputable def hd.o_159 (P : Params) : Obj := { cls := Value.type "tuple", data := Data.seq #[] }
noncomputable def hd.o_160 (P : Params) : Obj := withBits (fnBits (nthS (clsBody (nthS topS 14)) 3)) _ _ _ rfl fun p b s => { cls := Value.none, data := Data.func { name := Str.ofString "clear", qualname := Str.ofString "PortCounters.clear", params := p, body := FuncBody.stmts b, scope := s, globals := 0, closure := [], defaults := Value.none, kwdefaults := Value.none } }
noncomputable def hd.o_161 (P : Params) : Obj := { cls := Value.type "code", data := Data.fields #[Value.str (Str.ofString "clear") 340, Value.str (Str.ofString "PortCounters.clear") 341, Value.str (Str.ofString "/claim/cut.py") 342, Value.int 42 0, Value.int 1 0, Value.int 0 0, Value.int 0 0, Value.int 3 0, Value.ref 114, Value.bool true, Value.int 181 0, Value.ref 115, Value.none, Value.ref 116, Value.ref 117, Value.ref 118, Value.int 344 0, Value.int 42 0, Value.str (Str.ofString "/claim/cut.py") 345] }
noncomputable def hd.o_162 (P : Params) : Obj := withBits (fnBits (nthS (clsBody (nthS topS 14)) 3)) _ _ _ rfl fun p b s => { cls := Value.type "function", data := Data.func { name := Str.ofString "clear", qualname := Str.ofString "PortCounters.clear", params := p, body := FuncBody.stmts b, scope := s, globals := 3, closure := [], defaults := Value.none, kwdefaults := Value.none, pyModule := Value.str (Str.ofString "switchloom.counters") 256, code := Value.ref 119 } }
noncomputable def hd.o_163 (P : Params) : Obj := { cls := Value.type "tuple", data := Data.seq #[Value.str (Str.ofString "bits") 347, Value.str (Str.ofString "counts") 348] }
noncomputable def hd.o_164 (P : Params) : Obj := { cls := Value.type "dict", data := Data.dict #[{ hash := PyData.keyHash P (Str.ofString "__module__"), key := Value.str (Str.ofString "__module__") 309, val := Value.str (Str.ofString "switchloom.counters") 256 }, { hash := PyData.keyHash P (Str.ofString "__firstlineno__"), key := Value.str (Str.ofString "__firstlineno__") 313, val := Value.int 30 312 }, { hash := PyData.keyHash P (Str.ofString "__init__"), key := Value.str (Str.ofString "__init__") 321, val := Value.ref 98 }, { hash := PyData.keyHash P (Str.ofString "count"), key := Value.str (Str.ofString "count") 331, val := Value.ref 106 }, { hash := PyData.keyHash P (Str.ofString "value"), key := Value.str (Str.ofString "value") 339, val := Value.ref 113 }, { hash := PyData.keyHash P (Str.ofString "clear"), key := Value.str (Str.ofString "clear") 346, val := Value.ref 120 }, { hash := PyData.keyHash P (Str.ofString "__static_attributes__"), key := Value.str (Str.ofString "__static_attributes__") 349, val := Value.ref 121 }, { hash := PyData.keyHash P (Str.ofString "__dict__"), key := Value.str (Str.ofString "__dict__") 351, val := Value.ref 124 }, { hash := PyData.keyHash P (Str.ofString "__weakref__"), key := Value.str (Str.ofString "__weakref__") 353, val := Value.ref 125 }, { hash := PyData.keyHash P (Str.ofString "__doc__"), key := Value.str (Str.ofString "__doc__") 354, val := Value.none }] 4 }
noncomputable def hd.o_165 (P : Params) : Obj := { cls := Value.type "type", data := Data.cls { name := Str.ofString "PortCounters", bases := [Value.type "object"], mro := [Value.ref 123, Value.type "object"], ns := 122, qualname := Str.ofString "PortCounters" }, slots := #[none, none, some (Value.str (Str.ofString "PortCounters") 302), some (Value.str (Str.ofString "PortCounters") 310), some (Value.builtin "object.__new__"), some (Value.bool true)] }
noncomputable def hd.o_166 (P : Params) : Obj := { cls := Value.type "getset_descriptor", data := Data.fields #[Value.str (Str.ofString "__dict__") 350, Value.ref 123, Value.builtin "function.__dict__", Value.builtin "function.__dict__#set"] }
noncomputable def hd.o_167 (P : Params) : Obj := { cls := Value.type "getset_descriptor", data := Data.fields #[Value.str (Str.ofString "__weakref__") 352, Value.ref 123, Value.builtin "ExceptionGroup.__weakref__", Value.none] }
noncomputable def hd.o_168 (P : Params) : Obj := { cls := Value.type "super", data := Data.fields #[Value.ref 123, Value.ref 123, Value.ref 123] }
noncomputable def hd.o_169 (P : Params) : Obj := { cls := Value.type "builtin_function_or_method", data := Data.fields #[Value.builtin "object.__init_subclass__", Value.ref 123] }
noncomputable def hd.o_170 (P : Params) : Obj := { cls := Value.type "dict", data := Data.dict #[{ hash := PyData.keyHash P (Str.ofString "__name__"), key := Value.str (Str.ofString "__name__") 165, val := Value.str (Str.ofString "switchloom.counters") 256 }, { hash := PyData.keyHash P (Str.ofString "__doc__"), key := Value.str (Str.ofString "__doc__") 166, val := Value.none }, { hash := PyData.keyHash P (Str.ofString "__package__"), key := Value.str (Str.ofString "__package__") 167, val := Value.none }, { hash := PyData.keyHash P (Str.ofString "__loader__"), key := Value.str (Str.ofString "__loader__") 168, val := Value.builtin "__main__.__loader__#opaque" }, { hash := PyData.keyHash P (Str.ofString "__spec__"), key := Value.str (Str.ofString "__spec__") 169, val := Value.none }, { hash := PyData.keyHash P (Str.ofString "__annotations__"), key := Value.str (Str.ofString "__annotations__") 170, val := Value.ref 6 }, { hash := PyData.keyHash P (Str.ofString "__builtins__"), key := Value.str (Str.ofString "__builtins__") 171, val := Value.ref 4 }, { hash := PyData.keyHash P (Str.ofString "__file__"), key := Value.str (Str.ofString "__file__") 173, val := Value.str (Str.ofString "/claim/cut.py") 172 }, { hash := PyData.keyHash P (Str.ofString "__cached__"), key := Value.str (Str.ofString "__cached__") 174, val := Value.none }, { hash := PyData.keyHash P (Str.ofString "SwitchError"), key := Value.str (Str.ofString "SwitchError") 217, val := Value.ref 31 }, { hash := PyData.keyHash P (Str.ofString "TableError"), key := Value.str (Str.ofString "TableError") 233, val := Value.ref 44 }, { hash := PyData.keyHash P (Str.ofString "EVERYBODY"), key := Value.str (Str.ofString "EVERYBODY") 241, val := Value.int 281474976710655 240 }, { hash := PyData.keyHash P (Str.ofString "is_group"), key := Value.str (Str.ofString "is_group") 248, val := Value.ref 53 }, { hash := PyData.keyHash P (Str.ofString "is_broadcast"), key := Value.str (Str.ofString "is_broadcast") 255, val := Value.ref 60 }, { hash := PyData.keyHash P (Str.ofString "SIZE_ENDS"), key := Value.str (Str.ofString "SIZE_ENDS") 264, val := Value.ref 61 }, { hash := PyData.keyHash P (Str.ofString "SIZE_NAMES"), key := Value.str (Str.ofString "SIZE_NAMES") 272, val := Value.ref 62 }, { hash := PyData.keyHash P (Str.ofString "SORTS"), key := Value.str (Str.ofString "SORTS") 276, val := Value.ref 63 }, { hash := PyData.keyHash P (Str.ofString "sort_of_target"), key := Value.str (Str.ofString "sort_of_target") 283, val := Value.ref 70 }, { hash := PyData.keyHash P (Str.ofString "class_of_size"), key := Value.str (Str.ofString "class_of_size") 292, val := Value.ref 77 }, { hash := PyData.keyHash P (Str.ofString "counted_between"), key := Value.str (Str.ofString "counted_between") 301, val := Value.ref 84 }, { hash := PyData.keyHash P (Str.ofString "PortCounters"), key := Value.str (Str.ofString "PortCounters") 356, val := Value.ref 123 }, { hash := PyData.keyHash P (Str.ofString "Counters"), key := Value.str (Str.ofString "Counters") 461, val := Value.ref 202 }] 22 }
noncomputable def hd.o_171 (P : Params) : Obj := { cls := Value.none, data := Data.fields #[Value.int 2 0, Value.int 0 0, Value.ref 20, Value.int 7 0, Value.int 0 0, Value.ref 40, Value.int 11 0, Value.int 0 0, Value.ref 52, Value.int 13 0, Value.int 0 0, Value.ref 59, Value.int 19 0, Value.int 0 0, Value.ref 69, Value.int 23 0, Value.int 0 0, Value.ref 76, Value.int 28 0, Value.int 0 0, Value.ref 83, Value.int 30 0, Value.int 0 0, Value.ref 90, Value.int 44 0, Value.int 0 0, Value.ref 133] }
noncomputable def hd.o_172 (P : Params) : Obj := { cls := Value.type "tuple", data := Data.seq #[] }
noncomputable def hd.o_173 (P : Params) : Obj := { cls := Value.type "builtin_function_or_method", data := Data.fields #[Value.builtin "type.__prepare__", Value.type "type"] }
noncomputable def hd.o_174 (P : Params) : Obj := { cls := Value.type "dict", data := Data.dict #[{ hash := PyData.keyHash P (Str.ofString "__module__"), key := Value.str (Str.ofString "__module__") 364, val := Value.str (Str.ofString "switchloom.counters") 256 }, { hash := PyData.keyHash P (Str.ofString "__qualname__"), key := Value.str (Str.ofString "__qualname__") 366, val := Value.str (Str.ofString "Counters") 365 }, { hash := PyData.keyHash P (Str.ofString "__firstlineno__"), key := Value.str (Str.ofString "__firstlineno__") 368, val := Value.int 44 367 }, { hash := PyData.keyHash P (Str.ofString "__init__"), key := Value.str (Str.ofString "__init__") 377, val := Value.ref 142 }, { hash := PyData.keyHash P (Str.ofString "add_port"), key := Value.str (Str.ofString "add_port") 385, val := Value.ref 149 }, { hash := PyData.keyHash P (Str.ofString "row"), key := Value.str (Str.ofString "row") 393, val := Value.ref 156 }, { hash := PyData.keyHash P (Str.ofString "passed"), key := Value.str (Str.ofString "passed") 405, val := Value.ref 163 }, { hash := PyData.keyHash P (Str.ofString "dropped"), key := Value.str (Str.ofString "dropped") 416, val := Value.ref 170 }, { hash := PyData.keyHash P (Str.ofString "value"), key := Value.str (Str.ofString "value") 425, val := Value.ref 177 }, { hash := PyData.keyHash P (Str.ofString "total"), key := Value.str (Str.ofString "total") 431, val := Value.ref 182 }, { hash := PyData.keyHash P (Str.ofString "clear"), key := Value.str (Str.ofString "clear") 439, val := Value.ref 189 }, { hash := PyData.keyHash P (Str.ofString "told_rows"), key := Value.str (Str.ofString "told_rows") 445, val := Value.ref 194 }, { hash := PyData.keyHash P (Str.ofString "adds_up"), key := Value.str (Str.ofString "adds_up") 451, val := Value.ref 199 }, { hash := PyData.keyHash P (Str.ofString "__static_attributes__"), key := Value.str (Str.ofString "__static_attributes__") 454, val := Value.ref 200 }] 14 }
noncomputable def hd.o_175 (P : Params) : Obj := { cls := Value.type "tuple", data := Data.seq #[] }
noncomputable def hd.o_176 (P : Params) : Obj := { cls := Value.none, data := Data.fields #[Value.int 46 0, Value.int 4 0, Value.ref 141, Value.int 50 0, Value.int 4 0, Value.ref 148, Value.int 55 0, Value.int 4 0, Value.ref 155, Value.int 60 0, Value.int 4 0, Value.ref 162, Value.int 67 0, Value.int 4 0, Value.ref 169, Value.int 72 0, Value.int 4 0, Value.ref 176, Value.int 75 0, Value.int 4 0, Value.ref 181, Value.int 78 0, Value.int 4 0, Value.ref 188, Value.int 81 0, Value.int 4 0, Value.ref 193, Value.int 85 0, Value.int 4 0, Value.ref 198] }
noncomputable def hd.o_177 (P : Params) : Obj := { cls := Value.type "code", data := Data.fields #[Value.str (Str.ofString "Counters") 359, Value.str (Str.ofString "Counters") 360, Value.str (Str.ofString "/claim/cut.py") 361, Value.int 44 0, Value.int 0 0, Value.int 0 0, Value.int 0 0, Value.int 0 0, Value.ref 131, Value.bool false, Value.int 181 0, Value.ref 132, Value.none, Value.none, Value.none, Value.none, Value.int 362 0, Value.int 44 0, Value.str (Str.ofString "/claim/cut.py") 363] }
noncomputable def hd.o_178 (P : Params) : Obj := { cls := Value.type "frame", slots := #[some (Value.ref 133), some (Value.ref 3), some (Value.ref 130), none, some (Value.str (Str.ofString "switchloom.counters") 256), none, some (Value.ref 0)] }
noncomputable def hd.o_179 (P : Params) : Obj := { cls := Value.type "tuple", data := Data.seq #[Value.int 32 369] }
noncomputable def hd.o_180 (P : Params) : Obj := { cls := Value.type "tuple", data := Data.seq #[] }
noncomputable def hd.o_181 (P : Params) : Obj := { cls := Value.none, data := Data.fields #[] }
noncomputable def hd.o_182 (P : Params) : Obj := { cls := Value.type "tuple", data := Data.seq #[Value.str (Str.ofString "self") 373, Value.str (Str.ofString "bits") 374] }
noncomputable def hd.o_183 (P : Params) : Obj := { cls := Value.type "tuple", data := Data.seq #[] }
noncomputable def hd.o_184 (P : Params) : Obj := withBits (fnBits (nthS (clsBody (nthS topS 15)) 0)) _ _ _ rfl fun p b s => { cls := Value.none, data := Data.func { name := Str.ofString "__init__", qualname := Str.ofString "Counters.__init__", params := p, body := FuncBody.stmts b, scope := s, globals := 0, closure := [], defaults := Value.none, kwdefaults := Value.none } }
noncomputable def hd.o_185 (P : Params) : Obj := { cls := Value.type "code", data := Data.fields #[Value.str (Str.ofString "__init__") 370, Value.str (Str.ofString "Counters.__init__") 371, Value.str (Str.ofString "/claim/cut.py") 372, Value.int 46 0, Value.int 2 0, Value.int 0 0, Value.int 0 0, Value.int 3 0, Value.ref 136, Value.bool true, Value.int 181 0, Value.ref 137, Value.none, Value.ref 138, Value.ref 139, Value.ref 140, Value.int 375 0, Value.int 46 0, Value.str (Str.ofString "/claim/cut.py") 376] }
noncomputable def hd.o_186 (P : Params) : Obj := withBits (fnBits (nthS (clsBody (nthS topS 15)) 0)) _ _ _ rfl fun p b s => { cls := Value.type "function", data := Data.func { name := Str.ofString "__init__", qualname := Str.ofString "Counters.__init__", params := p, body := FuncBody.stmts b, scope := s, globals := 3, closure := [], defaults := Value.ref 135, kwdefaults := Value.none, pyModule := Value.str (Str.ofString "switchloom.counters") 256, code := Value.ref 141 } }
noncomputable def hd.o_187 (P : Params) : Obj := { cls := Value.type "tuple", data := Data.seq #[] }
noncomputable def hd.o_188 (P : Params) : Obj := { cls := Value.none, data := Data.fields #[] }
noncomputable def hd.o_189 (P : Params) : Obj := { cls := Value.type "tuple", data := Data.seq #[Value.str (Str.ofString "self") 381, Value.str (Str.ofString "port") 382] }
noncomputable def hd.o_190 (P : Params) : Obj := { cls := Value.type "tuple", data := Data.seq #[] }
noncomputable def hd.o_191 (P : Params) : Obj := withBits (fnBits (nthS (clsBody (nthS topS 15)) 1)) _ _ _ rfl fun p b s => { cls := Value.none, data := Data.func { name := Str.ofString "add_port", qualname := Str.ofString "Counters.add_port", params := p, body := FuncBody.stmts b, scope := s, globals := 0, closure := [], defaults := Value.none, kwdefaults := Value.none } }
noncomputable def hd.o_192 (P : Params) : Obj := { cls := Value.type "code", data := Data.fields #[Value.str (Str.ofString "add_port") 378, Value.str (Str.ofString "Counters.add_port") 379, Value.str (Str.ofString "/claim/cut.py") 380, Value.int 50 0, Value.int 2 0, Value.int 0 0, Value.int 0 0, Value.int 3 0, Value.ref 143, Value.bool true, Value.int 181 0, Value.ref 144, Value.none, Value.ref 145, Value.ref 146, Value.ref 147, Value.int 383 0, Value.int 50 0, Value.str (Str.ofString "/claim/cut.py") 384] }
noncomputable def hd.o_193 (P : Params) : Obj := withBits (fnBits (nthS (clsBody (nthS topS 15)) 1)) _ _ _ rfl fun p b s => { cls := Value.type "function", data := Data.func { name := Str.ofString "add_port", qualname := Str.ofString "Counters.add_port", params := p, body := FuncBody.stmts b, scope := s, globals := 3, closure := [], defaults := Value.none, kwdefaults := Value.none, pyModule := Value.str (Str.ofString "switchloom.counters") 256, code := Value.ref 148 } }
noncomputable def hd.o_194 (P : Params) : Obj := { cls := Value.type "tuple", data := Data.seq #[] }
noncomputable def hd.o_195 (P : Params) : Obj := { cls := Value.none, data := Data.fields #[] }
noncomputable def hd.o_196 (P : Params) : Obj := { cls := Value.type "tuple", data := Data.seq #[Value.str (Str.ofString "self") 389, Value.str (Str.ofString "port") 390] }
noncomputable def hd.o_197 (P : Params) : Obj := { cls := Value.type "tuple", data := Data.seq #[] }
noncomputable def hd.o_198 (P : Params) : Obj := withBits (fnBits (nthS (clsBody (nthS topS 15)) 2)) _ _ _ rfl fun p b s => { cls := Value.none, data := Data.func { name := Str.ofString "row", qualname := Str.ofString "Counters.row", params := p, body := FuncBody.stmts b, scope := s, globals := 0, closure := [], defaults := Value.none, kwdefaults := Value.none } }
noncomputable def hd.o_199 (P : Params) : Obj := { cls := Value.type "code", data := Data.fields #[Value.str (Str.ofString "row") 386, Value.str (Str.ofString "Counters.row") 387, Value.str (Str.ofString "/claim/cut.py") 388, Value.int 55 0, Value.int 2 0, Value.int 0 0, Value.int 0 0, Value.int 3 0, Value.ref 150, Value.bool true, Value.int 181 0, Value.ref 151, Value.none, Value.ref 152, Value.ref 153, Value.ref 154, Value.int 391 0, Value.int 55 0, Value.str (Str.ofString "/claim/cut.py") 392] }
noncomputable def hd.o_200 (P : Params) : Obj := withBits (fnBits (nthS (clsBody (nthS topS 15)) 2)) _ _ _ rfl fun p b s => { cls := Value.type "function", data := Data.func { name := Str.ofString "row", qualname := Str.ofString "Counters.row", params := p, body := FuncBody.stmts b, scope := s, globals := 3, closure := [], defaults := Value.none, kwdefaults := Value.none, pyModule := Value.str (Str.ofString "switchloom.counters") 256, code := Value.ref 155 } }
noncomputable def hd.o_201 (P : Params) : Obj := { cls := Value.type "tuple", data := Data.seq #[] }
noncomputable def hd.o_202 (P : Params) : Obj := { cls := Value.none, data := Data.fields #[] }
noncomputable def hd.o_203 (P : Params) : Obj := { cls := Value.type "tuple", data := Data.seq #[Value.str (Str.ofString "self") 397, Value.str (Str.ofString "port") 398, Value.str (Str.ofString "way") 399, Value.str (Str.ofString "target") 400, Value.str (Str.ofString "size") 401, Value.str (Str.ofString "row") 402] }
noncomputable def hd.o_204 (P : Params) : Obj := { cls := Value.type "tuple", data := Data.seq #[] }
noncomputable def hd.o_205 (P : Params) : Obj := withBits (fnBits (nthS (clsBody (nthS topS 15)) 3)) _ _ _ rfl fun p b s => { cls := Value.none, data := Data.func { name := Str.ofString "passed", qualname := Str.ofString "Counters.passed", params := p, body := FuncBody.stmts b, scope := s, globals := 0, closure := [], defaults := Value.none, kwdefaults := Value.none } }
noncomputable def hd.o_206 (P : Params) : Obj := { cls := Value.type "code", data := Data.fields #[Value.str (Str.ofString "passed") 394, Value.str (Str.ofString "Counters.passed") 395, Value.str (Str.ofString "/claim/cut.py") 396, Value.int 60 0, Value.int 5 0, Value.int 0 0, Value.int 0 0, Value.int 3 0, Value.ref 157, Value.bool true, Value.int 181 0, Value.ref 158, Value.none, Value.ref 159, Value.ref 160, Value.ref 161, Value.int 403 0, Value.int 60 0, Value.str (Str.ofString "/claim/cut.py") 404] }
noncomputable def hd.o_207 (P : Params) : Obj := withBits (fnBits (nthS (clsBody (nthS topS 15)) 3)) _ _ _ rfl fun p b s => { cls := Value.type "function", data := Data.func { name := Str.ofString "passed", qualname := Str.ofString "Counters.passed", params := p, body := FuncBody.stmts b, scope := s, globals := 3, closure := [], defaults := Value.none, kwdefaults := Value.none, pyModule := Value.str (Str.ofString "switchloom.counters") 256, code := Value.ref 162 } }
noncomputable def hd.o_208 (P : Params) : Obj := { cls := Value.type "tuple", data := Data.seq #[] }
noncomputable def hd.o_209 (P : Params) : Obj := { cls := Value.none, data := Data.fields #[] }
noncomputable def hd.o_210 (P : Params) : Obj := { cls := Value.type "tuple", data := Data.seq #[Value.str (Str.ofString "self") 409, Value.str (Str.ofString "port") 410, Value.str (Str.ofString "way") 411, Value.str (Str.ofString "why") 412, Value.str (Str.ofString "row") 413] }
noncomputable def hd.o_211 (P : Params) : Obj := { cls := Value.type "tuple", data := Data.seq #[] }
noncomputable def hd.o_212 (P : Params) : Obj := withBits (fnBits (nthS (clsBody (nthS topS 15)) 4)) _ _ _ rfl fun p b s => { cls := Value.none, data := Data.func { name := Str.ofString "dropped", qualname := Str.ofString "Counters.dropped", params := p, body := FuncBody.stmts b, scope := s, globals := 0, closure := [], defaults := Value.none, kwdefaults := Value.none } }
noncomputable def hd.o_213 (P : Params) : Obj := { cls := Value.type "code", data := Data.fields #[Value.str (Str.ofString "dropped") 406, Value.str (Str.ofString "Counters.dropped") 407, Value.str (Str.ofString "/claim/cut.py") 408, Value.int 67 0, Value.int 4 0, Value.int 0 0, Value.int 0 0, Value.int 3 0, Value.ref 164, Value.bool true, Value.int 181 0, Value.ref 165, Value.none, Value.ref 166, Value.ref 167, Value.ref 168, Value.int 414 0, Value.int 67 0, Value.str (Str.ofString "/claim/cut.py") 415] }
noncomputable def hd.o_214 (P : Params) : Obj := withBits (fnBits (nthS (clsBody (nthS topS 15)) 4)) _ _ _ rfl fun p b s => { cls := Value.type "function", data := Data.func { name := Str.ofString "dropped", qualname := Str.ofString "Counters.dropped", params := p, body := FuncBody.stmts b, scope := s, globals := 3, closure := [], defaults := Value.none, kwdefaults := Value.none, pyModule := Value.str (Str.ofString "switchloom.counters") 256, code := Value.ref 169 } }
noncomputable def hd.o_215 (P : Params) : Obj := { cls := Value.type "tuple", data := Data.seq #[] }
noncomputable def hd.o_216 (P : Params) : Obj := { cls := Value.none, data := Data.fields #[] }
noncomputable def hd.o_217 (P : Params) : Obj := { cls := Value.type "tuple", data := Data.seq #[Value.str (Str.ofString "self") 420, Value.str (Str.ofString "port") 421, Value.str (Str.ofString "name") 422] }
noncomputable def hd.o_218 (P : Params) : Obj := { cls := Value.type "tuple", data := Data.seq #[] }
noncomputable def hd.o_219 (P : Params) : Obj := withBits (fnBits (nthS (clsBody (nthS topS 15)) 5)) _ _ _ rfl fun p b s => { cls := Value.none, data := Data.func { name := Str.ofString "value", qualname := Str.ofString "Counters.value", params := p, body := FuncBody.stmts b, scope := s, globals := 0, closure := [], defaults := Value.none, kwdefaults := Value.none } }
noncomputable def hd.o_220 (P : Params) : Obj := { cls := Value.type "code", data := Data.fields #[Value.str (Str.ofString "value") 417, Value.str (Str.ofString "Counters.value") 418, Value.str (Str.ofString "/claim/cut.py") 419, Value.int 72 0, Value.int 3 0, Value.int 0 0, Value.int 0 0, Value.int 3 0, Value.ref 171, Value.bool true, Value.int 181 0, Value.ref 172, Value.none, Value.ref 173, Value.ref 174, Value.ref 175, Value.int 423 0, Value.int 72 0, Value.str (Str.ofString "/claim/cut.py") 424] }
noncomputable def hd.o_221 (P : Params) : Obj := withBits (fnBits (nthS (clsBody (nthS topS 15)) 5)) _ _ _ rfl fun p b s => { cls := Value.type "function", data := Data.func { name := Str.ofString "value", qualname := Str.ofString "Counters.value", params := p, body := FuncBody.stmts b, scope := s, globals := 3, closure := [], defaults := Value.none, kwdefaults := Value.none, pyModule := Value.str (Str.ofString "switchloom.counters") 256, code := Value.ref 176 } }
noncomputable def hd.o_222 (P : Params) : Obj := { cls := Value.type "tuple", data := Data.seq #[] }
noncomputable def hd.o_223 (P : Params) : Obj := { cls := Value.none, data := Data.fields #[] }
noncomputable def hd.o_224 (P : Params) : Obj := withBits (fnBits (nthS (clsBody (nthS topS 15)) 6)) _ _ _ rfl fun p b s => { cls := Value.none, data := Data.func { name := Str.ofString "total", qualname := Str.ofString "Counters.total", params := p, body := FuncBody.stmts b, scope := s, globals := 0, closure := [], defaults := Value.none, kwdefaults := Value.none } }
noncomputable def hd.o_225 (P : Params) : Obj := { cls := Value.type "code", data := Data.fields #[Value.str (Str.ofString "total") 426, Value.str (Str.ofString "Counters.total") 427, Value.str (Str.ofString "/claim/cut.py") 428, Value.int 75 0, Value.int 2 0, Value.int 0 0, Value.int 0 0, Value.int 3 0, Value.ref 178, Value.bool true, Value.int 181 0, Value.ref 179, Value.none, Value.none, Value.none, Value.ref 180, Value.int 429 0, Value.int 75 0, Value.str (Str.ofString "/claim/cut.py") 430] }
noncomputable def hd.o_226 (P : Params) : Obj := withBits (fnBits (nthS (clsBody (nthS topS 15)) 6)) _ _ _ rfl fun p b s => { cls := Value.type "function", data := Data.func { name := Str.ofString "total", qualname := Str.ofString "Counters.total", params := p, body := FuncBody.stmts b, scope := s, globals := 3, closure := [], defaults := Value.none, kwdefaults := Value.none, pyModule := Value.str (Str.ofString "switchloom.counters") 256, code := Value.ref 181 } }
noncomputable def hd.o_227 (P : Params) : Obj := { cls := Value.type "tuple", data := Data.seq #[] }
noncomputable def hd.o_228 (P : Params) : Obj := { cls := Value.none, data := Data.fields #[] }
noncomputable def hd.o_229 (P : Params) : Obj := { cls := Value.type "tuple", data := Data.seq #[Value.str (Str.ofString "self") 435, Value.str (Str.ofString "port") 436] }
noncomputable def hd.o_230 (P : Params) : Obj := { cls := Value.type "tuple", data := Data.seq #[] }
noncomputable def hd.o_231 (P : Params) : Obj := withBits (fnBits (nthS (clsBody (nthS topS 15)) 7)) _ _ _ rfl fun p b s => { cls := Value.none, data := Data.func { name := Str.ofString "clear", qualname := Str.ofString "Counters.clear", params := p, body := FuncBody.stmts b, scope := s, globals := 0, closure := [], defaults := Value.none, kwdefaults := Value.none } }
noncomputable def hd.o_232 (P : Params) : Obj := { cls := Value.type "code", data := Data.fields #[Value.str (Str.ofString "clear") 432, Value.str (Str.ofString "Counters.clear") 433, Value.str (Str.ofString "/claim/cut.py") 434, Value.int 78 0, Value.int 2 0, Value.int 0 0, Value.int 0 0, Value.int 3 0, Value.ref 183, Value.bool true, Value.int 181 0, Value.ref 184, Value.none, Value.ref 185, Value.ref 186, Value.ref 187, Value.int 437 0, Value.int 78 0, Value.str (Str.ofString "/claim/cut.py") 438] }
noncomputable def hd.o_233 (P : Params) : Obj := withBits (fnBits (nthS (clsBody (nthS topS 15)) 7)) _ _ _ rfl fun p b s => { cls := Value.type "function", data := Data.func { name := Str.ofString "clear", qualname := Str.ofString "Counters.clear", params := p, body := FuncBody.stmts b, scope := s, globals := 3, closure := [], defaults := Value.none, kwdefaults := Value.none, pyModule := Value.str (Str.ofString "switchloom.counters") 256, code := Value.ref 188 } }
noncomputable def hd.o_234 (P : Params) : Obj := { cls := Value.type "tuple", data := Data.seq #[] }
noncomputable def hd.o_235 (P : Params) : Obj := { cls := Value.none, data := Data.fields #[] }
noncomputable def hd.o_236 (P : Params) : Obj := withBits (fnBits (nthS (clsBody (nthS topS 15)) 8)) _ _ _ rfl fun p b s => { cls := Value.none, data := Data.func { name := Str.ofString "told_rows", qualname := Str.ofString "Counters.told_rows", params := p, body := FuncBody.stmts b, scope := s, globals := 0, closure := [], defaults := Value.none, kwdefaults := Value.none } }
noncomputable def hd.o_237 (P : Params) : Obj := { cls := Value.type "code", data := Data.fields #[Value.str (Str.ofString "told_rows") 440, Value.str (Str.ofString "Counters.told_rows") 441, Value.str (Str.ofString "/claim/cut.py") 442, Value.int 81 0, Value.int 2 0, Value.int 0 0, Value.int 0 0, Value.int 3 0, Value.ref 190, Value.bool true, Value.int 181 0, Value.ref 191, Value.none, Value.none, Value.none, Value.ref 192, Value.int 443 0, Value.int 81 0, Value.str (Str.ofString "/claim/cut.py") 444] }
noncomputable def hd.o_238 (P : Params) : Obj := withBits (fnBits (nthS (clsBody (nthS topS 15)) 8)) _ _ _ rfl fun p b s => { cls := Value.type "function", data := Data.func { name := Str.ofString "told_rows", qualname := Str.ofString "Counters.told_rows", params := p, body := FuncBody.stmts b, scope := s, globals := 3, closure := [], defaults := Value.none, kwdefaults := Value.none, pyModule := Value.str (Str.ofString "switchloom.counters") 256, code := Value.ref 193 } }
noncomputable def hd.o_239 (P : Params) : Obj := { cls := Value.type "tuple", data := Data.seq #[] }
noncomputable def hd.o_240 (P : Params) : Obj := { cls := Value.none, data := Data.fields #[] }
noncomputable def hd.o_241 (P : Params) : Obj := withBits (fnBits (nthS (clsBody (nthS topS 15)) 9)) _ _ _ rfl fun p b s => { cls := Value.none, data := Data.func { name := Str.ofString "adds_up", qualname := Str.ofString "Counters.adds_up", params := p, body := FuncBody.stmts b, scope := s, globals := 0, closure := [], defaults := Value.none, kwdefaults := Value.none } }
noncomputable def hd.o_242 (P : Params) : Obj := { cls := Value.type "code", data := Data.fields #[Value.str (Str.ofString "adds_up") 446, Value.str (Str.ofString "Counters.adds_up") 447, Value.str (Str.ofString "/claim/cut.py") 448, Value.int 85 0, Value.int 3 0, Value.int 0 0, Value.int 0 0, Value.int 3 0, Value.ref 195, Value.bool true, Value.int 181 0, Value.ref 196, Value.none, Value.none, Value.none, Value.ref 197, Value.int 449 0, Value.int 85 0, Value.str (Str.ofString "/claim/cut.py") 450] }
noncomputable def hd.o_243 (P : Params) : Obj := withBits (fnBits (nthS (clsBody (nthS topS 15)) 9)) _ _ _ rfl fun p b s => { cls := Value.type "function", data := Data.func { name := Str.ofString "adds_up", qualname := Str.ofString "Counters.adds_up", params := p, body := FuncBody.stmts b, scope := s, globals := 3, closure := [], defaults := Value.none, kwdefaults := Value.none, pyModule := Value.str (Str.ofString "switchloom.counters") 256, code := Value.ref 198 } }
noncomputable def hd.o_244 (P : Params) : Obj := { cls := Value.type "tuple", data := Data.seq #[Value.str (Str.ofString "bits") 452, Value.str (Str.ofString "ports") 453] }
noncomputable def hd.o_245 (P : Params) : Obj := { cls := Value.type "dict", data := Data.dict #[{ hash := PyData.keyHash P (Str.ofString "__module__"), key := Value.str (Str.ofString "__module__") 364, val := Value.str (Str.ofString "switchloom.counters") 256 }, { hash := PyData.keyHash P (Str.ofString "__firstlineno__"), key := Value.str (Str.ofString "__firstlineno__") 368, val := Value.int 44 367 }, { hash := PyData.keyHash P (Str.ofString "__init__"), key := Value.str (Str.ofString "__init__") 377, val := Value.ref 142 }, { hash := PyData.keyHash P (Str.ofString "add_port"), key := Value.str (Str.ofString "add_port") 385, val := Value.ref 149 }, { hash := PyData.keyHash P (Str.ofString "row"), key := Value.str (Str.ofString "row") 393, val := Value.ref 156 }, { hash := PyData.keyHash P (Str.ofString "passed"), key := Value.str (Str.ofString "passed") 405, val := Value.ref 163 }, { hash := PyData.keyHash P (Str.ofString "dropped"), key := Value.str (Str.ofString "dropped") 416, val := Value.ref 170 }, { hash := PyData.keyHash P (Str.ofString "value"), key := Value.str (Str.ofString "value") 425, val := Value.ref 177 }, { hash := PyData.keyHash P (Str.ofString "total"), key := Value.str (Str.ofString "total") 431, val := Value.ref 182 }, { hash := PyData.keyHash P (Str.ofString "clear"), key := Value.str (Str.ofString "clear") 439, val := Value.ref 189 }, { hash := PyData.keyHash P (Str.ofString "told_rows"), key := Value.str (Str.ofString "told_rows") 445, val := Value.ref 194 }, { hash := PyData.keyHash P (Str.ofString "adds_up"), key := Value.str (Str.ofString "adds_up") 451, val := Value.ref 199 }, { hash := PyData.keyHash P (Str.ofString "__static_attributes__"), key := Value.str (Str.ofString "__static_attributes__") 454, val := Value.ref 200 }, { hash := PyData.keyHash P (Str.ofString "__dict__"), key := Value.str (Str.ofString "__dict__") 456, val := Value.ref 203 }, { hash := PyData.keyHash P (Str.ofString "__weakref__"), key := Value.str (Str.ofString "__weakref__") 458, val := Value.ref 204 }, { hash := PyData.keyHash P (Str.ofString "__doc__"), key := Value.str (Str.ofString "__doc__") 459, val := Value.none }] 4 }
noncomputable def hd.o_246 (P : Params) : Obj := { cls := Value.type "type", data := Data.cls { name := Str.ofString "Counters", bases := [Value.type "object"], mro := [Value.ref 202, Value.type "object"], ns := 201, qualname := Str.ofString "Counters" }, slots := #[none, none, some (Value.str (Str.ofString "Counters") 357), some (Value.str (Str.ofString "Counters") 365), some (Value.builtin "object.__new__"), some (Value.bool true)] }
noncomputable def hd.o_247 (P : Params) : Obj := { cls := Value.type "getset_descriptor", data := Data.fields #[Value.str (Str.ofString "__dict__") 455, Value.ref 202, Value.builtin "function.__dict__", Value.builtin "function.__dict__#set"] }
noncomputable def hd.o_248 (P : Params) : Obj := { cls := Value.type "getset_descriptor", data := Data.fields #[Value.str (Str.ofString "__weakref__") 457, Value.ref 202, Value.builtin "ExceptionGroup.__weakref__", Value.none] }
noncomputable def hd.o_249 (P : Params) : Obj := { cls := Value.type "super", data := Data.fields #[Value.ref 202, Value.ref 202, Value.ref 202] }
noncomputable def hd.o_250 (P : Params) : Obj := { cls := Value.type "builtin_function_or_method", data := Data.fields #[Value.builtin "object.__init_subclass__", Value.ref 202] }
noncomputable def hd.o_251 (P : Params) : Obj := { cls := Value.type "dict", data := Data.dict #[{ hash := PyData.keyHash P (Str.ofString "__name__"), key := Value.str (Str.ofString "__name__") 165, val := Value.str (Str.ofString "law_pc0362_01") 462 }, { hash := PyData.keyHash P (Str.ofString "__doc__"), key := Value.str (Str.ofString "__doc__") 166, val := Value.none }, { hash := PyData.keyHash P (Str.ofString "__package__"), key := Value.str (Str.ofString "__package__") 167, val := Value.none }, { hash := PyData.keyHash P (Str.ofString "__loader__"), key := Value.str (Str.ofString "__loader__") 168, val := Value.builtin "__main__.__loader__#opaque" }, { hash := PyData.keyHash P (Str.ofString "__spec__"), key := Value.str (Str.ofString "__spec__") 169, val := Value.none }, { hash := PyData.keyHash P (Str.ofString "__annotations__"), key := Value.str (Str.ofString "__annotations__") 170, val := Value.ref 6 }, { hash := PyData.keyHash P (Str.ofString "__builtins__"), key := Value.str (Str.ofString "__builtins__") 171, val := Value.ref 4 }, { hash := PyData.keyHash P (Str.ofString "__file__"), key := Value.str (Str.ofString "__file__") 173, val := Value.str (Str.ofString "/claim/cut.py") 172 }, { hash := PyData.keyHash P (Str.ofString "__cached__"), key := Value.str (Str.ofString "__cached__") 174, val := Value.none }, { hash := PyData.keyHash P (Str.ofString "SwitchError"), key := Value.str (Str.ofString "SwitchError") 217, val := Value.ref 31 }, { hash := PyData.keyHash P (Str.ofString "TableError"), key := Value.str (Str.ofString "TableError") 233, val := Value.ref 44 }, { hash := PyData.keyHash P (Str.ofString "EVERYBODY"), key := Value.str (Str.ofString "EVERYBODY") 241, val := Value.int 281474976710655 240 }, { hash := PyData.keyHash P (Str.ofString "is_group"), key := Value.str (Str.ofString "is_group") 248, val := Value.ref 53 }, { hash := PyData.keyHash P (Str.ofString "is_broadcast"), key := Value.str (Str.ofString "is_broadcast") 255, val := Value.ref 60 }, { hash := PyData.keyHash P (Str.ofString "SIZE_ENDS"), key := Value.str (Str.ofString "SIZE_ENDS") 264, val := Value.ref 61 }, { hash := PyData.keyHash P (Str.ofString "SIZE_NAMES"), key := Value.str (Str.ofString "SIZE_NAMES") 272, val := Value.ref 62 }, { hash := PyData.keyHash P (Str.ofString "SORTS"), key := Value.str (Str.ofString "SORTS") 276, val := Value.ref 63 }, { hash := PyData.keyHash P (Str.ofString "sort_of_target"), key := Value.str (Str.ofString "sort_of_target") 283, val := Value.ref 70 }, { hash := PyData.keyHash P (Str.ofString "class_of_size"), key := Value.str (Str.ofString "class_of_size") 292, val := Value.ref 77 }, { hash := PyData.keyHash P (Str.ofString "counted_between"), key := Value.str (Str.ofString "counted_between") 301, val := Value.ref 84 }, { hash := PyData.keyHash P (Str.ofString "PortCounters"), key := Value.str (Str.ofString "PortCounters") 356, val := Value.ref 123 }, { hash := PyData.keyHash P (Str.ofString "Counters"), key := Value.str (Str.ofString "Counters") 461, val := Value.ref 202 }, { hash := PyData.keyHash P (Str.ofString "_law_pool"), key := Value.str (Str.ofString "_law_pool") 474, val := Value.ref 213 }, { hash := PyData.keyHash P (Str.ofString "_law_take"), key := Value.str (Str.ofString "_law_take") 483, val := Value.ref 220 }, { hash := PyData.keyHash P (Str.ofString "_law_one"), key := Value.str (Str.ofString "_law_one") 491, val := Value.ref 227 }, { hash := PyData.keyHash P (Str.ofString "_law_sizes"), key := Value.str (Str.ofString "_law_sizes") 497, val := Value.ref 234 }, { hash := PyData.keyHash P (Str.ofString "_law_class"), key := Value.str (Str.ofString "_law_class") 503, val := Value.ref 239 }, { hash := PyData.keyHash P (Str.ofString "_law_sort"), key := Value.str (Str.ofString "_law_sort") 510, val := Value.ref 246 }, { hash := PyData.keyHash P (Str.ofString "_law_names"), key := Value.str (Str.ofString "_law_names") 521, val := Value.ref 253 }, { hash := PyData.keyHash P (Str.ofString "_law_counts"), key := Value.str (Str.ofString "_law_counts") 533, val := Value.ref 260 }, { hash := PyData.keyHash P (Str.ofString "_law_refused"), key := Value.str (Str.ofString "_law_refused") 540, val := Value.ref 267 }, { hash := PyData.keyHash P (Str.ofString "_law_step"), key := Value.str (Str.ofString "_law_step") 556, val := Value.ref 274 }, { hash := PyData.keyHash P (Str.ofString "_law_is_right"), key := Value.str (Str.ofString "_law_is_right") 562, val := Value.ref 279 }, { hash := PyData.keyHash P (Str.ofString "law"), key := Value.str (Str.ofString "law") 568, val := Value.ref 284 }] 34 }
noncomputable def hd.o_252 (P : Params) : Obj := { cls := Value.none, data := Data.fields #[Value.int 2 0, Value.int 0 0, Value.ref 20, Value.int 7 0, Value.int 0 0, Value.ref 40, Value.int 11 0, Value.int 0 0, Value.ref 52, Value.int 13 0, Value.int 0 0, Value.ref 59, Value.int 19 0, Value.int 0 0, Value.ref 69, Value.int 23 0, Value.int 0 0, Value.ref 76, Value.int 28 0, Value.int 0 0, Value.ref 83, Value.int 30 0, Value.int 0 0, Value.ref 90, Value.int 44 0, Value.int 0 0, Value.ref 133, Value.int 92 0, Value.int 0 0, Value.ref 212, Value.int 99 0, Value.int 0 0, Value.ref 219, Value.int 106 0, Value.int 0 0, Value.ref 226, Value.int 108 0, Value.int 0 0, Value.ref 233, Value.int 110 0, Value.int 0 0, Value.ref 238, Value.int 112 0, Value.int 0 0, Value.ref 245, Value.int 116 0, Value.int 0 0, Value.ref 252, Value.int 122 0, Value.int 0 0, Value.ref 259, Value.int 128 0, Value.int 0 0, Value.ref 266, Value.int 134 0, Value.int 0 0, Value.ref 273, Value.int 149 0, Value.int 0 0, Value.ref 278, Value.int 162 0, Value.int 0 0, Value.ref 283] }
noncomputable def hd.o_253 (P : Params) : Obj := { cls := Value.type "tuple", data := Data.seq #[] }
noncomputable def hd.o_254 (P : Params) : Obj := { cls := Value.none, data := Data.fields #[] }
noncomputable def hd.o_255 (P : Params) : Obj := { cls := Value.type "tuple", data := Data.seq #[Value.str (Str.ofString "script") 467, Value.str (Str.ofString "k") 468, Value.str (Str.ofString "cell") 469, Value.str (Str.ofString "big") 470, Value.str (Str.ofString "mixed") 471] }
noncomputable def hd.o_256 (P : Params) : Obj := { cls := Value.type "tuple", data := Data.seq #[] }
noncomputable def hd.o_257 (P : Params) : Obj := withBits (fnBits (nthS topS 17)) _ _ _ rfl fun p b s => { cls := Value.none, data := Data.func { name := Str.ofString "_law_pool", qualname := Str.ofString "_law_pool", params := p, body := FuncBody.stmts b, scope := s, globals := 0, closure := [], defaults := Value.none, kwdefaults := Value.none } }
noncomputable def hd.o_258 (P : Params) : Obj := { cls := Value.type "code", data := Data.fields #[Value.str (Str.ofString "_law_pool") 464, Value.str (Str.ofString "_law_pool") 465, Value.str (Str.ofString "/claim/cut.py") 466, Value.int 92 0, Value.int 2 0, Value.int 0 0, Value.int 0 0, Value.int 3 0, Value.ref 207, Value.bool true, Value.int 181 0, Value.ref 208, Value.none, Value.ref 209, Value.ref 210, Value.ref 211, Value.int 472 0, Value.int 92 0, Value.str (Str.ofString "/claim/cut.py") 473] }
noncomputable def hd.o_259 (P : Params) : Obj := withBits (fnBits (nthS topS 17)) _ _ _ rfl fun p b s => { cls := Value.type "function", data := Data.func { name := Str.ofString "_law_pool", qualname := Str.ofString "_law_pool", params := p, body := FuncBody.stmts b, scope := s, globals := 3, closure := [], defaults := Value.none, kwdefaults := Value.none, pyModule := Value.str (Str.ofString "law_pc0362_01") 462, code := Value.ref 212 } }
noncomputable def hd.o_260 (P : Params) : Obj := { cls := Value.type "tuple", data := Data.seq #[] }
noncomputable def hd.o_261 (P : Params) : Obj := { cls := Value.none, data := Data.fields #[] }
noncomputable def hd.o_262 (P : Params) : Obj := { cls := Value.type "tuple", data := Data.seq #[Value.str (Str.ofString "source") 478, Value.str (Str.ofString "top") 479, Value.str (Str.ofString "drawn") 480] }
noncomputable def hd.o_263 (P : Params) : Obj := { cls := Value.type "tuple", data := Data.seq #[] }
noncomputable def hd.o_264 (P : Params) : Obj := withBits (fnBits (nthS topS 18)) _ _ _ rfl fun p b s => { cls := Value.none, data := Data.func { name := Str.ofString "_law_take", qualname := Str.ofString "_law_take", params := p, body := FuncBody.stmts b, scope := s, globals := 0, closure := [], defaults := Value.none, kwdefaults := Value.none } }
noncomputable def hd.o_265 (P : Params) : Obj := { cls := Value.type "code", data := Data.fields #[Value.str (Str.ofString "_law_take") 475, Value.str (Str.ofString "_law_take") 476, Value.str (Str.ofString "/claim/cut.py") 477, Value.int 99 0, Value.int 2 0, Value.int 0 0, Value.int 0 0, Value.int 3 0, Value.ref 214, Value.bool true, Value.int 181 0, Value.ref 215, Value.none, Value.ref 216, Value.ref 217, Value.ref 218, Value.int 481 0, Value.int 99 0, Value.str (Str.ofString "/claim/cut.py") 482] }
noncomputable def hd.o_266 (P : Params) : Obj := withBits (fnBits (nthS topS 18)) _ _ _ rfl fun p b s => { cls := Value.type "function", data := Data.func { name := Str.ofString "_law_take", qualname := Str.ofString "_law_take", params := p, body := FuncBody.stmts b, scope := s, globals := 3, closure := [], defaults := Value.none, kwdefaults := Value.none, pyModule := Value.str (Str.ofString "law_pc0362_01") 462, code := Value.ref 219 } }
noncomputable def hd.o_267 (P : Params) : Obj := { cls := Value.type "tuple", data := Data.seq #[] }
noncomputable def hd.o_268 (P : Params) : Obj := { cls := Value.none, data := Data.fields #[] }
noncomputable def hd.o_269 (P : Params) : Obj := { cls := Value.type "tuple", data := Data.seq #[Value.str (Str.ofString "source") 487, Value.str (Str.ofString "things") 488] }
noncomputable def hd.o_270 (P : Params) : Obj := { cls := Value.type "tuple", data := Data.seq #[] }
noncomputable def hd.o_271 (P : Params) : Obj := withBits (fnBits (nthS topS 19)) _ _ _ rfl fun p b s => { cls := Value.none, data := Data.func { name := Str.ofString "_law_one", qualname := Str.ofString "_law_one", params := p, body := FuncBody.stmts b, scope := s, globals := 0, closure := [], defaults := Value.none, kwdefaults := Value.none } }
noncomputable def hd.o_272 (P : Params) : Obj := { cls := Value.type "code", data := Data.fields #[Value.str (Str.ofString "_law_one") 484, Value.str (Str.ofString "_law_one") 485, Value.str (Str.ofString "/claim/cut.py") 486, Value.int 106 0, Value.int 2 0, Value.int 0 0, Value.int 0 0, Value.int 3 0, Value.ref 221, Value.bool true, Value.int 181 0, Value.ref 222, Value.none, Value.ref 223, Value.ref 224, Value.ref 225, Value.int 489 0, Value.int 106 0, Value.str (Str.ofString "/claim/cut.py") 490] }
noncomputable def hd.o_273 (P : Params) : Obj := withBits (fnBits (nthS topS 19)) _ _ _ rfl fun p b s => { cls := Value.type "function", data := Data.func { name := Str.ofString "_law_one", qualname := Str.ofString "_law_one", params := p, body := FuncBody.stmts b, scope := s, globals := 3, closure := [], defaults := Value.none, kwdefaults := Value.none, pyModule := Value.str (Str.ofString "law_pc0362_01") 462, code := Value.ref 226 } }
noncomputable def hd.o_274 (P : Params) : Obj := { cls := Value.type "tuple", data := Data.seq #[] }
noncomputable def hd.o_275 (P : Params) : Obj := { cls := Value.none, data := Data.fields #[] }
noncomputable def hd.o_276 (P : Params) : Obj := { cls := Value.type "tuple", data := Data.seq #[] }
noncomputable def hd.o_277 (P : Params) : Obj := { cls := Value.type "tuple", data := Data.seq #[] }
noncomputable def hd.o_278 (P : Params) : Obj := withBits (fnBits (nthS topS 20)) _ _ _ rfl fun p b s => { cls := Value.none, data := Data.func { name := Str.ofString "_law_sizes", qualname := Str.ofString "_law_sizes", params := p, body := FuncBody.stmts b, scope := s, globals := 0, closure := [], defaults := Value.none, kwdefaults := Value.none } }
noncomputable def hd.o_279 (P : Params) : Obj := { cls := Value.type "code", data := Data.fields #[Value.str (Str.ofString "_law_sizes") 492, Value.str (Str.ofString "_law_sizes") 493, Value.str (Str.ofString "/claim/cut.py") 494, Value.int 108 0, Value.int 0 0, Value.int 0 0, Value.int 0 0, Value.int 3 0, Value.ref 228, Value.bool true, Value.int 181 0, Value.ref 229, Value.none, Value.ref 230, Value.ref 231, Value.ref 232, Value.int 495 0, Value.int 108 0, Value.str (Str.ofString "/claim/cut.py") 496] }
noncomputable def hd.o_280 (P : Params) : Obj := withBits (fnBits (nthS topS 20)) _ _ _ rfl fun p b s => { cls := Value.type "function", data := Data.func { name := Str.ofString "_law_sizes", qualname := Str.ofString "_law_sizes", params := p, body := FuncBody.stmts b, scope := s, globals := 3, closure := [], defaults := Value.none, kwdefaults := Value.none, pyModule := Value.str (Str.ofString "law_pc0362_01") 462, code := Value.ref 233 } }
noncomputable def hd.o_281 (P : Params) : Obj := { cls := Value.type "tuple", data := Data.seq #[] }
noncomputable def hd.o_282 (P : Params) : Obj := { cls := Value.none, data := Data.fields #[] }
noncomputable def hd.o_283 (P : Params) : Obj := withBits (fnBits (nthS topS 21)) _ _ _ rfl fun p b s => { cls := Value.none, data := Data.func { name := Str.ofString "_law_class", qualname := Str.ofString "_law_class", params := p, body := FuncBody.stmts b, scope := s, globals := 0, closure := [], defaults := Value.none, kwdefaults := Value.none } }
noncomputable def hd.o_284 (P : Params) : Obj := { cls := Value.type "code", data := Data.fields #[Value.str (Str.ofString "_law_class") 498, Value.str (Str.ofString "_law_class") 499, Value.str (Str.ofString "/claim/cut.py") 500, Value.int 110 0, Value.int 1 0, Value.int 0 0, Value.int 0 0, Value.int 3 0, Value.ref 235, Value.bool true, Value.int 181 0, Value.ref 236, Value.none, Value.none, Value.none, Value.ref 237, Value.int 501 0, Value.int 110 0, Value.str (Str.ofString "/claim/cut.py") 502] }
noncomputable def hd.o_285 (P : Params) : Obj := withBits (fnBits (nthS topS 21)) _ _ _ rfl fun p b s => { cls := Value.type "function", data := Data.func { name := Str.ofString "_law_class", qualname := Str.ofString "_law_class", params := p, body := FuncBody.stmts b, scope := s, globals := 3, closure := [], defaults := Value.none, kwdefaults := Value.none, pyModule := Value.str (Str.ofString "law_pc0362_01") 462, code := Value.ref 238 } }
noncomputable def hd.o_286 (P : Params) : Obj := { cls := Value.type "tuple", data := Data.seq #[] }
noncomputable def hd.o_287 (P : Params) : Obj := { cls := Value.none, data := Data.fields #[] }
noncomputable def hd.o_288 (P : Params) : Obj := { cls := Value.type "tuple", data := Data.seq #[Value.str (Str.ofString "target") 507] }
noncomputable def hd.o_289 (P : Params) : Obj := { cls := Value.type "tuple", data := Data.seq #[] }
noncomputable def hd.o_290 (P : Params) : Obj := withBits (fnBits (nthS topS 22)) _ _ _ rfl fun p b s => { cls := Value.none, data := Data.func { name := Str.ofString "_law_sort", qualname := Str.ofString "_law_sort", params := p, body := FuncBody.stmts b, scope := s, globals := 0, closure := [], defaults := Value.none, kwdefaults := Value.none } }
noncomputable def hd.o_291 (P : Params) : Obj := { cls := Value.type "code", data := Data.fields #[Value.str (Str.ofString "_law_sort") 504, Value.str (Str.ofString "_law_sort") 505, Value.str (Str.ofString "/claim/cut.py") 506, Value.int 112 0, Value.int 1 0, Value.int 0 0, Value.int 0 0, Value.int 3 0, Value.ref 240, Value.bool true, Value.int 181 0, Value.ref 241, Value.none, Value.ref 242, Value.ref 243, Value.ref 244, Value.int 508 0, Value.int 112 0, Value.str (Str.ofString "/claim/cut.py") 509] }
noncomputable def hd.o_292 (P : Params) : Obj := withBits (fnBits (nthS topS 22)) _ _ _ rfl fun p b s => { cls := Value.type "function", data := Data.func { name := Str.ofString "_law_sort", qualname := Str.ofString "_law_sort", params := p, body := FuncBody.stmts b, scope := s, globals := 3, closure := [], defaults := Value.none, kwdefaults := Value.none, pyModule := Value.str (Str.ofString "law_pc0362_01") 462, code := Value.ref 245 } }
noncomputable def hd.o_293 (P : Params) : Obj := { cls := Value.type "tuple", data := Data.seq #[] }
noncomputable def hd.o_294 (P : Params) : Obj := { cls := Value.none, data := Data.fields #[] }
noncomputable def hd.o_295 (P : Params) : Obj := { cls := Value.type "tuple", data := Data.seq #[Value.str (Str.ofString "row") 514, Value.str (Str.ofString "way") 515, Value.str (Str.ofString "word") 516, Value.str (Str.ofString "more") 517, Value.str (Str.ofString "names") 518] }
noncomputable def hd.o_296 (P : Params) : Obj := { cls := Value.type "tuple", data := Data.seq #[] }
noncomputable def hd.o_297 (P : Params) : Obj := withBits (fnBits (nthS topS 23)) _ _ _ rfl fun p b s => { cls := Value.none, data := Data.func { name := Str.ofString "_law_names", qualname := Str.ofString "_law_names", params := p, body := FuncBody.stmts b, scope := s, globals := 0, closure := [], defaults := Value.none, kwdefaults := Value.none } }
noncomputable def hd.o_298 (P : Params) : Obj := { cls := Value.type "code", data := Data.fields #[Value.str (Str.ofString "_law_names") 511, Value.str (Str.ofString "_law_names") 512, Value.str (Str.ofString "/claim/cut.py") 513, Value.int 116 0, Value.int 1 0, Value.int 0 0, Value.int 0 0, Value.int 3 0, Value.ref 247, Value.bool true, Value.int 181 0, Value.ref 248, Value.none, Value.ref 249, Value.ref 250, Value.ref 251, Value.int 519 0, Value.int 116 0, Value.str (Str.ofString "/claim/cut.py") 520] }
noncomputable def hd.o_299 (P : Params) : Obj := withBits (fnBits (nthS topS 23)) _ _ _ rfl fun p b s => { cls := Value.type "function", data := Data.func { name := Str.ofString "_law_names", qualname := Str.ofString "_law_names", params := p, body := FuncBody.stmts b, scope := s, globals := 3, closure := [], defaults := Value.none, kwdefaults := Value.none, pyModule := Value.str (Str.ofString "law_pc0362_01") 462, code := Value.ref 252 } }
noncomputable def hd.o_300 (P : Params) : Obj := { cls := Value.type "tuple", data := Data.seq #[] }
noncomputable def hd.o_301 (P : Params) : Obj := { cls := Value.none, data := Data.fields #[] }
noncomputable def hd.o_302 (P : Params) : Obj := { cls := Value.type "tuple", data := Data.seq #[Value.str (Str.ofString "rows") 525, Value.str (Str.ofString "bits") 526, Value.str (Str.ofString "found") 527, Value.str (Str.ofString "row") 528, Value.str (Str.ofString "name") 529, Value.str (Str.ofString "many") 530] }
noncomputable def hd.o_303 (P : Params) : Obj := { cls := Value.type "tuple", data := Data.seq #[] }
noncomputable def hd.o_304 (P : Params) : Obj := withBits (fnBits (nthS topS 24)) _ _ _ rfl fun p b s => { cls := Value.none, data := Data.func { name := Str.ofString "_law_counts", qualname := Str.ofString "_law_counts", params := p, body := FuncBody.stmts b, scope := s, globals := 0, closure := [], defaults := Value.none, kwdefaults := Value.none } }
noncomputable def hd.o_305 (P : Params) : Obj := { cls := Value.type "code", data := Data.fields #[Value.str (Str.ofString "_law_counts") 522, Value.str (Str.ofString "_law_counts") 523, Value.str (Str.ofString "/claim/cut.py") 524, Value.int 122 0, Value.int 2 0, Value.int 0 0, Value.int 0 0, Value.int 3 0, Value.ref 254, Value.bool true, Value.int 181 0, Value.ref 255, Value.none, Value.ref 256, Value.ref 257, Value.ref 258, Value.int 531 0, Value.int 122 0, Value.str (Str.ofString "/claim/cut.py") 532] }
noncomputable def hd.o_306 (P : Params) : Obj := withBits (fnBits (nthS topS 24)) _ _ _ rfl fun p b s => { cls := Value.type "function", data := Data.func { name := Str.ofString "_law_counts", qualname := Str.ofString "_law_counts", params := p, body := FuncBody.stmts b, scope := s, globals := 3, closure := [], defaults := Value.none, kwdefaults := Value.none, pyModule := Value.str (Str.ofString "law_pc0362_01") 462, code := Value.ref 259 } }
noncomputable def hd.o_307 (P : Params) : Obj := { cls := Value.type "tuple", data := Data.seq #[] }
noncomputable def hd.o_308 (P : Params) : Obj := { cls := Value.none, data := Data.fields #[] }
noncomputable def hd.o_309 (P : Params) : Obj := { cls := Value.type "tuple", data := Data.seq #[Value.str (Str.ofString "deed") 537] }
noncomputable def hd.o_310 (P : Params) : Obj := { cls := Value.type "tuple", data := Data.seq #[] }
noncomputable def hd.o_311 (P : Params) : Obj := withBits (fnBits (nthS topS 25)) _ _ _ rfl fun p b s => { cls := Value.none, data := Data.func { name := Str.ofString "_law_refused", qualname := Str.ofString "_law_refused", params := p, body := FuncBody.stmts b, scope := s, globals := 0, closure := [], defaults := Value.none, kwdefaults := Value.none } }
noncomputable def hd.o_312 (P : Params) : Obj := { cls := Value.type "code", data := Data.fields #[Value.str (Str.ofString "_law_refused") 534, Value.str (Str.ofString "_law_refused") 535, Value.str (Str.ofString "/claim/cut.py") 536, Value.int 128 0, Value.int 1 0, Value.int 0 0, Value.int 0 0, Value.int 3 0, Value.ref 261, Value.bool true, Value.int 181 0, Value.ref 262, Value.none, Value.ref 263, Value.ref 264, Value.ref 265, Value.int 538 0, Value.int 128 0, Value.str (Str.ofString "/claim/cut.py") 539] }
noncomputable def hd.o_313 (P : Params) : Obj := withBits (fnBits (nthS topS 25)) _ _ _ rfl fun p b s => { cls := Value.type "function", data := Data.func { name := Str.ofString "_law_refused", qualname := Str.ofString "_law_refused", params := p, body := FuncBody.stmts b, scope := s, globals := 3, closure := [], defaults := Value.none, kwdefaults := Value.none, pyModule := Value.str (Str.ofString "law_pc0362_01") 462, code := Value.ref 266 } }
noncomputable def hd.o_314 (P : Params) : Obj := { cls := Value.type "tuple", data := Data.seq #[] }
noncomputable def hd.o_315 (P : Params) : Obj := { cls := Value.none, data := Data.fields #[] }
noncomputable def hd.o_316 (P : Params) : Obj := { cls := Value.type "tuple", data := Data.seq #[Value.str (Str.ofString "source") 544, Value.str (Str.ofString "counters") 545, Value.str (Str.ofString "lists") 546, Value.str (Str.ofString "port") 547, Value.str (Str.ofString "way") 548, Value.str (Str.ofString "word") 549, Value.str (Str.ofString "why") 550, Value.str (Str.ofString "target") 551, Value.str (Str.ofString "ends") 552, Value.str (Str.ofString "size") 553] }
noncomputable def hd.o_317 (P : Params) : Obj := { cls := Value.type "tuple", data := Data.seq #[] }
noncomputable def hd.o_318 (P : Params) : Obj := withBits (fnBits (nthS topS 26)) _ _ _ rfl fun p b s => { cls := Value.none, data := Data.func { name := Str.ofString "_law_step", qualname := Str.ofString "_law_step", params := p, body := FuncBody.stmts b, scope := s, globals := 0, closure := [], defaults := Value.none, kwdefaults := Value.none } }
noncomputable def hd.o_319 (P : Params) : Obj := { cls := Value.type "code", data := Data.fields #[Value.str (Str.ofString "_law_step") 541, Value.str (Str.ofString "_law_step") 542, Value.str (Str.ofString "/claim/cut.py") 543, Value.int 134 0, Value.int 3 0, Value.int 0 0, Value.int 0 0, Value.int 3 0, Value.ref 268, Value.bool true, Value.int 181 0, Value.ref 269, Value.none, Value.ref 270, Value.ref 271, Value.ref 272, Value.int 554 0, Value.int 134 0, Value.str (Str.ofString "/claim/cut.py") 555] }
noncomputable def hd.o_320 (P : Params) : Obj := withBits (fnBits (nthS topS 26)) _ _ _ rfl fun p b s => { cls := Value.type "function", data := Data.func { name := Str.ofString "_law_step", qualname := Str.ofString "_law_step", params := p, body := FuncBody.stmts b, scope := s, globals := 3, closure := [], defaults := Value.none, kwdefaults := Value.none, pyModule := Value.str (Str.ofString "law_pc0362_01") 462, code := Value.ref 273 } }
noncomputable def hd.o_321 (P : Params) : Obj := { cls := Value.type "tuple", data := Data.seq #[] }
noncomputable def hd.o_322 (P : Params) : Obj := { cls := Value.none, data := Data.fields #[] }
noncomputable def hd.o_323 (P : Params) : Obj := withBits (fnBits (nthS topS 27)) _ _ _ rfl fun p b s => { cls := Value.none, data := Data.func { name := Str.ofString "_law_is_right", qualname := Str.ofString "_law_is_right", params := p, body := FuncBody.stmts b, scope := s, globals := 0, closure := [], defaults := Value.none, kwdefaults := Value.none } }
noncomputable def hd.o_324 (P : Params) : Obj := { cls := Value.type "code", data := Data.fields #[Value.str (Str.ofString "_law_is_right") 557, Value.str (Str.ofString "_law_is_right") 558, Value.str (Str.ofString "/claim/cut.py") 559, Value.int 149 0, Value.int 3 0, Value.int 0 0, Value.int 0 0, Value.int 3 0, Value.ref 275, Value.bool true, Value.int 181 0, Value.ref 276, Value.none, Value.none, Value.none, Value.ref 277, Value.int 560 0, Value.int 149 0, Value.str (Str.ofString "/claim/cut.py") 561] }
noncomputable def hd.o_325 (P : Params) : Obj := withBits (fnBits (nthS topS 27)) _ _ _ rfl fun p b s => { cls := Value.type "function", data := Data.func { name := Str.ofString "_law_is_right", qualname := Str.ofString "_law_is_right", params := p, body := FuncBody.stmts b, scope := s, globals := 3, closure := [], defaults := Value.none, kwdefaults := Value.none, pyModule := Value.str (Str.ofString "law_pc0362_01") 462, code := Value.ref 278 } }
noncomputable def hd.o_326 (P : Params) : Obj := { cls := Value.type "tuple", data := Data.seq #[] }
noncomputable def hd.o_327 (P : Params) : Obj := { cls := Value.none, data := Data.fields #[] }
noncomputable def hd.o_328 (P : Params) : Obj := withBits (fnBits (nthS topS 28)) _ _ _ rfl fun p b s => { cls := Value.none, data := Data.func { name := Str.ofString "law", qualname := Str.ofString "law", params := p, body := FuncBody.stmts b, scope := s, globals := 0, closure := [], defaults := Value.none, kwdefaults := Value.none } }
noncomputable def hd.o_329 (P : Params) : Obj := { cls := Value.type "code", data := Data.fields #[Value.str (Str.ofString "law") 563, Value.str (Str.ofString "law") 564, Value.str (Str.ofString "/claim/cut.py") 565, Value.int 162 0, Value.int 1 0, Value.int 0 0, Value.int 0 0, Value.int 3 0, Value.ref 280, Value.bool true, Value.int 181 0, Value.ref 281, Value.none, Value.none, Value.none, Value.ref 282, Value.int 566 0, Value.int 162 0, Value.str (Str.ofString "/claim/cut.py") 567] }
noncomputable def hd.o_330 (P : Params) : Obj := withBits (fnBits (nthS topS 28)) _ _ _ rfl fun p b s => { cls := Value.type "function", data := Data.func { name := Str.ofString "law", qualname := Str.ofString "law", params := p, body := FuncBody.stmts b, scope := s, globals := 3, closure := [], defaults := Value.none, kwdefaults := Value.none, pyModule := Value.str (Str.ofString "law_pc0362_01") 462, code := Value.ref 283 } }
noncomputable def hd.heap_46 (P : Params) : Heap := { objs := { toList := [boot_o_0 P, boot_o_1 P, boot_o_2 P, boot_o_3 P, boot_o_4 P, boot_o_5 P, boot_o_6 P, boot_o_7 P, boot_o_8 P, boot_o_9 P, boot_o_10 P, hd.o_43 P, hd.o_44 P, hd.o_45 P, hd.o_46 P] } }
noncomputable def hd.tree_47 (P : Params) : BT := BT.node (boot_o_0 P) (BT.node (boot_o_1 P) (BT.node (boot_o_3 P) (BT.node (boot_o_7 P) BT.nil BT.nil) (BT.node (hd.o_43 P) BT.nil BT.nil)) (BT.node (boot_o_5 P) (BT.node (boot_o_9 P) BT.nil BT.nil) (BT.node (hd.o_45 P) BT.nil BT.nil))) (BT.node (boot_o_2 P) (BT.node (boot_o_4 P) (BT.node (boot_o_8 P) BT.nil BT.nil) (BT.node (hd.o_44 P) BT.nil BT.nil)) (BT.node (boot_o_6 P) (BT.node (boot_o_10 P) BT.nil BT.nil) (BT.node (hd.o_46 P) BT.nil BT.nil)))
noncomputable def hd.tree_71 (P : Params) : BT := BT.node (boot_o_0 P) (BT.node (boot_o_1 P) (BT.node (hd.o_50 P) (BT.node (boot_o_7 P) (BT.node (hd.o_52 P) (BT.node (hd.o_68 P) BT.nil BT.nil) BT.nil) (BT.node (hd.o_60 P) BT.nil BT.nil)) (BT.node (hd.o_43 P) (BT.node (hd.o_56 P) BT.nil BT.nil) (BT.node (hd.o_64 P) BT.nil BT.nil))) (BT.node (boot_o_5 P) (BT.node (boot_o_9 P) (BT.node (hd.o_54 P) (BT.node (hd.o_70 P) BT.nil BT.nil) BT.nil) (BT.node (hd.o_62 P) BT.nil BT.nil)) (BT.node (hd.o_45 P) (BT.node (hd.o_58 P) BT.nil BT.nil) (BT.node (hd.o_66 P) BT.nil BT.nil)))) (BT.node (hd.o_49 P) (BT.node (boot_o_4 P) (BT.node (boot_o_8 P) (BT.node (hd.o_53 P) (BT.node (hd.o_69 P) BT.nil BT.nil) BT.nil) (BT.node (hd.o_61 P) BT.nil BT.nil)) (BT.node (hd.o_51 P) (BT.node (hd.o_57 P) BT.nil BT.nil) (BT.node (hd.o_65 P) BT.nil BT.nil))) (BT.node (boot_o_6 P) (BT.node (boot_o_10 P) (BT.node (hd.o_55 P) (BT.node (hd.o_71 P) BT.nil BT.nil) BT.nil) (BT.node (hd.o_63 P) BT.nil BT.nil)) (BT.node (hd.o_46 P) (BT.node (hd.o_59 P) BT.nil BT.nil) (BT.node (hd.o_67 P) BT.nil BT.nil))))
noncomputable def hd.tree_110 (P : Params) : BT := BT.node (boot_o_0 P) (BT.node (boot_o_1 P) (BT.node (hd.o_72 P) (BT.node (boot_o_7 P) (BT.node (hd.o_52 P) (BT.node (hd.o_74 P) (BT.node (hd.o_103 P) BT.nil BT.nil) BT.nil) (BT.node (hd.o_87 P) BT.nil BT.nil)) (BT.node (hd.o_60 P) (BT.node (hd.o_79 P) BT.nil BT.nil) (BT.node (hd.o_95 P) BT.nil BT.nil))) (BT.node (hd.o_43 P) (BT.node (hd.o_56 P) (BT.node (hd.o_75 P) (BT.node (hd.o_107 P) BT.nil BT.nil) BT.nil) (BT.node (hd.o_91 P) BT.nil BT.nil)) (BT.node (hd.o_64 P) (BT.node (hd.o_83 P) BT.nil BT.nil) (BT.node (hd.o_99 P) BT.nil BT.nil)))) (BT.node (boot_o_5 P) (BT.node (boot_o_9 P) (BT.node (hd.o_54 P) (BT.node (hd.o_70 P) (BT.node (hd.o_105 P) BT.nil BT.nil) BT.nil) (BT.node (hd.o_89 P) BT.nil BT.nil)) (BT.node (hd.o_62 P) (BT.node (hd.o_81 P) BT.nil BT.nil) (BT.node (hd.o_97 P) BT.nil BT.nil))) (BT.node (hd.o_45 P) (BT.node (hd.o_58 P) (BT.node (hd.o_77 P) (BT.node (hd.o_109 P) BT.nil BT.nil) BT.nil) (BT.node (hd.o_93 P) BT.nil BT.nil)) (BT.node (hd.o_66 P) (BT.node (hd.o_85 P) BT.nil BT.nil) (BT.node (hd.o_101 P) BT.nil BT.nil))))) (BT.node (hd.o_49 P) (BT.node (boot_o_4 P) (BT.node (boot_o_8 P) (BT.node (hd.o_53 P) (BT.node (hd.o_69 P) (BT.node (hd.o_104 P) BT.nil BT.nil) BT.nil) (BT.node (hd.o_88 P) BT.nil BT.nil)) (BT.node (hd.o_61 P) (BT.node (hd.o_80 P) BT.nil BT.nil) (BT.node (hd.o_96 P) BT.nil BT.nil))) (BT.node (hd.o_73 P) (BT.node (hd.o_57 P) (BT.node (hd.o_76 P) (BT.node (hd.o_108 P) BT.nil BT.nil) BT.nil) (BT.node (hd.o_92 P) BT.nil BT.nil)) (BT.node (hd.o_65 P) (BT.node (hd.o_84 P) BT.nil BT.nil) (BT.node (hd.o_100 P) BT.nil BT.nil)))) (BT.node (boot_o_6 P) (BT.node (boot_o_10 P) (BT.node (hd.o_55 P) (BT.node (hd.o_71 P) (BT.node (hd.o_106 P) BT.nil BT.nil) BT.nil) (BT.node (hd.o_90 P) BT.nil BT.nil)) (BT.node (hd.o_63 P) (BT.node (hd.o_82 P) BT.nil BT.nil) (BT.node (hd.o_98 P) BT.nil BT.nil))) (BT.node (hd.o_46 P) (BT.node (hd.o_59 P) (BT.node (hd.o_78 P) (BT.node (hd.o_110 P) BT.nil BT.nil) BT.nil) (BT.node (hd.o_94 P) BT.nil BT.nil)) (BT.node (hd.o_67 P) (BT.node (hd.o_86 P) BT.nil BT.nil) (BT.node (hd.o_102 P) BT.nil BT.nil)))))
noncomputable def hd.tree_169 (P : Params) : BT := BT.node (boot_o_0 P) (BT.node (boot_o_1 P) (BT.node (hd.o_111 P) (BT.node (boot_o_7 P) (BT.node (hd.o_52 P) (BT.node (hd.o_74 P) (BT.node (hd.o_103 P) (BT.node (hd.o_169 P) BT.nil BT.nil) BT.nil) (BT.node (hd.o_137 P) BT.nil BT.nil)) (BT.node (hd.o_87 P) (BT.node (hd.o_121 P) BT.nil BT.nil) (BT.node (hd.o_153 P) BT.nil BT.nil))) (BT.node (hd.o_60 P) (BT.node (hd.o_79 P) (BT.node (hd.o_113 P) BT.nil BT.nil) (BT.node (hd.o_145 P) BT.nil BT.nil)) (BT.node (hd.o_95 P) (BT.node (hd.o_129 P) BT.nil BT.nil) (BT.node (hd.o_161 P) BT.nil BT.nil)))) (BT.node (hd.o_43 P) (BT.node (hd.o_56 P) (BT.node (hd.o_75 P) (BT.node (hd.o_107 P) BT.nil BT.nil) (BT.node (hd.o_141 P) BT.nil BT.nil)) (BT.node (hd.o_91 P) (BT.node (hd.o_125 P) BT.nil BT.nil) (BT.node (hd.o_157 P) BT.nil BT.nil))) (BT.node (hd.o_64 P) (BT.node (hd.o_83 P) (BT.node (hd.o_117 P) BT.nil BT.nil) (BT.node (hd.o_149 P) BT.nil BT.nil)) (BT.node (hd.o_99 P) (BT.node (hd.o_133 P) BT.nil BT.nil) (BT.node (hd.o_165 P) BT.nil BT.nil))))) (BT.node (boot_o_5 P) (BT.node (boot_o_9 P) (BT.node (hd.o_54 P) (BT.node (hd.o_70 P) (BT.node (hd.o_105 P) BT.nil BT.nil) (BT.node (hd.o_139 P) BT.nil BT.nil)) (BT.node (hd.o_89 P) (BT.node (hd.o_123 P) BT.nil BT.nil) (BT.node (hd.o_155 P) BT.nil BT.nil))) (BT.node (hd.o_62 P) (BT.node (hd.o_81 P) (BT.node (hd.o_115 P) BT.nil BT.nil) (BT.node (hd.o_147 P) BT.nil BT.nil)) (BT.node (hd.o_97 P) (BT.node (hd.o_131 P) BT.nil BT.nil) (BT.node (hd.o_163 P) BT.nil BT.nil)))) (BT.node (hd.o_45 P) (BT.node (hd.o_58 P) (BT.node (hd.o_77 P) (BT.node (hd.o_109 P) BT.nil BT.nil) (BT.node (hd.o_143 P) BT.nil BT.nil)) (BT.node (hd.o_93 P) (BT.node (hd.o_127 P) BT.nil BT.nil) (BT.node (hd.o_159 P) BT.nil BT.nil))) (BT.node (hd.o_66 P) (BT.node (hd.o_85 P) (BT.node (hd.o_119 P) BT.nil BT.nil) (BT.node (hd.o_151 P) BT.nil BT.nil)) (BT.node (hd.o_101 P) (BT.node (hd.o_135 P) BT.nil BT.nil) (BT.node (hd.o_167 P) BT.nil BT.nil)))))) (BT.node (hd.o_49 P) (BT.node (boot_o_4 P) (BT.node (boot_o_8 P) (BT.node (hd.o_53 P) (BT.node (hd.o_69 P) (BT.node (hd.o_104 P) BT.nil BT.nil) (BT.node (hd.o_138 P) BT.nil BT.nil)) (BT.node (hd.o_88 P) (BT.node (hd.o_122 P) BT.nil BT.nil) (BT.node (hd.o_154 P) BT.nil BT.nil))) (BT.node (hd.o_61 P) (BT.node (hd.o_80 P) (BT.node (hd.o_114 P) BT.nil BT.nil) (BT.node (hd.o_146 P) BT.nil BT.nil)) (BT.node (hd.o_96 P) (BT.node (hd.o_130 P) BT.nil BT.nil) (BT.node (hd.o_162 P) BT.nil BT.nil)))) (BT.node (hd.o_112 P) (BT.node (hd.o_57 P) (BT.node (hd.o_76 P) (BT.node (hd.o_108 P) BT.nil BT.nil) (BT.node (hd.o_142 P) BT.nil BT.nil)) (BT.node (hd.o_92 P) (BT.node (hd.o_126 P) BT.nil BT.nil) (BT.node (hd.o_158 P) BT.nil BT.nil))) (BT.node (hd.o_65 P) (BT.node (hd.o_84 P) (BT.node (hd.o_118 P) BT.nil BT.nil) (BT.node (hd.o_150 P) BT.nil BT.nil)) (BT.node (hd.o_100 P) (BT.node (hd.o_134 P) BT.nil BT.nil) (BT.node (hd.o_166 P) BT.nil BT.nil))))) (BT.node (boot_o_6 P) (BT.node (boot_o_10 P) (BT.node (hd.o_55 P) (BT.node (hd.o_71 P) (BT.node (hd.o_106 P) BT.nil BT.nil) (BT.node (hd.o_140 P) BT.nil BT.nil)) (BT.node (hd.o_90 P) (BT.node (hd.o_124 P) BT.nil BT.nil) (BT.node (hd.o_156 P) BT.nil BT.nil))) (BT.node (hd.o_63 P) (BT.node (hd.o_82 P) (BT.node (hd.o_116 P) BT.nil BT.nil) (BT.node (hd.o_148 P) BT.nil BT.nil)) (BT.node (hd.o_98 P) (BT.node (hd.o_132 P) BT.nil BT.nil) (BT.node (hd.o_164 P) BT.nil BT.nil)))) (BT.node (hd.o_46 P) (BT.node (hd.o_59 P) (BT.node (hd.o_78 P) (BT.node (hd.o_110 P) BT.nil BT.nil) (BT.node (hd.o_144 P) BT.nil BT.nil)) (BT.node (hd.o_94 P) (BT.node (hd.o_128 P) BT.nil BT.nil) (BT.node (hd.o_160 P) BT.nil BT.nil))) (BT.node (hd.o_67 P) (BT.node (hd.o_86 P) (BT.node (hd.o_120 P) BT.nil BT.nil) (BT.node (hd.o_152 P) BT.nil BT.nil)) (BT.node (hd.o_102 P) (BT.node (hd.o_136 P) BT.nil BT.nil) (BT.node (hd.o_168 P) BT.nil BT.nil))))))
noncomputable def hd.tree_250 (P : Params) : BT := BT.node (boot_o_0 P) (BT.node (boot_o_1 P) (BT.node (hd.o_170 P) (BT.node (boot_o_7 P) (BT.node (hd.o_52 P) (BT.node (hd.o_74 P) (BT.node (hd.o_103 P) (BT.node (hd.o_169 P) BT.nil BT.nil) (BT.node (hd.o_235 P) BT.nil BT.nil)) (BT.node (hd.o_137 P) (BT.node (hd.o_203 P) BT.nil BT.nil) BT.nil)) (BT.node (hd.o_87 P) (BT.node (hd.o_121 P) (BT.node (hd.o_187 P) BT.nil BT.nil) BT.nil) (BT.node (hd.o_153 P) (BT.node (hd.o_219 P) BT.nil BT.nil) BT.nil))) (BT.node (hd.o_60 P) (BT.node (hd.o_79 P) (BT.node (hd.o_113 P) (BT.node (hd.o_179 P) BT.nil BT.nil) (BT.node (hd.o_243 P) BT.nil BT.nil)) (BT.node (hd.o_145 P) (BT.node (hd.o_211 P) BT.nil BT.nil) BT.nil)) (BT.node (hd.o_95 P) (BT.node (hd.o_129 P) (BT.node (hd.o_195 P) BT.nil BT.nil) BT.nil) (BT.node (hd.o_161 P) (BT.node (hd.o_227 P) BT.nil BT.nil) BT.nil)))) (BT.node (hd.o_43 P) (BT.node (hd.o_56 P) (BT.node (hd.o_75 P) (BT.node (hd.o_107 P) (BT.node (hd.o_175 P) BT.nil BT.nil) (BT.node (hd.o_239 P) BT.nil BT.nil)) (BT.node (hd.o_141 P) (BT.node (hd.o_207 P) BT.nil BT.nil) BT.nil)) (BT.node (hd.o_91 P) (BT.node (hd.o_125 P) (BT.node (hd.o_191 P) BT.nil BT.nil) BT.nil) (BT.node (hd.o_157 P) (BT.node (hd.o_223 P) BT.nil BT.nil) BT.nil))) (BT.node (hd.o_64 P) (BT.node (hd.o_83 P) (BT.node (hd.o_117 P) (BT.node (hd.o_183 P) BT.nil BT.nil) (BT.node (hd.o_247 P) BT.nil BT.nil)) (BT.node (hd.o_149 P) (BT.node (hd.o_215 P) BT.nil BT.nil) BT.nil)) (BT.node (hd.o_99 P) (BT.node (hd.o_133 P) (BT.node (hd.o_199 P) BT.nil BT.nil) BT.nil) (BT.node (hd.o_165 P) (BT.node (hd.o_231 P) BT.nil BT.nil) BT.nil))))) (BT.node (boot_o_5 P) (BT.node (boot_o_9 P) (BT.node (hd.o_54 P) (BT.node (hd.o_70 P) (BT.node (hd.o_105 P) (BT.node (hd.o_173 P) BT.nil BT.nil) (BT.node (hd.o_237 P) BT.nil BT.nil)) (BT.node (hd.o_139 P) (BT.node (hd.o_205 P) BT.nil BT.nil) BT.nil)) (BT.node (hd.o_89 P) (BT.node (hd.o_123 P) (BT.node (hd.o_189 P) BT.nil BT.nil) BT.nil) (BT.node (hd.o_155 P) (BT.node (hd.o_221 P) BT.nil BT.nil) BT.nil))) (BT.node (hd.o_62 P) (BT.node (hd.o_81 P) (BT.node (hd.o_115 P) (BT.node (hd.o_181 P) BT.nil BT.nil) (BT.node (hd.o_245 P) BT.nil BT.nil)) (BT.node (hd.o_147 P) (BT.node (hd.o_213 P) BT.nil BT.nil) BT.nil)) (BT.node (hd.o_97 P) (BT.node (hd.o_131 P) (BT.node (hd.o_197 P) BT.nil BT.nil) BT.nil) (BT.node (hd.o_163 P) (BT.node (hd.o_229 P) BT.nil BT.nil) BT.nil)))) (BT.node (hd.o_45 P) (BT.node (hd.o_58 P) (BT.node (hd.o_77 P) (BT.node (hd.o_109 P) (BT.node (hd.o_177 P) BT.nil BT.nil) (BT.node (hd.o_241 P) BT.nil BT.nil)) (BT.node (hd.o_143 P) (BT.node (hd.o_209 P) BT.nil BT.nil) BT.nil)) (BT.node (hd.o_93 P) (BT.node (hd.o_127 P) (BT.node (hd.o_193 P) BT.nil BT.nil) BT.nil) (BT.node (hd.o_159 P) (BT.node (hd.o_225 P) BT.nil BT.nil) BT.nil))) (BT.node (hd.o_66 P) (BT.node (hd.o_85 P) (BT.node (hd.o_119 P) (BT.node (hd.o_185 P) BT.nil BT.nil) (BT.node (hd.o_249 P) BT.nil BT.nil)) (BT.node (hd.o_151 P) (BT.node (hd.o_217 P) BT.nil BT.nil) BT.nil)) (BT.node (hd.o_101 P) (BT.node (hd.o_135 P) (BT.node (hd.o_201 P) BT.nil BT.nil) BT.nil) (BT.node (hd.o_167 P) (BT.node (hd.o_233 P) BT.nil BT.nil) BT.nil)))))) (BT.node (hd.o_49 P) (BT.node (boot_o_4 P) (BT.node (boot_o_8 P) (BT.node (hd.o_53 P) (BT.node (hd.o_69 P) (BT.node (hd.o_104 P) (BT.node (hd.o_172 P) BT.nil BT.nil) (BT.node (hd.o_236 P) BT.nil BT.nil)) (BT.node (hd.o_138 P) (BT.node (hd.o_204 P) BT.nil BT.nil) BT.nil)) (BT.node (hd.o_88 P) (BT.node (hd.o_122 P) (BT.node (hd.o_188 P) BT.nil BT.nil) BT.nil) (BT.node (hd.o_154 P) (BT.node (hd.o_220 P) BT.nil BT.nil) BT.nil))) (BT.node (hd.o_61 P) (BT.node (hd.o_80 P) (BT.node (hd.o_114 P) (BT.node (hd.o_180 P) BT.nil BT.nil) (BT.node (hd.o_244 P) BT.nil BT.nil)) (BT.node (hd.o_146 P) (BT.node (hd.o_212 P) BT.nil BT.nil) BT.nil)) (BT.node (hd.o_96 P) (BT.node (hd.o_130 P) (BT.node (hd.o_196 P) BT.nil BT.nil) BT.nil) (BT.node (hd.o_162 P) (BT.node (hd.o_228 P) BT.nil BT.nil) BT.nil)))) (BT.node (hd.o_171 P) (BT.node (hd.o_57 P) (BT.node (hd.o_76 P) (BT.node (hd.o_108 P) (BT.node (hd.o_176 P) BT.nil BT.nil) (BT.node (hd.o_240 P) BT.nil BT.nil)) (BT.node (hd.o_142 P) (BT.node (hd.o_208 P) BT.nil BT.nil) BT.nil)) (BT.node (hd.o_92 P) (BT.node (hd.o_126 P) (BT.node (hd.o_192 P) BT.nil BT.nil) BT.nil) (BT.node (hd.o_158 P) (BT.node (hd.o_224 P) BT.nil BT.nil) BT.nil))) (BT.node (hd.o_65 P) (BT.node (hd.o_84 P) (BT.node (hd.o_118 P) (BT.node (hd.o_184 P) BT.nil BT.nil) (BT.node (hd.o_248 P) BT.nil BT.nil)) (BT.node (hd.o_150 P) (BT.node (hd.o_216 P) BT.nil BT.nil) BT.nil)) (BT.node (hd.o_100 P) (BT.node (hd.o_134 P) (BT.node (hd.o_200 P) BT.nil BT.nil) BT.nil) (BT.node (hd.o_166 P) (BT.node (hd.o_232 P) BT.nil BT.nil) BT.nil))))) (BT.node (boot_o_6 P) (BT.node (boot_o_10 P) (BT.node (hd.o_55 P) (BT.node (hd.o_71 P) (BT.node (hd.o_106 P) (BT.node (hd.o_174 P) BT.nil BT.nil) (BT.node (hd.o_238 P) BT.nil BT.nil)) (BT.node (hd.o_140 P) (BT.node (hd.o_206 P) BT.nil BT.nil) BT.nil)) (BT.node (hd.o_90 P) (BT.node (hd.o_124 P) (BT.node (hd.o_190 P) BT.nil BT.nil) BT.nil) (BT.node (hd.o_156 P) (BT.node (hd.o_222 P) BT.nil BT.nil) BT.nil))) (BT.node (hd.o_63 P) (BT.node (hd.o_82 P) (BT.node (hd.o_116 P) (BT.node (hd.o_182 P) BT.nil BT.nil) (BT.node (hd.o_246 P) BT.nil BT.nil)) (BT.node (hd.o_148 P) (BT.node (hd.o_214 P) BT.nil BT.nil) BT.nil)) (BT.node (hd.o_98 P) (BT.node (hd.o_132 P) (BT.node (hd.o_198 P) BT.nil BT.nil) BT.nil) (BT.node (hd.o_164 P) (BT.node (hd.o_230 P) BT.nil BT.nil) BT.nil)))) (BT.node (hd.o_46 P) (BT.node (hd.o_59 P) (BT.node (hd.o_78 P) (BT.node (hd.o_110 P) (BT.node (hd.o_178 P) BT.nil BT.nil) (BT.node (hd.o_242 P) BT.nil BT.nil)) (BT.node (hd.o_144 P) (BT.node (hd.o_210 P) BT.nil BT.nil) BT.nil)) (BT.node (hd.o_94 P) (BT.node (hd.o_128 P) (BT.node (hd.o_194 P) BT.nil BT.nil) BT.nil) (BT.node (hd.o_160 P) (BT.node (hd.o_226 P) BT.nil BT.nil) BT.nil))) (BT.node (hd.o_67 P) (BT.node (hd.o_86 P) (BT.node (hd.o_120 P) (BT.node (hd.o_186 P) BT.nil BT.nil) (BT.node (hd.o_250 P) BT.nil BT.nil)) (BT.node (hd.o_152 P) (BT.node (hd.o_218 P) BT.nil BT.nil) BT.nil)) (BT.node (hd.o_102 P) (BT.node (hd.o_136 P) (BT.node (hd.o_202 P) BT.nil BT.nil) BT.nil) (BT.node (hd.o_168 P) (BT.node (hd.o_234 P) BT.nil BT.nil) BT.nil))))))
noncomputable def hd.tree_330 (P : Params) : BT := BT.node (boot_o_0 P) (BT.node (boot_o_1 P) (BT.node (hd.o_251 P) (BT.node (boot_o_7 P) (BT.node (hd.o_52 P) (BT.node (hd.o_74 P) (BT.node (hd.o_103 P) (BT.node (hd.o_169 P) (BT.node (hd.o_301 P) BT.nil BT.nil) BT.nil) (BT.node (hd.o_235 P) BT.nil BT.nil)) (BT.node (hd.o_137 P) (BT.node (hd.o_203 P) BT.nil BT.nil) (BT.node (hd.o_269 P) BT.nil BT.nil))) (BT.node (hd.o_87 P) (BT.node (hd.o_121 P) (BT.node (hd.o_187 P) (BT.node (hd.o_317 P) BT.nil BT.nil) BT.nil) (BT.node (hd.o_253 P) BT.nil BT.nil)) (BT.node (hd.o_153 P) (BT.node (hd.o_219 P) BT.nil BT.nil) (BT.node (hd.o_285 P) BT.nil BT.nil)))) (BT.node (hd.o_60 P) (BT.node (hd.o_79 P) (BT.node (hd.o_113 P) (BT.node (hd.o_179 P) (BT.node (hd.o_309 P) BT.nil BT.nil) BT.nil) (BT.node (hd.o_243 P) BT.nil BT.nil)) (BT.node (hd.o_145 P) (BT.node (hd.o_211 P) BT.nil BT.nil) (BT.node (hd.o_277 P) BT.nil BT.nil))) (BT.node (hd.o_95 P) (BT.node (hd.o_129 P) (BT.node (hd.o_195 P) (BT.node (hd.o_325 P) BT.nil BT.nil) BT.nil) (BT.node (hd.o_261 P) BT.nil BT.nil)) (BT.node (hd.o_161 P) (BT.node (hd.o_227 P) BT.nil BT.nil) (BT.node (hd.o_293 P) BT.nil BT.nil))))) (BT.node (hd.o_43 P) (BT.node (hd.o_56 P) (BT.node (hd.o_75 P) (BT.node (hd.o_107 P) (BT.node (hd.o_175 P) (BT.node (hd.o_305 P) BT.nil BT.nil) BT.nil) (BT.node (hd.o_239 P) BT.nil BT.nil)) (BT.node (hd.o_141 P) (BT.node (hd.o_207 P) BT.nil BT.nil) (BT.node (hd.o_273 P) BT.nil BT.nil))) (BT.node (hd.o_91 P) (BT.node (hd.o_125 P) (BT.node (hd.o_191 P) (BT.node (hd.o_321 P) BT.nil BT.nil) BT.nil) (BT.node (hd.o_257 P) BT.nil BT.nil)) (BT.node (hd.o_157 P) (BT.node (hd.o_223 P) BT.nil BT.nil) (BT.node (hd.o_289 P) BT.nil BT.nil)))) (BT.node (hd.o_64 P) (BT.node (hd.o_83 P) (BT.node (hd.o_117 P) (BT.node (hd.o_183 P) (BT.node (hd.o_313 P) BT.nil BT.nil) BT.nil) (BT.node (hd.o_247 P) BT.nil BT.nil)) (BT.node (hd.o_149 P) (BT.node (hd.o_215 P) BT.nil BT.nil) (BT.node (hd.o_281 P) BT.nil BT.nil))) (BT.node (hd.o_99 P) (BT.node (hd.o_133 P) (BT.node (hd.o_199 P) (BT.node (hd.o_329 P) BT.nil BT.nil) BT.nil) (BT.node (hd.o_265 P) BT.nil BT.nil)) (BT.node (hd.o_165 P) (BT.node (hd.o_231 P) BT.nil BT.nil) (BT.node (hd.o_297 P) BT.nil BT.nil)))))) (BT.node (boot_o_5 P) (BT.node (boot_o_9 P) (BT.node (hd.o_54 P) (BT.node (hd.o_70 P) (BT.node (hd.o_105 P) (BT.node (hd.o_173 P) (BT.node (hd.o_303 P) BT.nil BT.nil) BT.nil) (BT.node (hd.o_237 P) BT.nil BT.nil)) (BT.node (hd.o_139 P) (BT.node (hd.o_205 P) BT.nil BT.nil) (BT.node (hd.o_271 P) BT.nil BT.nil))) (BT.node (hd.o_89 P) (BT.node (hd.o_123 P) (BT.node (hd.o_189 P) (BT.node (hd.o_319 P) BT.nil BT.nil) BT.nil) (BT.node (hd.o_255 P) BT.nil BT.nil)) (BT.node (hd.o_155 P) (BT.node (hd.o_221 P) BT.nil BT.nil) (BT.node (hd.o_287 P) BT.nil BT.nil)))) (BT.node (hd.o_62 P) (BT.node (hd.o_81 P) (BT.node (hd.o_115 P) (BT.node (hd.o_181 P) (BT.node (hd.o_311 P) BT.nil BT.nil) BT.nil) (BT.node (hd.o_245 P) BT.nil BT.nil)) (BT.node (hd.o_147 P) (BT.node (hd.o_213 P) BT.nil BT.nil) (BT.node (hd.o_279 P) BT.nil BT.nil))) (BT.node (hd.o_97 P) (BT.node (hd.o_131 P) (BT.node (hd.o_197 P) (BT.node (hd.o_327 P) BT.nil BT.nil) BT.nil) (BT.node (hd.o_263 P) BT.nil BT.nil)) (BT.node (hd.o_163 P) (BT.node (hd.o_229 P) BT.nil BT.nil) (BT.node (hd.o_295 P) BT.nil BT.nil))))) (BT.node (hd.o_45 P) (BT.node (hd.o_58 P) (BT.node (hd.o_77 P) (BT.node (hd.o_109 P) (BT.node (hd.o_177 P) (BT.node (hd.o_307 P) BT.nil BT.nil) BT.nil) (BT.node (hd.o_241 P) BT.nil BT.nil)) (BT.node (hd.o_143 P) (BT.node (hd.o_209 P) BT.nil BT.nil) (BT.node (hd.o_275 P) BT.nil BT.nil))) (BT.node (hd.o_93 P) (BT.node (hd.o_127 P) (BT.node (hd.o_193 P) (BT.node (hd.o_323 P) BT.nil BT.nil) BT.nil) (BT.node (hd.o_259 P) BT.nil BT.nil)) (BT.node (hd.o_159 P) (BT.node (hd.o_225 P) BT.nil BT.nil) (BT.node (hd.o_291 P) BT.nil BT.nil)))) (BT.node (hd.o_66 P) (BT.node (hd.o_85 P) (BT.node (hd.o_119 P) (BT.node (hd.o_185 P) (BT.node (hd.o_315 P) BT.nil BT.nil) BT.nil) (BT.node (hd.o_249 P) BT.nil BT.nil)) (BT.node (hd.o_151 P) (BT.node (hd.o_217 P) BT.nil BT.nil) (BT.node (hd.o_283 P) BT.nil BT.nil))) (BT.node (hd.o_101 P) (BT.node (hd.o_135 P) (BT.node (hd.o_201 P) BT.nil BT.nil) (BT.node (hd.o_267 P) BT.nil BT.nil)) (BT.node (hd.o_167 P) (BT.node (hd.o_233 P) BT.nil BT.nil) (BT.node (hd.o_299 P) BT.nil BT.nil))))))) (BT.node (hd.o_49 P) (BT.node (boot_o_4 P) (BT.node (boot_o_8 P) (BT.node (hd.o_53 P) (BT.node (hd.o_69 P) (BT.node (hd.o_104 P) (BT.node (hd.o_172 P) (BT.node (hd.o_302 P) BT.nil BT.nil) BT.nil) (BT.node (hd.o_236 P) BT.nil BT.nil)) (BT.node (hd.o_138 P) (BT.node (hd.o_204 P) BT.nil BT.nil) (BT.node (hd.o_270 P) BT.nil BT.nil))) (BT.node (hd.o_88 P) (BT.node (hd.o_122 P) (BT.node (hd.o_188 P) (BT.node (hd.o_318 P) BT.nil BT.nil) BT.nil) (BT.node (hd.o_254 P) BT.nil BT.nil)) (BT.node (hd.o_154 P) (BT.node (hd.o_220 P) BT.nil BT.nil) (BT.node (hd.o_286 P) BT.nil BT.nil)))) (BT.node (hd.o_61 P) (BT.node (hd.o_80 P) (BT.node (hd.o_114 P) (BT.node (hd.o_180 P) (BT.node (hd.o_310 P) BT.nil BT.nil) BT.nil) (BT.node (hd.o_244 P) BT.nil BT.nil)) (BT.node (hd.o_146 P) (BT.node (hd.o_212 P) BT.nil BT.nil) (BT.node (hd.o_278 P) BT.nil BT.nil))) (BT.node (hd.o_96 P) (BT.node (hd.o_130 P) (BT.node (hd.o_196 P) (BT.node (hd.o_326 P) BT.nil BT.nil) BT.nil) (BT.node (hd.o_262 P) BT.nil BT.nil)) (BT.node (hd.o_162 P) (BT.node (hd.o_228 P) BT.nil BT.nil) (BT.node (hd.o_294 P) BT.nil BT.nil))))) (BT.node (hd.o_252 P) (BT.node (hd.o_57 P) (BT.node (hd.o_76 P) (BT.node (hd.o_108 P) (BT.node (hd.o_176 P) (BT.node (hd.o_306 P) BT.nil BT.nil) BT.nil) (BT.node (hd.o_240 P) BT.nil BT.nil)) (BT.node (hd.o_142 P) (BT.node (hd.o_208 P) BT.nil BT.nil) (BT.node (hd.o_274 P) BT.nil BT.nil))) (BT.node (hd.o_92 P) (BT.node (hd.o_126 P) (BT.node (hd.o_192 P) (BT.node (hd.o_322 P) BT.nil BT.nil) BT.nil) (BT.node (hd.o_258 P) BT.nil BT.nil)) (BT.node (hd.o_158 P) (BT.node (hd.o_224 P) BT.nil BT.nil) (BT.node (hd.o_290 P) BT.nil BT.nil)))) (BT.node (hd.o_65 P) (BT.node (hd.o_84 P) (BT.node (hd.o_118 P) (BT.node (hd.o_184 P) (BT.node (hd.o_314 P) BT.nil BT.nil) BT.nil) (BT.node (hd.o_248 P) BT.nil BT.nil)) (BT.node (hd.o_150 P) (BT.node (hd.o_216 P) BT.nil BT.nil) (BT.node (hd.o_282 P) BT.nil BT.nil))) (BT.node (hd.o_100 P) (BT.node (hd.o_134 P) (BT.node (hd.o_200 P) (BT.node (hd.o_330 P) BT.nil BT.nil) BT.nil) (BT.node (hd.o_266 P) BT.nil BT.nil)) (BT.node (hd.o_166 P) (BT.node (hd.o_232 P) BT.nil BT.nil) (BT.node (hd.o_298 P) BT.nil BT.nil)))))) (BT.node (boot_o_6 P) (BT.node (boot_o_10 P) (BT.node (hd.o_55 P) (BT.node (hd.o_71 P) (BT.node (hd.o_106 P) (BT.node (hd.o_174 P) (BT.node (hd.o_304 P) BT.nil BT.nil) BT.nil) (BT.node (hd.o_238 P) BT.nil BT.nil)) (BT.node (hd.o_140 P) (BT.node (hd.o_206 P) BT.nil BT.nil) (BT.node (hd.o_272 P) BT.nil BT.nil))) (BT.node (hd.o_90 P) (BT.node (hd.o_124 P) (BT.node (hd.o_190 P) (BT.node (hd.o_320 P) BT.nil BT.nil) BT.nil) (BT.node (hd.o_256 P) BT.nil BT.nil)) (BT.node (hd.o_156 P) (BT.node (hd.o_222 P) BT.nil BT.nil) (BT.node (hd.o_288 P) BT.nil BT.nil)))) (BT.node (hd.o_63 P) (BT.node (hd.o_82 P) (BT.node (hd.o_116 P) (BT.node (hd.o_182 P) (BT.node (hd.o_312 P) BT.nil BT.nil) BT.nil) (BT.node (hd.o_246 P) BT.nil BT.nil)) (BT.node (hd.o_148 P) (BT.node (hd.o_214 P) BT.nil BT.nil) (BT.node (hd.o_280 P) BT.nil BT.nil))) (BT.node (hd.o_98 P) (BT.node (hd.o_132 P) (BT.node (hd.o_198 P) (BT.node (hd.o_328 P) BT.nil BT.nil) BT.nil) (BT.node (hd.o_264 P) BT.nil BT.nil)) (BT.node (hd.o_164 P) (BT.node (hd.o_230 P) BT.nil BT.nil) (BT.node (hd.o_296 P) BT.nil BT.nil))))) (BT.node (hd.o_46 P) (BT.node (hd.o_59 P) (BT.node (hd.o_78 P) (BT.node (hd.o_110 P) (BT.node (hd.o_178 P) (BT.node (hd.o_308 P) BT.nil BT.nil) BT.nil) (BT.node (hd.o_242 P) BT.nil BT.nil)) (BT.node (hd.o_144 P) (BT.node (hd.o_210 P) BT.nil BT.nil) (BT.node (hd.o_276 P) BT.nil BT.nil))) (BT.node (hd.o_94 P) (BT.node (hd.o_128 P) (BT.node (hd.o_194 P) (BT.node (hd.o_324 P) BT.nil BT.nil) BT.nil) (BT.node (hd.o_260 P) BT.nil BT.nil)) (BT.node (hd.o_160 P) (BT.node (hd.o_226 P) BT.nil BT.nil) (BT.node (hd.o_292 P) BT.nil BT.nil)))) (BT.node (hd.o_67 P) (BT.node (hd.o_86 P) (BT.node (hd.o_120 P) (BT.node (hd.o_186 P) (BT.node (hd.o_316 P) BT.nil BT.nil) BT.nil) (BT.node (hd.o_250 P) BT.nil BT.nil)) (BT.node (hd.o_152 P) (BT.node (hd.o_218 P) BT.nil BT.nil) (BT.node (hd.o_284 P) BT.nil BT.nil))) (BT.node (hd.o_102 P) (BT.node (hd.o_136 P) (BT.node (hd.o_202 P) BT.nil BT.nil) (BT.node (hd.o_268 P) BT.nil BT.nil)) (BT.node (hd.o_168 P) (BT.node (hd.o_234 P) BT.nil BT.nil) (BT.node (hd.o_300 P) BT.nil BT.nil)))))))
noncomputable def hd.heap_331 (P : Params) : Heap := { objs := { toList := [boot_o_0 P, boot_o_1 P, hd.o_49 P, hd.o_251 P, boot_o_4 P, boot_o_5 P, boot_o_6 P, boot_o_7 P, boot_o_8 P, boot_o_9 P, boot_o_10 P, hd.o_43 P, hd.o_252 P, hd.o_45 P, hd.o_46 P, hd.o_52 P, hd.o_53 P, hd.o_54 P, hd.o_55 P, hd.o_56 P, hd.o_57 P, hd.o_58 P, hd.o_59 P, hd.o_60 P, hd.o_61 P, hd.o_62 P, hd.o_63 P, hd.o_64 P, hd.o_65 P, hd.o_66 P, hd.o_67 P, hd.o_74 P, hd.o_69 P, hd.o_70 P, hd.o_71 P, hd.o_75 P, hd.o_76 P, hd.o_77 P, hd.o_78 P, hd.o_79 P, hd.o_80 P, hd.o_81 P, hd.o_82 P, hd.o_83 P, hd.o_84 P, hd.o_85 P, hd.o_86 P, hd.o_87 P, hd.o_88 P, hd.o_89 P, hd.o_90 P, hd.o_91 P, hd.o_92 P, hd.o_93 P, hd.o_94 P, hd.o_95 P, hd.o_96 P, hd.o_97 P, hd.o_98 P, hd.o_99 P, hd.o_100 P, hd.o_101 P, hd.o_102 P, hd.o_103 P, hd.o_104 P, hd.o_105 P, hd.o_106 P, hd.o_107 P, hd.o_108 P, hd.o_109 P, hd.o_110 P, hd.o_113 P, hd.o_114 P, hd.o_115 P, hd.o_116 P, hd.o_117 P, hd.o_118 P, hd.o_119 P, hd.o_120 P, hd.o_121 P, hd.o_122 P, hd.o_123 P, hd.o_124 P, hd.o_125 P, hd.o_126 P, hd.o_127 P, hd.o_128 P, hd.o_129 P, hd.o_130 P, hd.o_131 P, hd.o_132 P, hd.o_133 P, hd.o_134 P, hd.o_135 P, hd.o_136 P, hd.o_137 P, hd.o_138 P, hd.o_139 P, hd.o_140 P, hd.o_141 P, hd.o_142 P, hd.o_143 P, hd.o_144 P, hd.o_145 P, hd.o_146 P, hd.o_147 P, hd.o_148 P, hd.o_149 P, hd.o_150 P, hd.o_151 P, hd.o_152 P, hd.o_153 P, hd.o_154 P, hd.o_155 P, hd.o_156 P, hd.o_157 P, hd.o_158 P, hd.o_159 P, hd.o_160 P, hd.o_161 P, hd.o_162 P, hd.o_163 P, hd.o_164 P, hd.o_165 P, hd.o_166 P, hd.o_167 P, hd.o_168 P, hd.o_169 P, hd.o_172 P, hd.o_173 P, hd.o_174 P, hd.o_175 P, hd.o_176 P, hd.o_177 P, hd.o_178 P, hd.o_179 P, hd.o_180 P, hd.o_181 P, hd.o_182 P, hd.o_183 P, hd.o_184 P, hd.o_185 P, hd.o_186 P, hd.o_187 P, hd.o_188 P, hd.o_189 P, hd.o_190 P, hd.o_191 P, hd.o_192 P, hd.o_193 P, hd.o_194 P, hd.o_195 P, hd.o_196 P, hd.o_197 P, hd.o_198 P, hd.o_199 P, hd.o_200 P, hd.o_201 P, hd.o_202 P, hd.o_203 P, hd.o_204 P, hd.o_205 P, hd.o_206 P, hd.o_207 P, hd.o_208 P, hd.o_209 P, hd.o_210 P, hd.o_211 P, hd.o_212 P, hd.o_213 P, hd.o_214 P, hd.o_215 P, hd.o_216 P, hd.o_217 P, hd.o_218 P, hd.o_219 P, hd.o_220 P, hd.o_221 P, hd.o_222 P, hd.o_223 P, hd.o_224 P, hd.o_225 P, hd.o_226 P, hd.o_227 P, hd.o_228 P, hd.o_229 P, hd.o_230 P, hd.o_231 P, hd.o_232 P, hd.o_233 P, hd.o_234 P, hd.o_235 P, hd.o_236 P, hd.o_237 P, hd.o_238 P, hd.o_239 P, hd.o_240 P, hd.o_241 P, hd.o_242 P, hd.o_243 P, hd.o_244 P, hd.o_245 P, hd.o_246 P, hd.o_247 P, hd.o_248 P, hd.o_249 P, hd.o_250 P, hd.o_253 P, hd.o_254 P, hd.o_255 P, hd.o_256 P, hd.o_257 P, hd.o_258 P, hd.o_259 P, hd.o_260 P, hd.o_261 P, hd.o_262 P, hd.o_263 P, hd.o_264 P, hd.o_265 P, hd.o_266 P, hd.o_267 P, hd.o_268 P, hd.o_269 P, hd.o_270 P, hd.o_271 P, hd.o_272 P, hd.o_273 P, hd.o_274 P, hd.o_275 P, hd.o_276 P, hd.o_277 P, hd.o_278 P, hd.o_279 P, hd.o_280 P, hd.o_281 P, hd.o_282 P, hd.o_283 P, hd.o_284 P, hd.o_285 P, hd.o_286 P, hd.o_287 P, hd.o_288 P, hd.o_289 P, hd.o_290 P, hd.o_291 P, hd.o_292 P, hd.o_293 P, hd.o_294 P, hd.o_295 P, hd.o_296 P, hd.o_297 P, hd.o_298 P, hd.o_299 P, hd.o_300 P, hd.o_301 P, hd.o_302 P, hd.o_303 P, hd.o_304 P, hd.o_305 P, hd.o_306 P, hd.o_307 P, hd.o_308 P, hd.o_309 P, hd.o_310 P, hd.o_311 P, hd.o_312 P, hd.o_313 P, hd.o_314 P, hd.o_315 P, hd.o_316 P, hd.o_317 P, hd.o_318 P, hd.o_319 P, hd.o_320 P, hd.o_321 P, hd.o_322 P, hd.o_323 P, hd.o_324 P, hd.o_325 P, hd.o_326 P, hd.o_327 P, hd.o_328 P, hd.o_329 P, hd.o_330 P] } }
noncomputable def hd.env_41 : Env := { scope := PySem.Challenge.pw_pc0362_01.main.scope, locals := mainNs, globals := mainNs, cells := [], code := Value.ref 13, frame := some 14 }
def cutS : List Stmt → Nat → Nat → List Stmt
  | _ :: r, i + 1, n => cutS r i n
  | x :: r, 0, n + 1 => x :: cutS r 0 n
  | _, _, _ => []
noncomputable def hd.sts_49 : List Stmt := withList (cutS topS 0 2) [_, _] rfl fun l => l
noncomputable def hd.sts_72 : List Stmt := withList (cutS topS 2 10) [_, _, _, _, _, _, _, _, _, _] rfl fun l => l
noncomputable def hd.sts_111 : List Stmt := withList (cutS topS 12 3) [_, _, _] rfl fun l => l
noncomputable def hd.sts_170 : List Stmt := withList (cutS topS 15 1) [_] rfl fun l => l
noncomputable def hd.sts_251 : List Stmt := withList (cutS topS 16 13) [_, _, _, _, _, _, _, _, _, _, _, _, _] rfl fun l => l
abbrev hd.PW : Program := PySem.Challenge.pw_pc0362_01
noncomputable abbrev hd.cE : Code := Code.body (behindTheImports hd.PW) hd.env_41
abbrev hd.B0 : List Frame := [topFrame { line := 0, col := 0, endLine := 0, endCol := 0 }]
noncomputable abbrev hd.body5 : List Stmt := hd.sts_251 ++ []
noncomputable abbrev hd.body4 : List Stmt := hd.sts_170 ++ hd.body5
noncomputable abbrev hd.body3 : List Stmt := hd.sts_111 ++ hd.body4
noncomputable abbrev hd.body2 : List Stmt := hd.sts_72 ++ hd.body3
noncomputable abbrev hd.body1 : List Stmt := hd.sts_49 ++ hd.body2
theorem hd.l47 : ∀ w : World, (fun os => topGo treeTable hd.PW w 11 (some (Value.ref 6)) 12 { heap := boot_heap w.params, drawn := boot_drawn, toks := boot_toks, os := os } (topStub hd.PW)) = fun os => some ({ heap := hd.heap_46 w.params, toks := 187, os := os }, { cur := denote treeTable (.body hd.body1 hd.env_41), code := hd.cE, pos := { line := 0, col := 0, endLine := 0, endCol := 0 }, stack := hd.B0 }) := fun w => by kernel_rfl
theorem hd.l49 : ∀ w : World, (fun os => segRun treeTable hd.PW w 11 (some (Value.ref 6)) 1 1 { heap := hd.heap_46 w.params, toks := 187, os := os } (blockOf hd.body1 hd.env_41 hd.cE { line := 0, col := 0, endLine := 0, endCol := 0 } hd.B0)) = fun os => some (Flow.next, { tree := hd.tree_47 w.params, n := 15, life := { }, gens := { toList := [] }, drawn := { }, toks := 187, os := os : SharedT }.abs, hd.cE, { line := 0, col := 0, endLine := 0, endCol := 0 }) := fun w => by kernel_rfl
theorem hd.l72 : ∀ w : World, (fun os => segRunT treeTable hd.PW w 11 (some (Value.ref 6)) 1 238 { tree := hd.tree_47 w.params, n := 15, life := { }, gens := { toList := [] }, drawn := { }, toks := 187, os := os } (piecesOf hd.sts_49 hd.env_41 hd.cE { line := 0, col := 0, endLine := 0, endCol := 0 } hd.B0)) = fun os => some (Flow.next, { tree := hd.tree_71 w.params, n := 35, life := { }, gens := { toList := [] }, drawn := { }, toks := 218, os := os }, hd.cE, { line := 2, col := 0, endLine := 6, endCol := 30 }) := fun w => by kernel_rfl
theorem hd.l111 : ∀ w : World, (fun os => segRunT treeTable hd.PW w 11 (some (Value.ref 6)) 1 386 { tree := hd.tree_71 w.params, n := 35, life := { }, gens := { toList := [] }, drawn := { }, toks := 218, os := os } (piecesOf hd.sts_72 hd.env_41 hd.cE { line := 2, col := 0, endLine := 6, endCol := 30 } hd.B0)) = fun os => some (Flow.next, { tree := hd.tree_110 w.params, n := 71, life := { }, gens := { toList := [] }, drawn := { }, toks := 284, os := os }, hd.cE, { line := 19, col := 0, endLine := 22, endCol := 52 }) := fun w => by kernel_rfl
theorem hd.l170 : ∀ w : World, (fun os => segRunT treeTable hd.PW w 11 (some (Value.ref 6)) 1 384 { tree := hd.tree_110 w.params, n := 71, life := { }, gens := { toList := [] }, drawn := { }, toks := 284, os := os } (piecesOf hd.sts_111 hd.env_41 hd.cE { line := 19, col := 0, endLine := 22, endCol := 52 } hd.B0)) = fun os => some (Flow.next, { tree := hd.tree_169 w.params, n := 128, life := { }, gens := { toList := [] }, drawn := { }, toks := 357, os := os }, hd.cE, { line := 30, col := 0, endLine := 43, endCol := 24 }) := fun w => by kernel_rfl
theorem hd.l251 : ∀ w : World, (fun os => segRunT treeTable hd.PW w 11 (some (Value.ref 6)) 1 510 { tree := hd.tree_169 w.params, n := 128, life := { }, gens := { toList := [] }, drawn := { }, toks := 357, os := os } (piecesOf hd.sts_170 hd.env_41 hd.cE { line := 30, col := 0, endLine := 43, endCol := 24 } hd.B0)) = fun os => some (Flow.next, { tree := hd.tree_250 w.params, n := 207, life := { }, gens := { toList := [] }, drawn := { }, toks := 462, os := os }, hd.cE, { line := 44, col := 0, endLine := 90, endCol := 86 }) := fun w => by kernel_rfl
theorem hd.l331 : ∀ w : World, (fun os => segRunT treeTable hd.PW w 11 (some (Value.ref 6)) 1 373 { tree := hd.tree_250 w.params, n := 207, life := { }, gens := { toList := [] }, drawn := { }, toks := 462, os := os } (piecesOf hd.sts_251 hd.env_41 hd.cE { line := 44, col := 0, endLine := 90, endCol := 86 } hd.B0)) = fun os => some (Flow.next, { tree := hd.tree_330 w.params, n := 285, life := { }, gens := { toList := [] }, drawn := { }, toks := 569, os := os }, hd.cE, { line := 162, col := 0, endLine := 184, endCol := 15 }) := fun w => by kernel_rfl
theorem hd.l333 : ∀ w : World, (fun os => topRun treeTable hd.PW w 11 (some (Value.ref 6)) 2 { tree := hd.tree_330 w.params, n := 285, life := { }, gens := { toList := [] }, drawn := { }, toks := 569, os := os : SharedT }.abs (restOf [] hd.env_41 hd.cE { line := 162, col := 0, endLine := 184, endCol := 15 } hd.B0)) = fun os => some { heap := hd.heap_331 w.params, toks := 569, os := os } := fun w => by kernel_rfl
theorem hd.run (w : World) (os : OsState) : topRun treeTable hd.PW w 11 (some (Value.ref 6)) (12 + (1 + (238 + (386 + (384 + (510 + (373 + 2))))))) { heap := boot_heap w.params, drawn := boot_drawn, toks := boot_toks, os := os } (topStub hd.PW) = some { heap := hd.heap_331 w.params, toks := 569, os := os } := by
  have k0 := congrFun (hd.l333 w) os
  have k1 := piece_app (rest := []) (segRun_of (congrFun (hd.l331 w) os)) k0
  have k2 := piece_app (rest := hd.body5) (segRun_of (congrFun (hd.l251 w) os)) k1
  have k3 := piece_app (rest := hd.body4) (segRun_of (congrFun (hd.l170 w) os)) k2
  have k4 := piece_app (rest := hd.body3) (segRun_of (congrFun (hd.l111 w) os)) k3
  have k5 := piece_app (rest := hd.body2) (segRun_of (congrFun (hd.l72 w) os)) k4
  have k6 := piece_block (congrFun (hd.l49 w) os) k5
  exact go_top (congrFun (hd.l47 w) os) k6
end Mine
namespace Mine
theorem said_ok : PySem.Challenge.rw_pc0362_01.wellSaid = true := by kernel_rfl
abbrev hd.lv : List (Str × WData) := [(Str.ofString "EVERYBODY", WData.int 281474976710655)]
theorem addrs_ok : ∀ P, hd.addrs = (hd.heap_39 P).map (·.1) := fun P => by kernel_rfl
noncomputable abbrev hd.hook : Hook := kmHook hd.heap_39 hd.addrs addrs_ok [281]
theorem hd.opens : ∀ w : World, (fencedOpening treeTable hd.PW w 3898).map (fun s => (s.heap, s.gens, s.drawn, s.toks)) = some (boot_heap w.params, Array.mk [], boot_drawn, boot_toks) :=
  boot_open (p := hd.PW) (by kernel_rfl) (by rfl) (fun s => by kernel_rfl)
theorem hd.sized : ∀ w : World, ((boot_heap w.params).isNs mainGlobals && (Array.mk [] : Array GenState).size == 0, (boot_heap w.params).objs.size, (boot_heap w.params).nsMap mainGlobals "__annotations__") = (true, 11, some (Value.ref 6)) := fun w => by kernel_rfl
theorem hd.looks1 : ∀ w : World, (fun os => staticsOk (importedModules hd.PW.main.body) (boot_heap w.params) (hd.heap_331 w.params) && namesBound hd.PW (hd.heap_331 w.params) && gensDone ⟨hd.heap_331 w.params, Array.mk [], { }, 569, os⟩ && laidKept (boot_heap w.params) (hd.heap_331 w.params)) = fun _ : OsState => true := fun w => by kernel_rfl
theorem hd.looks2 : ∀ w : World, (fun os => openSeen hd.view_39 [Str.ofString "EVERYBODY"] (importedModules hd.PW.main.body) (fun s => xlAt hd.view_39 hd.lv s && recOk (RowW.records PySem.Challenge.rw_pc0362_01.row.toRowW) s) true ⟨hd.heap_331 w.params, Array.mk [], { }, 569, os⟩) = fun _ : OsState => openGood hd.view_39 [Str.ofString "EVERYBODY"] := fun w => by kernel_rfl
theorem hd.looks3 : ∀ w : World, (fun os => Hook.obs hd.hook ⟨hd.heap_331 w.params, Array.mk [], { }, 569, os⟩) = fun _ : OsState => Hook.val hd.hook w := fun w => by kernel_rfl
theorem left_ok : LeftO PySem.Challenge.pw_pc0362_01 hd.view_39 [Str.ofString "EVERYBODY"] (fun s => xlAt hd.view_39 hd.lv s && recOk (RowW.records PySem.Challenge.rw_pc0362_01.row.toRowW) s) (Hook.obs hd.hook) (Hook.val hd.hook) 3898 :=
  LeftO.of_pieces (H₀ := boot_heap) (H₁ := hd.heap_331) (gs₀ := Array.mk []) (gs₁ := Array.mk []) (d₀ := boot_drawn) (d₁ := { }) (k₀ := boot_toks) (k₁ := 569) (m₀ := 11) (ann := some (Value.ref 6)) hd.opens hd.sized hd.run (by rfl)
    fun w => funext fun os => looks_pair (congrFun (hd.looks1 w) os) (looks_pair (congrFun (hd.looks2 w) os) (congrFun (hd.looks3 w) os))
end Mine
namespace Mine

/-- the content of a key: a tuple of strs -/
abbrev Key := List Str
abbrev AL := List (Key × Int)
abbrev Ldg := List (Addr × Obj)

def look (al : AL) (k : Key) : Int := ((al.find? fun x => decide (x.1 = k)).map (·.2)).getD 0
def has (al : AL) (k : Key) : Bool := (al.find? fun x => decide (x.1 = k)).isSome
def put (al : AL) (k : Key) (v : Int) : AL := if has al k then al.map (fun x => if x.1 = k then (x.1, v) else x) else al ++ [(k, v)]

/-- values that are strs, by their texts -/
inductive StrsAre : List Value → List Str → Prop
  | nil : StrsAre [] []
  | cons {x : Str} {t : Tok} {vs : List Value} {xs : List Str} : StrsAre vs xs → StrsAre (.str x t :: vs) (x :: xs)

theorem StrsAre.length {vs : List Value} {xs : List Str} (h : StrsAre vs xs) : vs.length = xs.length := by
  induction h with
  | nil => rfl
  | cons _ ih => simp [ih]

theorem StrsAre.items {vs : List Value} {k : Key} (prog : Program) (w : World) (h : StrsAre vs k) : ItemsAre (PySem.strKind prog w) k vs := by
  induction h with
  | nil => exact .nil
  | cons _ ih => exact .cons (strKind_is prog w _ _) ih

/-- an object that is a tuple of strs -/
def KeyO (o : Obj) (k : Key) : Prop := ∃ vs n, o = { cls := .type "tuple", data := .seq (List.toArray vs) n } ∧ StrsAre vs k

abbrev TK (prog : Program) (w : World) : HeapKind prog w Key := tupleKind (PySem.strKind prog w)

theorem KeyO.at {prog : Program} {w : World} {h : Heap} {a : Addr} {o : Obj} {k : Key} (hk : KeyO o k) (ho : h.get? a = some o) : (TK prog w).is h k a := by
  obtain ⟨vs, n, rfl, hs⟩ := hk
  exact ⟨_, _, _, ho, rfl, rfl, hs.items prog w⟩

def KeysIn (nw : Ldg) (xs : List (Key × Addr × Value)) : Prop := ∀ x ∈ xs, ∃ o, (x.2.1, o) ∈ nw ∧ KeyO o x.1

inductive ValsAre : List (Key × Addr × Value) → AL → Prop
  | nil : ValsAre [] []
  | cons {k : Key} {a : Addr} {i : Int} {t : Tok} {xs : List (Key × Addr × Value)} {al : AL} : ValsAre xs al → ValsAre ((k, a, .int i t) :: xs) ((k, i) :: al)

theorem ValsAre.length {xs : List (Key × Addr × Value)} {al : AL} (h : ValsAre xs al) : xs.length = al.length := by
  induction h with
  | nil => rfl
  | cons _ ih => simp [ih]
theorem ValsAre.keys {xs : List (Key × Addr × Value)} {al : AL} (h : ValsAre xs al) : xs.map (·.1) = al.map (·.1) := by
  induction h with
  | nil => rfl
  | cons _ ih => simp [ih]
theorem ValsAre.append {xs ys : List (Key × Addr × Value)} {al bl : AL} (h : ValsAre xs al) (h' : ValsAre ys bl) : ValsAre (xs ++ ys) (al ++ bl) := by
  induction h with
  | nil => exact h'
  | cons _ ih => exact .cons ih

theorem ValsAre.at {xs : List (Key × Addr × Value)} {al : AL} (h : ValsAre xs al) (k : Key) :
    (atKey xs k = none ∧ (al.find? fun x => decide (x.1 = k)) = none) ∨ ∃ a i t, atKey xs k = some (a, .int i t) ∧ (al.find? fun x => decide (x.1 = k)) = some (k, i) := by
  induction h with
  | nil => exact .inl ⟨rfl, rfl⟩
  | @cons k' a i t xs al _ ih =>
    by_cases e : k' = k
    · subst e
      exact .inr ⟨a, i, t, by simp [atKey], by simp⟩
    · rcases ih with ⟨h1, h2⟩ | ⟨a', i', t', h1, h2⟩
      · exact .inl ⟨by simpa [atKey, e] using h1, by simpa [e] using h2⟩
      · exact .inr ⟨a', i', t', by simpa [atKey, e] using h1, by simpa [e] using h2⟩

theorem ValsAre.stored {xs : List (Key × Addr × Value)} {al : AL} (h : ValsAre xs al) (k : Key) (a : Addr) (v : Int) (t : Tok) :
    ValsAre (storedH xs k a (.int v t)) (put al k v) := by
  have mapped : ∀ {xs : List (Key × Addr × Value)} {al : AL}, ValsAre xs al → ValsAre (xs.map (putAt k (.int v t))) (al.map (fun x => if x.1 = k then (x.1, v) else x)) := by
    intro xs al h
    induction h with
    | nil => exact .nil
    | @cons k' a' i' t' xs al _ ih =>
      by_cases e : k' = k
      · simp only [List.map_cons, putAt, e, if_true]; exact .cons ih
      · simp only [List.map_cons, putAt, e, if_false]; exact .cons ih
  unfold storedH put has
  rcases h.at k with ⟨h1, h2⟩ | ⟨a', i', t', h1, h2⟩
  · rw [h1, h2]
    simp only [Option.isSome_none, Bool.false_eq_true, if_false]
    exact h.append (.cons .nil)
  · rw [h1, h2]
    simp only [Option.isSome_some, if_true]
    exact mapped h

theorem put_keys (al : AL) (k : Key) (v : Int) : (put al k v).map (·.1) = if has al k then al.map (·.1) else al.map (·.1) ++ [k] := by
  unfold put
  split
  · rw [List.map_map]
    refine List.map_congr_left fun x _ => ?_
    show (if x.1 = k then (x.1, v) else x).1 = x.1
    split <;> rfl
  · simp
theorem has_iff (al : AL) (k : Key) : has al k = true ↔ k ∈ al.map (·.1) := by
  unfold has
  rw [List.find?_isSome]
  simp
theorem put_nodup {al : AL} (h : (al.map (·.1)).Nodup) (k : Key) (v : Int) : ((put al k v).map (·.1)).Nodup := by
  rw [put_keys]
  split
  · exact h
  · rename_i hn
    rw [List.nodup_append]
    refine ⟨h, by simp, fun x hx y hy => ?_⟩
    simp only [List.mem_singleton] at hy
    subst hy
    rintro rfl
    exact hn ((has_iff al x).mpr hx)
theorem put_length (al : AL) (k : Key) (v : Int) : (put al k v).length ≤ al.length + 1 := by
  unfold put
  split
  · simp
  · simp
theorem put_length_ge (al : AL) (k : Key) (v : Int) : al.length ≤ (put al k v).length := by
  unfold put
  split
  · simp
  · simp

/-- a dict object: keys that are tuples of strs (their objects in the ledger), values that are ints -/
def CD (prog : Program) (w : World) (nw : Ldg) (o : Obj) (al : AL) : Prop :=
  ∃ xs es ep, o.ExactDict ∧ o.data = .dict es ep ∧ es.toList = xs.map (entryOfKey (TK prog w)) ∧ KeysIn nw xs ∧ ValsAre xs al ∧ (al.map (·.1)).Nodup

theorem KeysIn.mono {nw nw' : Ldg} {xs : List (Key × Addr × Value)} (h : KeysIn nw xs) (hs : ∀ p ∈ nw, p ∈ nw') : KeysIn nw' xs :=
  fun x hx => let ⟨o, h1, h2⟩ := h x hx; ⟨o, hs _ h1, h2⟩
/-- only the keys' objects count -/
theorem KeysIn.mono' {nw nw' : Ldg} {xs : List (Key × Addr × Value)} (h : KeysIn nw xs) (hs : ∀ p ∈ nw, p.2.cls = .type "tuple" → p ∈ nw') : KeysIn nw' xs :=
  fun x hx => let ⟨o, h1, h2⟩ := h x hx; ⟨o, hs _ h1 (by obtain ⟨_, _, rfl, _⟩ := h2; rfl), h2⟩
theorem CD.mono {prog : Program} {w : World} {nw nw' : Ldg} {o : Obj} {al : AL} (h : CD prog w nw o al) (hs : ∀ p ∈ nw, p.2.cls = .type "tuple" → p ∈ nw') : CD prog w nw' o al :=
  let ⟨xs, es, ep, a, b, c, d, e⟩ := h; ⟨xs, es, ep, a, b, c, d.mono' hs, e⟩
theorem CD.cls {prog : Program} {w : World} {nw : Ldg} {o : Obj} {al : AL} (h : CD prog w nw o al) : o.cls = .type "dict" := let ⟨_, _, _, a, _⟩ := h; a.1
theorem CD.empty {prog : Program} {w : World} {nw : Ldg} {o : Obj} (h : o.IsDictOf (PySem.strKind prog w) []) : CD prog w nw o [] := by
  obtain ⟨es, ep, h1, h2, _, h4, _⟩ := h
  refine ⟨[], es, ep, h1, h2, ?_, ?_, ValsAre.nil, List.nodup_nil⟩
  case refine_2 =>
    intro x hx
    cases hx
  cases hes : es.toList with
  | nil => rfl
  | cons x r => rw [hes] at h4; cases h4

theorem sub_refl {l : Ldg} : ∀ p ∈ l, p ∈ l := fun _ h => h
theorem sub_tail {l l' : Ldg} {x : Addr × Obj} (h : ∀ p ∈ l, p ∈ l') : ∀ p ∈ l, p ∈ x :: l' := fun p hp => .tail _ (h p hp)
theorem sub_tail' {l : Ldg} {x : Addr × Obj} : ∀ p ∈ l, p ∈ x :: l := fun _ hp => .tail _ hp
theorem sub_cons {l l' : Ldg} {x : Addr × Obj} (hx : x ∈ l') (h : ∀ p ∈ l, p ∈ l') : ∀ p ∈ x :: l, p ∈ l' := fun p hp => by
  rcases List.mem_cons.mp hp with rfl | hp
  · exact hx
  · exact h p hp
theorem sub_nil {l' : Ldg} : ∀ p ∈ ([] : Ldg), p ∈ l' := fun _ h => nomatch h
theorem sub_append {l₁ l₂ l' : Ldg} (h₁ : ∀ p ∈ l₁, p ∈ l') (h₂ : ∀ p ∈ l₂, p ∈ l') : ∀ p ∈ l₁ ++ l₂, p ∈ l' := fun p hp => (List.mem_append.mp hp).elim (h₁ p) (h₂ p)
theorem sub_left {l₁ l₂ l' : Ldg} (h : ∀ p ∈ l₁ ++ l₂, p ∈ l') : ∀ p ∈ l₁, p ∈ l' := fun p hp => h p (List.mem_append_left _ hp)
theorem sub_right {l₁ l₂ l' : Ldg} (h : ∀ p ∈ l₁ ++ l₂, p ∈ l') : ∀ p ∈ l₂, p ∈ l' := fun p hp => h p (List.mem_append_right _ hp)

section
variable {prog : Program} {w : World} {A : Around} {E : Value → Shared → Prop} {s : Shared} {h₀ : Heap} {L d ka : Addr} {m : Str → Option Value} {nw sg : Ldg} {o ko : Obj} {al : AL} {k : Key}

theorem CD.at (N : News h₀ L s.heap nw) (S : ∀ p ∈ sg, p ∈ nw) (hd : (d, o) ∈ nw) (h : CD prog w sg o al) : ∃ xs, s.heap.DictOfH (TK prog w) d xs ∧ ValsAre xs al := by
  obtain ⟨xs, es, ep, h1, h2, h3, h4, h5, h6⟩ := h
  refine ⟨xs, ⟨o, es, ep, (N _ hd).1, h1, h2, h3, fun x hx => ?_, by rw [h5.keys]; exact h6⟩, h5⟩
  obtain ⟨ob, hb, hk⟩ := h4 x hx
  exact hk.at (N _ (S _ hb)).1

theorem cd_method {pl : Sem Bool} {Q : Value × List Value → Shared → Prop} (N : News h₀ L s.heap nw) (hd : (d, o) ∈ nw) (C : CD prog w sg o al) (h : Q (.builtin "dict.get", [.ref d]) s) :
    wpAny (model prog w) A (getMethod (.ref d) "get" pl) Q E s := by
  have hc := C.cls
  obtain ⟨_, _, _, hx, _⟩ := C
  exact getMethod_builtin ⟨o, (N _ hd).1, hc⟩ PySem.F.plainAttrs_dict PySem.F.slot_dict_get PySem.F.type_dict_get (fun a e => by cases e; exact ⟨o, (N _ hd).1, hx.2.1⟩) h

theorem cd_get2 {tk : Tok} {Q : Value → Shared → Prop} (hu : A.units + 1 < cLine) (N : News h₀ L s.heap nw) (S : ∀ p ∈ sg, p ∈ nw) (hd : (d, o) ∈ nw) (C : CD prog w sg o al) (lo : (d == sysModules) = false) (hk : (ka, ko) ∈ nw) (hko : KeyO ko k)
    (h : ∀ t n, Q (.int (look al k) t) { s with toks := n }) :
    wpAny (model prog w) A (call (.builtin "dict.get") [.ref d, .ref ka, .int 0 tk]) Q E s := by
  obtain ⟨xs, hD, hv⟩ := C.at N S hd
  refine call_meetsIn PySem.F.slot_dict_get hD.typeIs PySem.F.entry_dict_get (PySem.F.args_dict_get_3 _ _ _) (meetsH_dict_get_default (TK prog w) d ka lo (.int 0 tk)) ⟨hu, k, xs, hko.at (N _ hk).1, hD, ?_⟩
  show Q _ _
  rcases hv.at k with ⟨h1, h2⟩ | ⟨a, i, t, h1, h2⟩
  · rw [h1]
    have e : look al k = 0 := by unfold look; rw [h2]; rfl
    have := h tk (s.toks + (TK prog w).draws k)
    rw [e] at this
    exact this
  · rw [h1]
    have e : look al k = i := by unfold look; rw [h2]; rfl
    have := h t (s.toks + (TK prog w).draws k)
    rw [e] at this
    exact this

theorem cd_getItem {Q : Value → Shared → Prop} (hu : A.units + 1 < cLine) (N : News h₀ L s.heap nw) (S : ∀ p ∈ sg, p ∈ nw) (hd : (d, o) ∈ nw) (C : CD prog w sg o al) (hk : (ka, ko) ∈ nw) (hko : KeyO ko k) (hin : has al k = true)
    (h : ∀ t n, Q (.int (look al k) t) { s with toks := n }) :
    wpAny (model prog w) A (getItem (.ref d) (.ref ka)) Q E s := by
  obtain ⟨xs, hD, hv⟩ := C.at N S hd
  rcases hv.at k with ⟨h1, h2⟩ | ⟨a, i, t, h1, h2⟩
  · unfold has at hin; rw [h2] at hin; cases hin
  · refine wpAny_getItem_heap (knd := TK prog w) hu (hko.at (N _ hk).1) hD h1 ?_
    have e : look al k = i := by unfold look; rw [h2]; rfl
    have := h t (s.toks + (TK prog w).draws k)
    rw [e] at this
    exact this

theorem cd_setItem {g : Obj → Ldg} {v : Int} {tv : Tok} {Q : Unit → Shared → Prop} (hu : A.units + 1 < cLine) (F : Fr h₀ L s.heap m) (N : News h₀ L s.heap nw) (S : ∀ p ∈ sg, p ∈ nw) (U : UpdF d o nw g) (C : CD prog w sg o al) (hk : (ka, ko) ∈ sg) (hko : KeyO ko k)
    (hlen : al.length ≤ 1000)
    (h : ∀ h' o' n, Fr h₀ L h' m → News h₀ L h' (g o') → CD prog w sg o' (put al k v) → Q () { s with heap := h', toks := n }) :
    wpAny (model prog w) A (setItem (.ref d) (.ref ka) (.int v tv)) Q E s := by
  have hcls := C.cls
  obtain ⟨pre, post, rfl, hg, h1, h2⟩ := U.split
  have hmem : (d, o) ∈ pre ++ (d, o) :: post := List.mem_append_right _ (.head _)
  have hdN := N _ hmem
  obtain ⟨xs₁, es₁, ep₁, hx1, hx2, hx3, hx4, hx5, hx6⟩ := C
  have hD : s.heap.DictOfH (TK prog w) d xs₁ := ⟨o, es₁, ep₁, hdN.1, hx1, hx2, hx3, fun x hx => by
    obtain ⟨ob, hb, hkk⟩ := hx4 x hx
    exact hkk.at (N _ (S _ hb)).1, by rw [hx5.keys]; exact hx6⟩
  refine wpAny_setItem_heap (knd := TK prog w) (hsz := by have := hx5.length; rw [sizeLine_eq]; omega) hu (hko.at (N _ (S _ hk)).1) hD fun h' hD' hs => ?_
  obtain ⟨o', es', ep', ho', hx', hd', he', _, hn'⟩ := hD'
  have N' : News h₀ L h' (g o') := by
    rw [hg]
    intro p hp
    rcases List.mem_append.mp hp with q | q
    · have P := N p (List.mem_append_left _ q)
      exact ⟨(hs.2 _ (h1 p q)).trans P.1, P.2⟩
    · rcases List.mem_cons.mp q with rfl | q
      · exact ⟨ho', hdN.2⟩
      · have P := N p (List.mem_append_right _ (.tail _ q))
        exact ⟨(hs.2 _ (h2 p q)).trans P.1, P.2⟩
  have F' : Fr h₀ L h' m := ⟨F.ns.sameBut hs hdN.2.1.symm, fun b x e => (hs.2 b (fun q => by rw [q, hdN.2.2] at e; cases e)).trans (F.keep b x e), F.above⟩
  refine h h' o' _ F' N' ⟨storedH xs₁ k ka (.int v tv), es', ep', hx', hd', he', ?_, hx5.stored k ka v tv, put_nodup hx6 k v⟩
  unfold storedH
  split
  · intro x hx
    obtain ⟨y, hy, rfl⟩ := List.mem_map.mp hx
    obtain ⟨ob, hb, hkk⟩ := hx4 y hy
    unfold putAt
    split <;> exact ⟨ob, hb, hkk⟩
  · intro x hx
    rcases List.mem_append.mp hx with hx | hx
    · exact hx4 x hx
    · simp only [List.mem_singleton] at hx
      subst hx
      exact ⟨ko, hk, hko⟩
end
def Tups (sg : Ldg) : Prop := ∀ p ∈ sg, p.2.cls = .type "tuple"
theorem Tups.nil : Tups [] := fun _ h => nomatch h
theorem Tups.append {a b : Ldg} (ha : Tups a) (hb : Tups b) : Tups (a ++ b) := fun p hp => (List.mem_append.mp hp).elim (ha p) (hb p)
theorem Tups.cons {a : Addr} {o : Obj} {l : Ldg} (ho : o.cls = .type "tuple") (h : Tups l) : Tups ((a, o) :: l) := fun p hp => by
  rcases List.mem_cons.mp hp with rfl | hp
  · exact ho
  · exact h p hp
theorem tups_ne {h₀ h : Heap} {L d : Addr} {nw sg : Ldg} {o : Obj} (N : News h₀ L h nw) (HT : Tups sg) (S : ∀ p ∈ sg, p ∈ nw) (hd : (d, o) ∈ nw) (hc : o.cls ≠ .type "tuple") : ∀ p ∈ sg, p.1 ≠ d := fun p hp e => by
  have h1 := (N _ (S p hp)).1
  have h2 := (N _ hd).1
  rw [e] at h1
  have h3 : p.2 = o := Option.some.inj (h1.symm.trans h2)
  exact hc (h3 ▸ HT p hp)
theorem sub_appl {l l' : Ldg} : ∀ p ∈ l, p ∈ l ++ l' := fun _ h => List.mem_append_left _ h
theorem sub_appr {l l' : Ldg} : ∀ p ∈ l', p ∈ l ++ l' := fun _ h => List.mem_append_right _ h
theorem CD.grow {prog : Program} {w : World} {sg sg' : Ldg} {o : Obj} {al : AL} (h : CD prog w sg o al) (hs : ∀ p ∈ sg, p ∈ sg') : CD prog w sg' o al := h.mono fun p hp _ => hs p hp
theorem strs_key {vs : List Value} {k : Key} {n : Nat} (h : StrsAre vs k) : KeyO { cls := .type "tuple", data := .seq (List.toArray vs) n } k := ⟨vs, n, rfl, h⟩
theorem news_sub {h₀ h : Heap} {L : Addr} {a b : Ldg} (N : News h₀ L h a) (S : ∀ p ∈ b, p ∈ a) : News h₀ L h b := fun p hp => N p (S p hp)
theorem updF_of {d : Addr} {o : Obj} : ∀ {pre post : Ldg}, (∀ p ∈ pre, p.1 ≠ d) → (∀ p ∈ post, p.1 ≠ d) → UpdF d o (pre ++ (d, o) :: post) (fun o' => pre ++ (d, o') :: post)
  | [], _, _, h => .head h
  | _ :: _, _, h, h' => .tail (h _ (.head _)) (updF_of (fun q hq => h q (.tail _ hq)) h')
/-- an updated ledger, by its pieces -/
theorem updF_perm {d : Addr} {o : Obj} {nw : Ldg} {g : Obj → Ldg} (U : UpdF d o nw g) : ∃ rest, (∀ p ∈ nw, p ∈ (d, o) :: rest) ∧ (∀ p ∈ (d, o) :: rest, p ∈ nw) ∧ (∀ o', ∀ p ∈ g o', p ∈ (d, o') :: rest) ∧ (∀ o', ∀ p ∈ (d, o') :: rest, p ∈ g o') ∧ (∀ p ∈ rest, p.1 ≠ d) := by
  obtain ⟨pre, post, rfl, hg, h1, h2⟩ := U.split
  refine ⟨pre ++ post, ?_, ?_, ?_, ?_, fun p hp => (List.mem_append.mp hp).elim (h1 p) (h2 p)⟩
  · intro p hp; simp only [List.mem_append, List.mem_cons] at hp ⊢; rcases hp with h | h | h <;> simp [h]
  · intro p hp; simp only [List.mem_append, List.mem_cons] at hp ⊢; rcases hp with h | h | h <;> simp [h]
  · intro o' p hp; rw [hg] at hp; simp only [List.mem_append, List.mem_cons] at hp ⊢; rcases hp with h | h | h <;> simp [h]
  · intro o' p hp; rw [hg]; simp only [List.mem_append, List.mem_cons] at hp ⊢; rcases hp with h | h | h <;> simp [h]
theorem CD.notAttr {prog : Program} {w : World} {sg : Ldg} {hs : Int} {x : Str} {t : Tok} {v : Value} {r : List DictEntry} {n : Nat} {al : AL} (h : CD prog w sg (dictOf (⟨hs, .str x t, v⟩ :: r) n) al) : False := by
  obtain ⟨xs, es, ep, _, h2, h3, _⟩ := h
  cases h2
  cases xs with
  | nil => cases h3
  | cons y ys =>
    have h3' : (⟨hs, .str x t, v⟩ :: r : List DictEntry) = entryOfKey (TK prog w) y :: ys.map (entryOfKey (TK prog w)) := h3
    have := (List.cons.inj h3').1
    have := congrArg DictEntry.key this
    cases this
theorem put_len {al : AL} {k : Key} {v : Int} {n : Nat} (h : al.length ≤ n) : (put al k v).length ≤ n + 1 := Nat.le_trans (put_length al k v) (Nat.succ_le_succ h)
theorem lt_of_allLt {d : Addr} : ∀ {l : Ldg}, AllLt d l → ∀ p ∈ l, p.1 < d
  | [], _, _, h => nomatch h
  | _ :: _, h, p, hp => by
    rcases List.mem_cons.mp hp with rfl | hp
    · exact h.1
    · exact lt_of_allLt h.2 p hp
theorem ne_of_obj {h₀ h : Heap} {L a b : Addr} {nw : Ldg} {oa ob : Obj} (N : News h₀ L h nw) (ha : (a, oa) ∈ nw) (hb : (b, ob) ∈ nw) (ne : oa ≠ ob) : a ≠ b := fun e => by
  have h1 := (N _ ha).1
  have h2 := (N _ hb).1
  have e' : (a, oa).1 = (b, ob).1 := e
  rw [e'] at h1
  exact ne (Option.some.inj (h1.symm.trans h2))
end Mine

namespace Mine
/-! enumerate over a tuple, turn by turn -/
section
variable {prog : Program} {w : World} {A : Around} {E : Value → Shared → Prop} {s : Shared}

theorem nextT_item {it t : Addr} {i : Nat} {items : Array Value} {x : Value} {Q : Value → Shared → Prop} (hit : s.heap.IsTupleIter it t i) (ht : s.heap.IsTuple t items) (hx : items[i]? = some x)
    (hQ : ∀ h', h'.IsTupleIter it t (i + 1) → Heap.SameBut it s.heap h' → Q x { s with heap := h' }) :
    wpAny (model prog w) A (Builtin.SmallTypes.nextOf (.ref it)) Q E s := by
  have hit0 := hit
  obtain ⟨o, ho, hc, hd⟩ := hit0
  obtain ⟨ot, hot, _, nt, hdt⟩ := ht
  unfold Builtin.SmallTypes.nextOf
  refine wpAny_bind (wpAny_callSpecial?_slot (name := Str.ofString "__next__") hit.typeIs PySem.F.slot_tuple_iterator_next
    (wpAny_call_entry PySem.F.slot_tuple_iterator_next hit.typeIs PySem.F.entry_tuple_iterator_next ?_ (PySem.F.args_tuple_iterator_next_1 _)))
  show wpAny _ _ (field (.ref it) 0 >>= _) _ _ s
  refine wpAny_bind (wpAny_field ho hd (x := .ref t) rfl ?_)
  show wpAny _ _ (if (Value.ref t == Value.none) = true then _ else _) _ _ s
  rw [if_neg (show ¬ ((Value.ref t == Value.none) = true) from Bool.false_ne_true)]
  refine wpAny_bind (wpAny_field ho hd (x := .int i 0) rfl ?_)
  refine wpAny_bind (wpAny_seqItems hot hdt ?_)
  simp only [Int.toNat_natCast, hx]
  refine wpAny_bind (wpAny_setField ho hd (by simp) (wpAny_pure ⟨x, rfl, wpAny_pure (hQ _ ⟨_, Heap.get?_update_self _ ho (Obj.isFreed_of_fields (Obj.data_mapFields hd _)), (Obj.cls_mapFields ..).trans hc, ?_⟩ (Heap.SameBut.update ..))⟩))
  rw [Obj.data_mapFields hd]; simp [rawInt]

theorem nextT_end {it t : Addr} {i : Nat} {items : Array Value} {Q : Value → Shared → Prop} (hh : A.handled = none) (hit : s.heap.IsTupleIter it t i) (ht : s.heap.IsTuple t items) (hx : items[i]? = none)
    (hE : ∀ h' e, Heap.ExtBut it s.heap h' → (∃ o, h'.get? e = some o ∧ o.cls = .type "StopIteration") → E (.ref e) { s with heap := h' }) :
    wpAny (model prog w) A (Builtin.SmallTypes.nextOf (.ref it)) Q E s := by
  have hit0 := hit
  obtain ⟨o, ho, hc, hd⟩ := hit0
  obtain ⟨ot, hot, _, nt, hdt⟩ := ht
  unfold Builtin.SmallTypes.nextOf
  refine wpAny_bind (wpAny_callSpecial?_slot (name := Str.ofString "__next__") hit.typeIs PySem.F.slot_tuple_iterator_next
    (wpAny_call_entry PySem.F.slot_tuple_iterator_next hit.typeIs PySem.F.entry_tuple_iterator_next ?_ (PySem.F.args_tuple_iterator_next_1 _)))
  show wpAny _ _ (field (.ref it) 0 >>= _) _ _ s
  refine wpAny_bind (wpAny_field ho hd (x := .ref t) rfl ?_)
  show wpAny _ _ (if (Value.ref t == Value.none) = true then _ else _) _ _ s
  rw [if_neg (show ¬ ((Value.ref t == Value.none) = true) from Bool.false_ne_true)]
  refine wpAny_bind (wpAny_field ho hd (x := .int i 0) rfl ?_)
  refine wpAny_bind (wpAny_seqItems hot hdt ?_)
  simp only [Int.toNat_natCast, hx]
  refine wpAny_bind (wpAny_rule (wpAny_bind (wpAny_setField ho hd (by simp) ?_)))
  refine wpAny_bind ?_
  simp only [newExc, newTuple]
  refine wpAny_bind (wpAny_newObj_type ?_ (by size_fits))
  refine wpAny_bind (m := firstArgMember _ _) (wpAny_of_eq (a := Value.none) (by first | rfl | (simp only [firstArgMember]; rfl)) ?_)
  refine wpAny_newObj_type ?_ (by size_fits)
  simp only [raiseNew]
  refine wpAny_bind (wpAny_handled ?_)
  first | rw [show A.in1.handled = none from hh] | rw [hh]
  refine wpAny_bind (wpAny_pure (wpAny_throw ?_))
  exact hE _ _ (((Heap.SameBut.update ..).extBut.push _).push _) ⟨_, Heap.get?_push_size _ rfl, rfl⟩

theorem enumT_item {e it l : Addr} {i : Nat} {items : Array Value} {x old : Value} {Q : Option Value → Shared → Prop}
    (he : IsEnum s.heap e it i old) (hit : s.heap.IsTupleIter it l i) (hl : s.heap.IsTuple l items) (hx : items[i]? = some x) (hne : e ≠ it)
    (hQ : ∀ h', IsEnumOut h' e it ((i : Int) + 1) x s.heap.objs.size → h'.IsTupleIter it l (i + 1) →
      h'.get? s.heap.objs.size = some { cls := .type "tuple", data := .seq #[.int i s.toks, x] } →
      (∀ b o, b ≠ e → b ≠ it → s.heap.get? b = some o → h'.get? b = some o) → Q (some (.ref s.heap.objs.size)) { s with heap := h', toks := s.toks + 1 }) :
    wpAny (model prog w) A (pyNext (.ref e)) Q E s := by
  have hT : s.TypeIs (.ref e) "enumerate" := ⟨_, he, rfl⟩
  unfold pyNext
  refine wpAny_bind (wpAny_attempt (wpAny_callSpecial?_slot (name := Str.ofString "__next__") hT PySem.F.slot_enumerate_next
    (wpAny_call_entry PySem.F.slot_enumerate_next hT PySem.F.entry_enumerate_next ?_ (PySem.F.args_enumerate_next_1 _))))
  obtain ⟨hp, g, d, tk, os⟩ := s
  show wpAny _ _ (field (.ref e) 2 >>= _) _ _ _
  refine wpAny_bind (wpAny_field he rfl (x := .ref it) rfl ?_)
  refine wpAny_bind (nextT_item hit hl hx fun h₁ hit₁ hs₁ => ?_)
  have he₁ : IsEnum h₁ e it i old := (hs₁.2 e hne).trans he
  refine wpAny_bind (wpAny_field (s := ⟨h₁, g, d, tk, os⟩) he₁ rfl (x := rawInt i) rfl ?_)
  refine wpAny_bind (wpAny_field (s := ⟨h₁, g, d, tk, os⟩) he₁ rfl (x := .none) rfl ?_)
  show wpAny _ _ (mkInt i >>= _) _ _ ⟨h₁, g, d, tk, os⟩
  refine wpAny_bind (wpAny_mkInt ?_)
  refine wpAny_bind (wpAny_setField_rec (s := ⟨h₁, g, d, tk + 1, os⟩) he₁ (by simp) fun h₂ he₂ hs₂ => ?_)
  refine wpAny_bind (wpAny_setField_rec (s := ⟨h₂, g, d, tk + 1, os⟩) he₂ (by simp) fun h₃ he₃ hs₃ => ?_)
  have he₃' : IsEnum h₃ e it ((i : Int) + 1) old := he₃
  refine wpAny_bind (wpAny_newTuple ?_)
  have hel : e < hp.objs.size := Heap.lt_size he
  have hsz : h₃.objs.size = hp.objs.size := by
    have e1 : h₁.objs.size = hp.objs.size := hs₁.1
    have e2 : h₂.objs.size = h₁.objs.size := hs₂.1
    have e3 : h₃.objs.size = h₂.objs.size := hs₃.1
    omega
  have he₄ : IsEnum (h₃.push { cls := .type "tuple", data := .seq #[.int i tk, x] }) e it ((i : Int) + 1) old := Heap.get?_push_of_some _ he₃'
  have ht₄ : (h₃.push { cls := .type "tuple", data := .seq #[.int i tk, x] }).get? hp.objs.size = some { cls := .type "tuple", data := .seq #[.int i tk, x] } := by rw [← hsz]; exact Heap.get?_push_size _ rfl
  have hk₄ : ∀ b o, b ≠ e → b ≠ it → hp.get? b = some o → (h₃.push { cls := .type "tuple", data := .seq #[.int i tk, x] }).get? b = some o := fun b o hbe hbi hb =>
    Heap.get?_push_of_some _ (hs₃.extBut b o hbe (hs₂.extBut b o hbe (hs₁.extBut b o hbi hb)))
  have hit₄ : (h₃.push { cls := .type "tuple", data := .seq #[.int i tk, x] }).IsTupleIter it l (i + 1) := by
    obtain ⟨o, ho, r⟩ := (hit₁.extBut hs₂.extBut (Ne.symm hne)).extBut hs₃.extBut (Ne.symm hne)
    exact ⟨o, Heap.get?_push_of_some _ ho, r⟩
  show wpAny _ _ (Builtin.SmallTypes.ownedTupleIsFree (.ref e) >>= _) _ _ ⟨h₃.push { cls := .type "tuple", data := .seq #[.int i tk, x] }, g, d, tk + 1, os⟩
  rw [hsz]
  generalize h₃.push { cls := .type "tuple", data := .seq #[.int i tk, x] } = h₄ at he₄ ht₄ hk₄ hit₄
  refine wpAny_bind ?_
  unfold Builtin.SmallTypes.ownedTupleIsFree
  refine wpAny_bind (wpAny_field (s := ⟨h₄, g, d, tk + 1, os⟩) he₄ rfl (x := .none) rfl (wpAny_pure ?_))
  simp only [if_true]
  refine wpAny_bind (wpAny_rule ?_)
  refine wpAny_bind (wpAny_field (s := ⟨h₄, g, d, tk + 1, os⟩) he₄ rfl (x := old) rfl ?_)
  refine wpAny_bind (wpAny_setField_rec (s := ⟨h₄, g, d, tk + 1, os⟩) he₄ (by simp) fun h₅ he₅ hs₅ => ?_)
  refine wpAny_bind ?_
  unfold Builtin.SmallTypes.ownedTupleHandOut
  refine wpAny_bind (wpAny_setField_rec (s := ⟨h₅, g, d, tk + 1, os⟩) he₅ (by simp) fun h₆ he₆ hs₆ => ?_)
  refine wpAny_setField_rec (s := ⟨h₆, g, d, tk + 1, os⟩) he₆ (by simp) fun h₇ he₇ hs₇ => ?_
  refine wpAny_bind (wpAny_letGo (wpAny_pure ⟨_, rfl, wpAny_pure (hQ h₇ he₇ ?_ ?_ ?_)⟩))
  · exact ((hit₄.extBut (Heap.SameBut.extBut hs₅) (Ne.symm hne)).extBut (Heap.SameBut.extBut hs₆) (Ne.symm hne)).extBut (Heap.SameBut.extBut hs₇) (Ne.symm hne)
  · exact (Heap.SameBut.extBut hs₇) _ _ (Nat.ne_of_gt hel) ((Heap.SameBut.extBut hs₆) _ _ (Nat.ne_of_gt hel) ((Heap.SameBut.extBut hs₅) _ _ (Nat.ne_of_gt hel) ht₄))
  · exact fun b o hbe hbi hb => (Heap.SameBut.extBut hs₇) b o hbe ((Heap.SameBut.extBut hs₆) b o hbe ((Heap.SameBut.extBut hs₅) b o hbe (hk₄ b o hbe hbi hb)))

theorem enumT_end {e it l : Addr} {i : Nat} {items : Array Value} {old : Value} {Q : Option Value → Shared → Prop} (hh : A.handled = none)
    (he : IsEnum s.heap e it i old) (hit : s.heap.IsTupleIter it l i) (hl : s.heap.IsTuple l items) (hx : items[i]? = none)
    (hQ : ∀ h', Heap.ExtBut it s.heap h' → Q none { s with heap := h' }) : wpAny (model prog w) A (pyNext (.ref e)) Q E s := by
  have hT : s.TypeIs (.ref e) "enumerate" := ⟨_, he, rfl⟩
  unfold pyNext
  refine wpAny_bind (wpAny_attempt (wpAny_callSpecial?_slot (name := Str.ofString "__next__") hT PySem.F.slot_enumerate_next
    (wpAny_call_entry PySem.F.slot_enumerate_next hT PySem.F.entry_enumerate_next ?_ (PySem.F.args_enumerate_next_1 _))))
  show wpAny _ _ (field (.ref e) 2 >>= _) _ _ _
  refine wpAny_bind (wpAny_field he rfl (x := .ref it) rfl ?_)
  refine wpAny_bind (nextT_end hh hit hl hx fun h' x he' hx' => ?_)
  obtain ⟨o, ho, hc⟩ := hx'
  refine wpAny_bind (wpAny_isInstance (T := "StopIteration") (b := true) ⟨o, ho, hc⟩ isSubtype_stop ?_)
  exact wpAny_pure (hQ _ he')

theorem meets_enumT (l : Addr) (items : Array Value) (n : Nat) (dct : Option Addr) (sl : Array (Option Value)) :
    Meets (Builtin.«enumerate.__new__» ⟨[.type "enumerate", .ref l], []⟩) (fun _ R s => s.heap.get? l = some { cls := .type "tuple", dict := dct, data := .seq items n, slots := sl } ∧
      R (.ok (.ret (.ref (s.heap.push { cls := .type "tuple_iterator", data := .fields #[.ref l, .int 0 0] }).objs.size)))
        { s with heap := (s.heap.push { cls := .type "tuple_iterator", data := .fields #[.ref l, .int 0 0] }).push { cls := .type "enumerate", data := .fields #[.none, .bool false, .ref s.heap.objs.size, rawInt 0, .none, .none] } }) :=
  .of_wp fun prog w A R s h => by
    obtain ⟨hp, g, d, tk, os⟩ := s; obtain ⟨hl, h⟩ := h
    have hsub := sub_enumerate
    have hL : Heap.IsTuple (Shared.heap ⟨hp, g, d, tk, os⟩) l items := ⟨_, hl, rfl, n, rfl⟩
    wp_walk using AutoSeq1.wpAny_loadPart' hl
    refine wpAny_stack_any fun st => wpAny_pure ?_
    split
    · rename_i c _ _ _ _ _
      cases (c == Value.type "enumerate")
      · wp_walk using AutoSeq1.wpAny_loadPart' hl, wpAny_pyIter_tuple hL
        exact ⟨_, rfl, h⟩
      · wp_walk using AutoSeq1.wpAny_loadPart' hl, wpAny_pyIter_tuple hL
        exact ⟨_, rfl, h⟩
    · wp_walk using AutoSeq1.wpAny_loadPart' hl, wpAny_pyIter_tuple hL
      exact ⟨_, rfl, h⟩

theorem call_enumT {l : Addr} {items : Array Value} {Q : Value → Shared → Prop} (hL : s.heap.IsTuple l items)
    (h : ∀ h', IsEnum h' (s.heap.objs.size + 1) s.heap.objs.size 0 .none → h'.IsTupleIter s.heap.objs.size l 0 →
      (∀ b o, s.heap.get? b = some o → h'.get? b = some o) → Q (.ref (s.heap.objs.size + 1)) { s with heap := h' }) :
    wpAny (model prog w) A (call (.type "enumerate") [.ref l]) Q E s := by
  obtain ⟨⟨c, dct, dt, sl⟩, hl, hc, n, hd⟩ := hL
  replace hc : c = .type "tuple" := hc
  replace hd : dt = .seq items n := hd
  subst hc hd
  refine callType_new PySem.F.called_enumerate (by decide) (PySem.F.typeCall_enumerate_1 _) (PySem.F.newCall_enumerate_1 _) (fun obj => PySem.F.args_object_init_2 obj _) PySem.F.entry_enumerate_new
    (meets_enumT l items n dct sl) ⟨hl, ?_⟩
  have hz : (s.heap.push { cls := .type "tuple_iterator", data := .fields #[.ref l, .int 0 0] }).objs.size = s.heap.objs.size + 1 := Heap.size_push ..
  show _ ∧ _
  rw [hz]
  have he : IsEnum ((s.heap.push { cls := .type "tuple_iterator", data := .fields #[.ref l, .int 0 0] }).push
      { cls := .type "enumerate", data := .fields #[.none, .bool false, .ref s.heap.objs.size, rawInt 0, .none, .none] }) (s.heap.objs.size + 1) s.heap.objs.size 0 .none := by
    have := Heap.get?_push_size (s.heap.push { cls := .type "tuple_iterator", data := .fields #[.ref l, .int 0 0] })
      (o := { cls := .type "enumerate", data := .fields #[.none, .bool false, .ref s.heap.objs.size, rawInt 0, .none, .none] }) rfl
    rw [hz] at this; exact this
  exact ⟨⟨_, he, rfl⟩, h _ he ⟨_, Heap.get?_push_of_some _ (Heap.get?_push_size _ rfl), rfl, rfl⟩ fun b o x => Heap.get?_push_of_some _ (Heap.get?_push_of_some _ x)⟩
end

/-- a turn's end: REST says what is asked of the turns that are left -/
def EEnd (h₀ : Heap) (env : Env) (led : Ldg) (Q : Flow → Shared → Prop) (s : Shared) (REST : (Str → Option Value) → Prop) (f : Flow) (s₃ : Shared) : Prop := match f with
  | .ret v => Q (.ret v) s₃
  | .brk => Q .next s₃
  | _ => ∃ h tk m', s₃ = { s with heap := h, toks := tk } ∧ Fr h₀ env.locals h m' ∧ News h₀ env.locals h led ∧ REST m'
/-- what is asked of the turns that are left: an item (i, v) each; e, it: the iterator's two objects -/
def ERest (prog : Program) (w : World) (A : Around) (E : Value → Shared → Prop) (h₀ : Heap) (env : Env) (nw : Ldg) (target : Expr) (body : List Stmt) (Q : Flow → Shared → Prop) (s : Shared) (e it : Addr) : Nat → List Value → (Str → Option Value) → Prop
  | _, [], m => ∀ h tk, Fr h₀ env.locals h m → News h₀ env.locals h nw → Q .next { s with heap := h, toks := tk }
  | i, v :: r, m => ∀ T t h tk eo io, Fr h₀ env.locals h m → News h₀ env.locals h ((e, eo) :: (it, io) :: nw) → IsTup h T #[.int (i : Int) t, v] →
      wpAny (model prog w) A (assign target env (.ref T)) (fun _ s₂ => wpAny (model prog w) A (execs body env)
        (EEnd h₀ env ((e, eo) :: (it, io) :: nw) Q s (ERest prog w A E h₀ env nw target body Q s e it (i + 1) r)) E s₂) E
        { s with heap := h, toks := tk }

section
variable {prog : Program} {w : World} {A : Around} {E : Value → Shared → Prop} {s : Shared} {h₀ : Heap} {env : Env} {nw : Ldg} {elts : List Expr} {k : Nat} {pos : Pos} {body : List Stmt} {Q : Flow → Shared → Prop} {m : Str → Option Value} {l : Addr} {vs : List Value}

theorem for_enumT (hh : A.handled = none) (hl : h₀.IsTuple l vs.toArray) (F : Fr h₀ env.locals s.heap m) (N : News h₀ env.locals s.heap nw) (hE : PassesOwn (model prog w) A env E)
    (h : ∀ e it, (∀ p ∈ nw, p.1 < it) → it < e → ERest prog w A E h₀ env nw (.Tuple elts k pos) body Q s e it 0 vs m) :
    wpAny (model prog w) A (call (.type "enumerate") [.ref l]) (fun xv s₁ => wpAny (model prog w) A (pyIter xv) (fun iv s₂ =>
      codeAny (model prog w) A (.forLoop (.Tuple elts k pos) iv body [] env) (fun r s' => match r with | .ok f => Q f s' | .error e => cameBackBy (model prog w) A env E e s') s₂) E s₁) E s := by
  have hls : ∀ {h' : Heap}, (∀ b o, h₀.get? b = some o → h'.get? b = some o) → h'.IsTuple l vs.toArray := fun k => let ⟨o, ho, r⟩ := hl; ⟨o, k _ _ ho, r⟩
  obtain ⟨ol, hol, _⟩ := id hl
  refine call_enumT (hls F.keep) fun h' hE' hI hk => ?_
  refine wpAny_pyIter_enum hE' ?_
  have hsz : ∀ b o, h₀.get? b = some o → b < s.heap.objs.size := fun b o q => Heap.lt_size (F.keep b o q)
  have hLs : env.locals < s.heap.objs.size := F.ns.lt
  have none1 : h₀.get? (s.heap.objs.size + 1) = none := by
    cases q : h₀.get? (s.heap.objs.size + 1) with
    | none => rfl
    | some o => exact absurd (hsz _ _ q) (by simp)
  have none0 : h₀.get? s.heap.objs.size = none := by
    cases q : h₀.get? s.heap.objs.size with
    | none => rfl
    | some o => exact absurd (hsz _ _ q) (by simp)
  have hnwlt : ∀ p ∈ nw, p.1 < s.heap.objs.size := fun p hp => Heap.lt_size (N p hp).1
  have R0 := h (s.heap.objs.size + 1) s.heap.objs.size hnwlt (Nat.lt_succ_self _)
  generalize s.heap.objs.size = it at *
  replace hLs := ltN hLs
  replace hnwlt : ∀ p ∈ nw, @LT.lt Nat _ p.1 it := hnwlt
  refine codeAny_forLoop_any
    (fun n s' => ∃ h' tk m' i old, s' = { s with heap := h', toks := tk } ∧ IsEnum h' (it + 1) it ((i : Nat) : Int) old ∧ h'.IsTupleIter it l i ∧ Fr h₀ env.locals h' m' ∧ News h₀ env.locals h' nw ∧
      i ≤ vs.length ∧ n = vs.length + 1 - i ∧ ERest prog w A E h₀ env nw (.Tuple elts k pos) body Q s (it + 1) it i (vs.drop i) m') ?_ (vs.length + 1)
    ⟨h', s.toks, m, 0, .none, rfl, hE', hI, F.keeps hk, fun p hp => ⟨hk _ _ (N p hp).1, (N p hp).2⟩, Nat.zero_le _, rfl, by rw [List.drop_zero]; exact R0⟩
  rintro n s' ⟨h', tk, m', i, old, rfl, hE', hI, F', N', hi, rfl, R⟩
  by_cases hlt : i < vs.length
  · have hx : (vs.toArray)[i]? = some vs[i] := by simp [hlt]
    have hd : vs.drop i = vs[i] :: vs.drop (i + 1) := List.drop_eq_getElem_cons hlt
    rw [hd] at R
    refine enumT_item (s := { s with heap := h', toks := tk }) hE' hI (hls F'.keep) hx (neN (by omega)) fun h₁ hO hI₁ hT₁ hk₁ => ?_
    have hel := ltN (Heap.lt_size hE')
    have hT₁' : h₁.get? h'.objs.size = some { cls := .type "tuple", data := .seq #[.int i tk, vs[i]] } := hT₁
    refine wpAny_letOwnedTupleGo_enum (s := { s with heap := h₁, toks := tk + 1 }) hO fun h₂ hE₂ hs₂ => ?_
    have hs₂' : Heap.SameBut (it + 1) h₁ h₂ := hs₂
    have hk₂ : ∀ b o, b ≠ it + 1 → b ≠ it → h'.get? b = some o → h₂.get? b = some o := fun b o h1 h2 q => (hs₂'.2 b h1).trans (hk₁ b o h1 h2 q)
    have F₂ : Fr h₀ env.locals h₂ m' := ⟨F'.ns.at' fun o q => hk₂ _ o (neN (by omega)) (neN (by omega)) q, fun b o q => hk₂ b o (fun z => by rw [z, none1] at q; cases q) (fun z => by rw [z, none0] at q; cases q) (F'.keep b o q), F'.above⟩
    have hI₂ : h₂.IsTupleIter it l (i + 1) := hI₁.extBut hs₂'.extBut (neN (by omega))
    obtain ⟨io, hio, hioc, hiod⟩ := id hI₂
    have N₂ : News h₀ env.locals h₂ ((it + 1, { cls := .type "enumerate", data := .fields #[.none, .bool false, .ref it, rawInt ((i : Int) + 1), .none, vs[i]] }) :: (it, io) :: nw) := by
      intro p hp
      rcases List.mem_cons.mp hp with rfl | hp
      · exact ⟨hE₂, neN (by show it + 1 ≠ env.locals; omega), none1⟩
      rcases List.mem_cons.mp hp with rfl | hp
      · exact ⟨hio, neN (by show it ≠ env.locals; omega), none0⟩
      · have := hnwlt p hp
        exact ⟨hk₂ _ _ (neN (by omega)) (neN (by omega)) (N' p hp).1, (N' p hp).2⟩
    have hT₂ : IsTup h₂ h'.objs.size #[.int (i : Int) tk, vs[i]] := ⟨_, (hs₂'.2 _ (neN (by omega))).trans hT₁', rfl, 0, rfl⟩
    have step := R h'.objs.size tk h₂ (tk + 1) _ io F₂ N₂ hT₂
    refine wpAny_mono (wpAny_passesOwn hE step) (fun _ s₂ q => wpAny_mono (wpAny_passesOwn hE q) (fun f s₃ q => ?_) fun _ _ e => e) fun _ _ e => e
    cases f with
    | ret v => exact q
    | brk => exact q
    | next =>
      obtain ⟨h₃, tk₃, m₃, rfl, F₃, N₃, R₃⟩ := q
      refine ⟨vs.length + 1 - (i + 1), by omega, h₃, tk₃, m₃, i + 1, vs[i], rfl, ?_, ⟨io, (N₃ _ (.tail _ (.head _))).1, hioc, hiod⟩, F₃, fun p hp => N₃ p (.tail _ (.tail _ hp)), hlt, rfl, R₃⟩
      have := (N₃ _ (.head _)).1
      rw [show (((i + 1 : Nat) : Int)) = (i : Int) + 1 from by omega]
      exact this
    | cont =>
      obtain ⟨h₃, tk₃, m₃, rfl, F₃, N₃, R₃⟩ := q
      refine ⟨vs.length + 1 - (i + 1), by omega, h₃, tk₃, m₃, i + 1, vs[i], rfl, ?_, ⟨io, (N₃ _ (.tail _ (.head _))).1, hioc, hiod⟩, F₃, fun p hp => N₃ p (.tail _ (.tail _ hp)), hlt, rfl, R₃⟩
      have := (N₃ _ (.head _)).1
      rw [show (((i + 1 : Nat) : Int)) = (i : Int) + 1 from by omega]
      exact this
  · have hin : i = vs.length := by omega
    subst hin
    rw [List.drop_length] at R
    have hx : (vs.toArray)[vs.length]? = none := by simp
    refine enumT_end (s := { s with heap := h', toks := tk }) hh hE' hI (hls F'.keep) hx fun h₁ hk₁ => wpAny_execs_nil ?_
    have hk₁' : Heap.ExtBut it h' h₁ := hk₁
    refine R h₁ tk ⟨F'.ns.at' fun o q => hk₁' _ o (neN (by omega)) q, fun b o q => hk₁' b o (fun z => by rw [z, none0] at q; cases q) (F'.keep b o q), F'.above⟩ fun p hp => ?_
    have := hnwlt p hp
    exact ⟨hk₁' _ _ (neN (by omega)) (N' p hp).1, (N' p hp).2⟩
end
section
variable {prog : Program} {w : World} {A : Around} {E : Value → Shared → Prop} {s : Shared} {h₀ : Heap} {env : Env} {nw : Ldg} {target : Expr} {body : List Stmt} {Q : Flow → Shared → Prop} {m : Str → Option Value} {e it : Addr} {i : Nat} {v : Value} {r : List Value}
theorem ERest.more (h : ∀ T t h tk eo io, Fr h₀ env.locals h m → News h₀ env.locals h ((e, eo) :: (it, io) :: nw) → IsTup h T #[.int (i : Int) t, v] →
      wpAny (model prog w) A (assign target env (.ref T)) (fun _ s₂ => wpAny (model prog w) A (execs body env)
        (EEnd h₀ env ((e, eo) :: (it, io) :: nw) Q s (ERest prog w A E h₀ env nw target body Q s e it (i + 1) r)) E s₂) E
        { s with heap := h, toks := tk }) : ERest prog w A E h₀ env nw target body Q s e it i (v :: r) m := h
theorem EEnd.ret {led : Ldg} {REST : (Str → Option Value) → Prop} {v : Value} {s₃ : Shared} (h : Q (.ret v) s₃) : EEnd h₀ env led Q s REST (.ret v) s₃ := h
theorem EEnd.next {led : Ldg} {REST : (Str → Option Value) → Prop} {h : Heap} {tk : Nat} {m' : Str → Option Value} (F : Fr h₀ env.locals h m') (N : News h₀ env.locals h led) (R : REST m') : EEnd h₀ env led Q s REST .next { s with heap := h, toks := tk } := ⟨h, tk, m', rfl, F, N, R⟩
theorem ERest.none (h : ∀ h tk, Fr h₀ env.locals h m → News h₀ env.locals h nw → Q .next { s with heap := h, toks := tk }) : ERest prog w A E h₀ env nw target body Q s e it i [] m := h
theorem tupK {K : Frag} {h : Heap} {l : Addr} {vs : List Value} {n : Nat} (X : K.In h) (e : K.lookup l = some { cls := .type "tuple", data := .seq (List.toArray vs) n }) : h.IsTuple l vs.toArray := ⟨_, X _ _ e, rfl, _, rfl⟩
end
def Stopped (P : Prop) : Prop := P
theorem stopHere {P : Prop} (h : Stopped P) : P := h
end Mine

namespace Mine
/-! the plain law: what the counters tell, by the rows that have passed -/
def sortS (x : Int) : Str := if x = 281474976710655 then Str.ofString "broadcast" else if Builtin.bitAnd (x.fdiv (2 ^ Int.toNat 40)) 1 = 1 then Str.ofString "group" else Str.ofString "single"
def classS (x : Int) : Str := if x ≤ 64 then Str.ofString "64" else if x ≤ 127 then Str.ofString "65 to 127" else if x ≤ 255 then Str.ofString "128 to 255" else if x ≤ 511 then Str.ofString "256 to 511" else if x ≤ 1023 then Str.ofString "512 to 1023" else if x ≤ 1518 then Str.ofString "1024 to 1518" else Str.ofString "more"

inductive Row where
  | drop (way why : Str)
  | frame (way : Str) (target size : Int)
def Row.names : Row → AL
  | .drop way why => [([way, Str.ofString "drops"], 1), ([way, Str.ofString "drop", why], 1)]
  | .frame way target size => [([way, Str.ofString "frames"], 1), ([way, Str.ofString "octets"], size), ([way, sortS target], 1), ([way, Str.ofString "size", classS size], 1)]
def bump (M : Int) (al : AL) (k : Key) (many : Int) : AL := put al k ((look al k + many).fmod M)
def bumps (M : Int) (al : AL) (ps : AL) : AL := ps.foldl (fun al p => bump M al p.1 p.2) al
def countsFrom (M : Int) (al : AL) (rows : List Row) : AL := rows.foldl (fun al r => bumps M al r.names) al
def counts (M : Int) (rows : List Row) : AL := countsFrom M [] rows
theorem counts_snoc (M : Int) (rows : List Row) (r : Row) : counts M (rows ++ [r]) = bumps M (counts M rows) r.names := by
  unfold counts countsFrom
  rw [List.foldl_append]
  rfl
theorem countsFrom_cons (M : Int) (al : AL) (r : Row) (rows : List Row) : countsFrom M al (r :: rows) = countsFrom M (bumps M al r.names) rows := rfl

theorem bump_length (M : Int) (al : AL) (k : Key) (v : Int) : (bump M al k v).length ≤ al.length + 1 := put_length _ _ _
theorem bumps_length (M : Int) : ∀ (ps al : AL), (bumps M al ps).length ≤ al.length + ps.length
  | [], al => Nat.le_refl _
  | p :: ps, al => by
    have h1 := bump_length M al p.1 p.2
    have h2 := bumps_length M ps (bump M al p.1 p.2)
    show (bumps M (bump M al p.1 p.2) ps).length ≤ _
    rw [List.length_cons]
    omega
theorem names_length (r : Row) : r.names.length ≤ 4 := by cases r <;> simp [Row.names]
theorem countsFrom_length (M : Int) : ∀ (rows : List Row) (al : AL), (countsFrom M al rows).length ≤ al.length + 4 * rows.length
  | [], al => Nat.le_refl _
  | r :: rows, al => by
    have h1 := bumps_length M r.names al
    have h2 := countsFrom_length M rows (bumps M al r.names)
    have h3 := names_length r
    rw [countsFrom_cons, List.length_cons]
    omega
theorem counts_length (M : Int) (rows : List Row) : (counts M rows).length ≤ 4 * rows.length := by
  have := countsFrom_length M rows []
  unfold counts
  simpa using this

theorem find_map_ne {al : AL} {k k' : Key} {v : Int} (h : ¬ k' = k) : ((al.map fun x => if x.1 = k then (x.1, v) else x).find? fun x => decide (x.1 = k')) = al.find? fun x => decide (x.1 = k') := by
  induction al with
  | nil => rfl
  | cons x al ih =>
    by_cases e : x.1 = k
    · have e' : ¬ x.1 = k' := fun q => h (q.symm.trans e)
      simp only [List.map_cons, e, if_true, List.find?_cons]
      have : decide (k = k') = false := decide_eq_false fun q => h q.symm
      rw [this]
      exact ih
    · simp only [List.map_cons, e, if_false, List.find?_cons]
      rw [ih]
theorem find_map_eq {al : AL} {k : Key} {v : Int} (h : has al k = true) : ((al.map fun x => if x.1 = k then (x.1, v) else x).find? fun x => decide (x.1 = k)) = some (k, v) := by
  induction al with
  | nil => cases h
  | cons x al ih =>
    by_cases e : x.1 = k
    · simp [e]
    · have h' : has al k = true := by
        unfold has at h ⊢
        rw [List.find?_cons] at h
        simpa [e] using h
      simp only [List.map_cons, e, if_false, List.find?_cons, decide_false]
      exact ih h'
theorem look_put (al : AL) (k k' : Key) (v : Int) : look (put al k v) k' = if k' = k then v else look al k' := by
  unfold put
  by_cases e : k' = k
  · subst e
    rw [if_pos rfl]
    cases h : has al k' with
    | true => rw [if_pos rfl]; unfold look; rw [find_map_eq h]; rfl
    | false =>
      simp only [Bool.false_eq_true, if_false]
      unfold look
      have : (al.find? fun x => decide (x.1 = k')) = none := by
        unfold has at h
        simpa using h
      rw [List.find?_append, this]
      simp
  · rw [if_neg e]
    cases h : has al k with
    | true => rw [if_pos rfl]; unfold look; rw [find_map_ne e]
    | false =>
      simp only [Bool.false_eq_true, if_false]
      unfold look
      rw [List.find?_append]
      have : ([(k, v)] : AL).find? (fun x => decide (x.1 = k')) = none := by simp; exact fun q => e q.symm
      rw [this]
      simp
theorem look_bump (M : Int) (al : AL) (k k' : Key) (v : Int) : look (bump M al k v) k' = if k' = k then (look al k + v).fmod M else look al k' := look_put _ _ _ _

/-- what is counted of one name -/
def told (k : Key) (ps : AL) : Int := (ps.map fun p => if p.1 = k then p.2 else 0).sum
def toldRows (k : Key) (rows : List Row) : Int := (rows.map fun r => told k r.names).sum
theorem fmod_pos {a M : Int} (hM : 0 < M) : a.fmod M = a % M := Int.fmod_eq_emod_of_nonneg _ (Int.le_of_lt hM)
theorem look_bumps {M : Int} (hM : 0 < M) (k : Key) : ∀ (ps al : AL), look al k = look al k % M → look (bumps M al ps) k = (look al k + told k ps) % M
  | [], al, h => by
    show look al k = (look al k + 0) % M
    rw [Int.add_zero]; exact h
  | p :: ps, al, h => by
    have e := look_bump M al p.1 k p.2
    show look (bumps M (bump M al p.1 p.2) ps) k = (look al k + told k (p :: ps)) % M
    have ht : told k (p :: ps) = (if p.1 = k then p.2 else 0) + told k ps := by simp [told]
    by_cases hk : k = p.1
    · rw [if_pos hk, fmod_pos hM, ← hk] at e
      rw [look_bumps hM k ps _ (by rw [← hk, e]; simp), ← hk, e, ht, if_pos hk.symm]
      rw [Int.emod_add_emod, Int.add_assoc]
    · rw [if_neg hk] at e
      rw [look_bumps hM k ps _ (by rw [e]; exact h), e, ht, if_neg (fun q => hk q.symm), Int.zero_add]
theorem look_countsFrom {M : Int} (hM : 0 < M) (k : Key) : ∀ (rows : List Row) (al : AL), look al k = look al k % M → look (countsFrom M al rows) k = (look al k + toldRows k rows) % M
  | [], al, h => by
    show look al k = (look al k + 0) % M
    rw [Int.add_zero]; exact h
  | r :: rows, al, h => by
    have e := look_bumps hM k r.names al h
    rw [countsFrom_cons, look_countsFrom hM k rows _ (by rw [e]; simp), e]
    have ht : toldRows k (r :: rows) = told k r.names + toldRows k rows := by simp [toldRows]
    rw [ht, Int.emod_add_emod, Int.add_assoc]
theorem look_counts {M : Int} (hM : 0 < M) (k : Key) (rows : List Row) : look (counts M rows) k = toldRows k rows % M := by
  have := look_countsFrom hM k rows [] (by show (0 : Int) = 0 % M; simp)
  rw [show look [] k = 0 from rfl, Int.zero_add] at this
  exact this

theorem sortS_cases (x : Int) : sortS x = Str.ofString "single" ∨ sortS x = Str.ofString "group" ∨ sortS x = Str.ofString "broadcast" := by
  unfold sortS
  split
  · exact .inr (.inr rfl)
  · split
    · exact .inr (.inl rfl)
    · exact .inl rfl
theorem classS_cases (x : Int) : classS x = Str.ofString "64" ∨ classS x = Str.ofString "65 to 127" ∨ classS x = Str.ofString "128 to 255" ∨ classS x = Str.ofString "256 to 511" ∨ classS x = Str.ofString "512 to 1023" ∨ classS x = Str.ofString "1024 to 1518" ∨ classS x = Str.ofString "more" := by
  unfold classS
  (repeat' split) <;> simp
theorem ne_str {a b : String} (h : (Str.ofString a == Str.ofString b) = false) : ¬ Str.ofString a = Str.ofString b := fun e => by rw [e] at h; simp at h
theorem told_sorts (way : Str) (r : Row) : told [way, Str.ofString "frames"] r.names =
    told [way, Str.ofString "single"] r.names + (told [way, Str.ofString "group"] r.names + told [way, Str.ofString "broadcast"] r.names) := by
  cases r with
  | drop w y =>
    simp only [told, Row.names, List.map_cons, List.map_nil, List.sum_cons, List.sum_nil, List.cons.injEq, and_true]
    simp [ne_str (show (Str.ofString "drops" == Str.ofString "frames") = false by decide), ne_str (show (Str.ofString "drops" == Str.ofString "single") = false by decide),
      ne_str (show (Str.ofString "drops" == Str.ofString "group") = false by decide), ne_str (show (Str.ofString "drops" == Str.ofString "broadcast") = false by decide)]
  | frame w t z =>
    simp only [told, Row.names, List.map_cons, List.map_nil, List.sum_cons, List.sum_nil, List.cons.injEq, and_true]
    simp [ne_str (show (Str.ofString "octets" == Str.ofString "frames") = false by decide), ne_str (show (Str.ofString "octets" == Str.ofString "single") = false by decide),
      ne_str (show (Str.ofString "octets" == Str.ofString "group") = false by decide), ne_str (show (Str.ofString "octets" == Str.ofString "broadcast") = false by decide),
      ne_str (show (Str.ofString "frames" == Str.ofString "single") = false by decide), ne_str (show (Str.ofString "frames" == Str.ofString "group") = false by decide), ne_str (show (Str.ofString "frames" == Str.ofString "broadcast") = false by decide)]
    rcases sortS_cases t with e | e | e <;> rw [e] <;>
      simp [ne_str (show (Str.ofString "single" == Str.ofString "frames") = false by decide), ne_str (show (Str.ofString "single" == Str.ofString "group") = false by decide), ne_str (show (Str.ofString "single" == Str.ofString "broadcast") = false by decide),
        ne_str (show (Str.ofString "group" == Str.ofString "frames") = false by decide), ne_str (show (Str.ofString "group" == Str.ofString "single") = false by decide), ne_str (show (Str.ofString "group" == Str.ofString "broadcast") = false by decide),
        ne_str (show (Str.ofString "broadcast" == Str.ofString "frames") = false by decide), ne_str (show (Str.ofString "broadcast" == Str.ofString "single") = false by decide), ne_str (show (Str.ofString "broadcast" == Str.ofString "group") = false by decide)]
theorem told_sizes (way : Str) (r : Row) : told [way, Str.ofString "frames"] r.names = told [way, Str.ofString "size", Str.ofString "64"] r.names + (told [way, Str.ofString "size", Str.ofString "65 to 127"] r.names + (told [way, Str.ofString "size", Str.ofString "128 to 255"] r.names + (told [way, Str.ofString "size", Str.ofString "256 to 511"] r.names + (told [way, Str.ofString "size", Str.ofString "512 to 1023"] r.names + (told [way, Str.ofString "size", Str.ofString "1024 to 1518"] r.names + (told [way, Str.ofString "size", Str.ofString "more"] r.names)))))) := by
  cases r with
  | drop w y =>
    simp only [told, Row.names, List.map_cons, List.map_nil, List.sum_cons, List.sum_nil, List.cons.injEq, and_true]
    simp [(ne_str (show (Str.ofString "drops" == Str.ofString "frames") = false by decide)), (ne_str (show (Str.ofString "drop" == Str.ofString "size") = false by decide))]
  | frame w t z =>
    simp only [told, Row.names, List.map_cons, List.map_nil, List.sum_cons, List.sum_nil, List.cons.injEq, and_true]
    have es : ¬ sortS t = Str.ofString "frames" := by
      rcases sortS_cases t with e | e | e <;> rw [e]
      · exact (ne_str (show (Str.ofString "single" == Str.ofString "frames") = false by decide))
      · exact (ne_str (show (Str.ofString "group" == Str.ofString "frames") = false by decide))
      · exact (ne_str (show (Str.ofString "broadcast" == Str.ofString "frames") = false by decide))
    simp [(ne_str (show (Str.ofString "octets" == Str.ofString "frames") = false by decide)), es]
    rcases classS_cases z with e | e | e | e | e | e | e <;> rw [e] <;> simp [(ne_str (show (Str.ofString "64" == Str.ofString "65 to 127") = false by decide)), (ne_str (show (Str.ofString "64" == Str.ofString "128 to 255") = false by decide)), (ne_str (show (Str.ofString "64" == Str.ofString "256 to 511") = false by decide)), (ne_str (show (Str.ofString "64" == Str.ofString "512 to 1023") = false by decide)), (ne_str (show (Str.ofString "64" == Str.ofString "1024 to 1518") = false by decide)), (ne_str (show (Str.ofString "64" == Str.ofString "more") = false by decide)), (ne_str (show (Str.ofString "65 to 127" == Str.ofString "64") = false by decide)), (ne_str (show (Str.ofString "65 to 127" == Str.ofString "128 to 255") = false by decide)), (ne_str (show (Str.ofString "65 to 127" == Str.ofString "256 to 511") = false by decide)), (ne_str (show (Str.ofString "65 to 127" == Str.ofString "512 to 1023") = false by decide)), (ne_str (show (Str.ofString "65 to 127" == Str.ofString "1024 to 1518") = false by decide)), (ne_str (show (Str.ofString "65 to 127" == Str.ofString "more") = false by decide)), (ne_str (show (Str.ofString "128 to 255" == Str.ofString "64") = false by decide)), (ne_str (show (Str.ofString "128 to 255" == Str.ofString "65 to 127") = false by decide)), (ne_str (show (Str.ofString "128 to 255" == Str.ofString "256 to 511") = false by decide)), (ne_str (show (Str.ofString "128 to 255" == Str.ofString "512 to 1023") = false by decide)), (ne_str (show (Str.ofString "128 to 255" == Str.ofString "1024 to 1518") = false by decide)), (ne_str (show (Str.ofString "128 to 255" == Str.ofString "more") = false by decide)), (ne_str (show (Str.ofString "256 to 511" == Str.ofString "64") = false by decide)), (ne_str (show (Str.ofString "256 to 511" == Str.ofString "65 to 127") = false by decide)), (ne_str (show (Str.ofString "256 to 511" == Str.ofString "128 to 255") = false by decide)), (ne_str (show (Str.ofString "256 to 511" == Str.ofString "512 to 1023") = false by decide)), (ne_str (show (Str.ofString "256 to 511" == Str.ofString "1024 to 1518") = false by decide)), (ne_str (show (Str.ofString "256 to 511" == Str.ofString "more") = false by decide)), (ne_str (show (Str.ofString "512 to 1023" == Str.ofString "64") = false by decide)), (ne_str (show (Str.ofString "512 to 1023" == Str.ofString "65 to 127") = false by decide)), (ne_str (show (Str.ofString "512 to 1023" == Str.ofString "128 to 255") = false by decide)), (ne_str (show (Str.ofString "512 to 1023" == Str.ofString "256 to 511") = false by decide)), (ne_str (show (Str.ofString "512 to 1023" == Str.ofString "1024 to 1518") = false by decide)), (ne_str (show (Str.ofString "512 to 1023" == Str.ofString "more") = false by decide)), (ne_str (show (Str.ofString "1024 to 1518" == Str.ofString "64") = false by decide)), (ne_str (show (Str.ofString "1024 to 1518" == Str.ofString "65 to 127") = false by decide)), (ne_str (show (Str.ofString "1024 to 1518" == Str.ofString "128 to 255") = false by decide)), (ne_str (show (Str.ofString "1024 to 1518" == Str.ofString "256 to 511") = false by decide)), (ne_str (show (Str.ofString "1024 to 1518" == Str.ofString "512 to 1023") = false by decide)), (ne_str (show (Str.ofString "1024 to 1518" == Str.ofString "more") = false by decide)), (ne_str (show (Str.ofString "more" == Str.ofString "64") = false by decide)), (ne_str (show (Str.ofString "more" == Str.ofString "65 to 127") = false by decide)), (ne_str (show (Str.ofString "more" == Str.ofString "128 to 255") = false by decide)), (ne_str (show (Str.ofString "more" == Str.ofString "256 to 511") = false by decide)), (ne_str (show (Str.ofString "more" == Str.ofString "512 to 1023") = false by decide)), (ne_str (show (Str.ofString "more" == Str.ofString "1024 to 1518") = false by decide))]
theorem toldRows_add {k k1 : Key} {f : Row → Int} (h : ∀ r : Row, told k r.names = told k1 r.names + f r) (rows : List Row) : toldRows k rows = toldRows k1 rows + (rows.map f).sum := by
  unfold toldRows
  induction rows with
  | nil => rfl
  | cons r rows ih => simp only [List.map_cons, List.sum_cons, ih, h r]; omega
theorem toldRows_sorts (way : Str) (rows : List Row) : toldRows [way, Str.ofString "frames"] rows =
    toldRows [way, Str.ofString "single"] rows + (toldRows [way, Str.ofString "group"] rows + toldRows [way, Str.ofString "broadcast"] rows) := by
  unfold toldRows
  induction rows with
  | nil => rfl
  | cons r rows ih => simp only [List.map_cons, List.sum_cons, ih, told_sorts way r]; omega
theorem toldRows_sizes (way : Str) (rows : List Row) : toldRows [way, Str.ofString "frames"] rows = toldRows [way, Str.ofString "size", Str.ofString "64"] rows + (toldRows [way, Str.ofString "size", Str.ofString "65 to 127"] rows + (toldRows [way, Str.ofString "size", Str.ofString "128 to 255"] rows + (toldRows [way, Str.ofString "size", Str.ofString "256 to 511"] rows + (toldRows [way, Str.ofString "size", Str.ofString "512 to 1023"] rows + (toldRows [way, Str.ofString "size", Str.ofString "1024 to 1518"] rows + (toldRows [way, Str.ofString "size", Str.ofString "more"] rows)))))) := by
  unfold toldRows
  induction rows with
  | nil => rfl
  | cons r rows ih => simp only [List.map_cons, List.sum_cons, ih, told_sizes way r]; omega
end Mine

namespace Mine
/-! sorted over a dict whose keys are tuples of strs: by the sort's own questions, answered by the keys' contents -/
def TreeOK {α : Type} (n : Nat) (P : α → Prop) : KasT α → Prop
  | .ret a => P a
  | .ask i j k => i < n ∧ j < n ∧ ∀ b, TreeOK n P (k b)
def ans {α : Type} (lt : Nat → Nat → Bool) : KasT α → α
  | .ret a => a
  | .ask i j k => ans lt (k (lt i j))
theorem TreeOK.bind {α β : Type} {n : Nat} {P : α → Prop} {Q : β → Prop} {f : α → KasT β} (hf : ∀ a, P a → TreeOK n Q (f a)) : ∀ {t : KasT α}, TreeOK n P t → TreeOK n Q (t.bind f)
  | .ret a, h => hf a h
  | .ask _ _ k, h => ⟨h.1, h.2.1, fun b => TreeOK.bind hf (h.2.2 b)⟩
theorem TreeOK.ans {α : Type} {n : Nat} {P : α → Prop} {lt : Nat → Nat → Bool} : ∀ {t : KasT α}, TreeOK n P t → P (Mine.ans lt t)
  | .ret _, h => h
  | .ask i j k, h => TreeOK.ans (t := k (lt i j)) (h.2.2 _)
theorem TreeOK.wp {α : Type} {n : Nat} {P : α → Prop} {lt : Nat → Nat → Bool} {cmp : Nat → Nat → (Bool → Shared → Prop) → Shared → Prop} {s : Shared}
    (hc : ∀ i j (C : Bool → Shared → Prop), i < n → j < n → C (lt i j) s → cmp i j C s) {Q : α → Shared → Prop} : ∀ {t : KasT α}, TreeOK n P t → Q (Mine.ans lt t) s → t.kasWp cmp Q s
  | .ret _, _, hq => hq
  | .ask i j k, h, hq => hc i j _ h.1 h.2.1 (TreeOK.wp hc (t := k (lt i j)) (h.2.2 _) hq)
def Ins (n : Nat) (p : Array Nat) : Prop := p.size = n ∧ ∀ x ∈ p, x < n
theorem Ins.getD {n : Nat} {p : Array Nat} (h : Ins n p) (hn : 0 < n) (i : Nat) : p.getD i 0 < n := by
  unfold Array.getD
  split
  · exact h.2 _ (Array.getElem_mem _)
  · exact hn
theorem Ins.perm {n : Nat} {p q : Array Nat} (h : Ins n p) (hp : q.Perm p) : Ins n q := ⟨hp.size_eq.trans h.1, fun x hx => h.2 x (hp.mem_iff.mp hx)⟩
theorem Ins.rev {n : Nat} {p : Array Nat} (h : Ins n p) (i j : Nat) : Ins n (kas_rev p i j) := h.perm (mirror_perm _ _ _ _)
theorem tree_asc {n : Nat} {p : Array Nat} (hn : 0 < n) (h : Ins n p) : ∀ f m, TreeOK n (fun _ => True) (kas_asc p f m)
  | 0, _ => trivial
  | f + 1, m => ⟨h.getD hn _, h.getD hn _, fun b => by
    cases b with
    | true => exact trivial
    | false => exact tree_asc hn h f (m + 1)⟩
theorem tree_desc {n : Nat} (hn : 0 < n) : ∀ f p m q, Ins n p → TreeOK n (fun r => Ins n r.1) (kas_desc f p m q)
  | 0, _, _, _, h => h
  | f + 1, p, m, q, h => ⟨h.getD hn _, h.getD hn _, fun b => by
    cases b with
    | true =>
      dsimp only
      rw [if_pos rfl]
      split
      · exact tree_desc hn f _ _ _ (h.rev _ _)
      · exact tree_desc hn f _ _ _ h
    | false =>
      dsimp only
      rw [if_neg Bool.false_ne_true]
      refine ⟨h.getD hn _, h.getD hn _, fun b => ?_⟩
      cases b with
      | true => exact h
      | false => exact tree_desc hn f _ _ _ h⟩
theorem tree_tail3 {n m nrem : Nat} {p : Array Nat} (hn : 0 < n) (h : Ins n p) : TreeOK n (fun r => Ins n r.2) (kas_tail3 m nrem p) :=
  by
  refine TreeOK.bind (P := fun _ => True) (fun _ _ => ?_) (tree_asc hn (h.rev _ _) _ _)
  exact h.rev _ _
theorem tree_descPart {n m nrem : Nat} {p : Array Nat} (hn : 0 < n) (h : Ins n p) : TreeOK n (fun r => Ins n r.2) (kas_descPart m nrem p) := by
  refine TreeOK.bind (fun r hr => ?_) (tree_desc hn _ _ _ _ h)
  split
  · exact tree_tail3 hn (Ins.rev hr _ _)
  · exact tree_tail3 hn hr
theorem tree_count {n nrem : Nat} {p : Array Nat} (hn : 0 < n) (h : Ins n p) : TreeOK n (fun r => Ins n r.2) (kas_count nrem p) := by
  refine TreeOK.bind (fun r _ => ?_) (tree_asc hn h _ _)
  split
  · exact h
  · split
    · refine ⟨h.getD hn _, h.getD hn _, fun b => ?_⟩
      cases b with
      | true => exact h
      | false => exact tree_descPart hn (h.rev _ _)
    · exact tree_descPart hn h
theorem tree_place {n k : Nat} {p : Array Nat} (hn : 0 < n) (h : Ins n p) : ∀ f l r, TreeOK n (fun _ => True) (kas_place p k f l r)
  | 0, _, _ => trivial
  | f + 1, l, r => by
    unfold kas_place
    split
    · exact trivial
    · refine ⟨h.getD hn _, h.getD hn _, fun b => ?_⟩
      cases b with
      | true => exact tree_place hn h f _ _
      | false => exact tree_place hn h f _ _
theorem tree_bin {n : Nat} (hn : 0 < n) : ∀ f p k, Ins n p → TreeOK n (fun r => Ins n r) (kas_bin f p k)
  | 0, _, _, h => h
  | f + 1, p, k, h => TreeOK.bind (fun _ _ => tree_bin hn f _ _ (h.perm (bubble_perm _ _ _))) (tree_place hn h _ _ _)
theorem tree_sort {n : Nat} (hn : 0 < n) : TreeOK n (fun r => Ins n r) (kas_sort n) := by
  refine TreeOK.bind (P := fun r => Ins n r.2) (fun r hr => ?_) (tree_count hn ⟨by simp, fun x hx => by simpa using hx⟩)
  split
  · exact tree_bin hn _ _ _ hr
  · exact hr

/-- which of two keys the sort takes first -/
def keyLex (fin : Bool) : List (Str × Str) → Bool
  | [] => fin
  | (p, q) :: r => if p = q then keyLex fin r else decide (p.cps.toList < q.cps.toList)
def keyLess (a b : Key) : Bool := keyLex (decide (a.length < b.length)) (a.zip b)
def order (ks : List Key) : List Nat := (ans (fun i j => keyLess (ks.getD i []) (ks.getD j [])) (kas_sort ks.length)).toList
theorem order_lt (ks : List Key) : ∀ i ∈ order ks, i < ks.length := by
  by_cases h : 0 < ks.length
  · intro i hi
    exact (tree_sort h).ans.2 i (by simpa [order] using hi)
  · have : ks = [] := by cases ks with
      | nil => rfl
      | cons _ _ => exact absurd (Nat.succ_pos _) h
    subst this
    intro i hi
    have e : order [] = [] := by decide +kernel
    rw [e] at hi; cases hi
theorem order_length (ks : List Key) : (order ks).length = ks.length := by
  by_cases h : 0 < ks.length
  · have := (tree_sort h).ans (lt := fun i j => keyLess (ks.getD i []) (ks.getD j [])).1
    simpa [order] using this
  · have : ks = [] := by cases ks with
      | nil => rfl
      | cons _ _ => exact absurd (Nat.succ_pos _) h
    subst this
    decide +kernel
def sortedKeys (ks : List Key) : List Key := (order ks).map fun i => ks.getD i []

section
variable {prog : Program} {w : World} {A : Around} {E : Value → Shared → Prop} {s : Shared} {Q : Bool → Shared → Prop}
theorem lex_on {b fin : Bool} : ∀ {xs ys : List Value} {k l : Key} {i : Nat}, StrsAre xs k → StrsAre ys l → Q (keyLex fin (k.zip l)) s → KatLex prog w A b fin Q (xs.zip ys) i s
  | _, _, _, _, _, .nil, _, h => by simpa [keyLex] using kat_nil (b := b) h
  | _, _, _, _, _, .cons _, .nil, h => by simpa [keyLex] using kat_nil (b := b) h
  | _, _, _, _, i, @StrsAre.cons x t vs xs hx, @StrsAre.cons y u ws ys hy, h => by
    rw [List.zip_cons_cons]
    refine kat_cons (wpAny_eqBool_str ?_)
    rw [List.zip_cons_cons] at h
    by_cases e : x = y
    · rw [decide_eq_true e]
      rw [keyLex, if_pos e] at h
      exact kat_yes (lex_on hx hy h)
    · rw [decide_eq_false e]
      rw [keyLex, if_neg e] at h
      refine kat_no ?_
      cases hb : (b && i == 0) with
      | true => exact oneLt_str h
      | false => exact kat_one _ _ (PyProof.Rows.lt_str (show PySem.W.BoolBack Q (.bool (decide (x.cps.toList < y.cps.toList))) s from h))
end
/-! the keys of any dict, taken in turn -/
def AnyD (h : Heap) (d : Addr) (ks : List Value) (ep : Nat) : Prop := ∃ o es, h.get? d = some o ∧ o.ExactDict ∧ o.data = .dict es ep ∧ es.toList.map (·.key) = ks
theorem AnyD.at {h h' : Heap} {d : Addr} {ks : List Value} {ep : Nat} (x : AnyD h d ks ep) (e : ∀ o, h.get? d = some o → h'.get? d = some o) : AnyD h' d ks ep := let ⟨o, es, ho, r⟩ := x; ⟨o, es, e _ ho, r⟩
theorem AnyD.lt {h : Heap} {d : Addr} {ks : List Value} {ep : Nat} (x : AnyD h d ks ep) : d < h.objs.size := let ⟨_, _, ho, _⟩ := x; Heap.lt_size ho
theorem AnyD.size {ks : List Value} {es : Array DictEntry} (h : es.toList.map (·.key) = ks) : es.size = ks.length := by rw [← h]; simp
section
variable {prog : Program} {w : World} {A : Around} {E : Value → Shared → Prop} {s : Shared} {it d : Addr} {ks : List Value} {ep : Nat}
theorem AnyD.typeIs (x : AnyD s.heap d ks ep) : s.TypeIs (.ref d) "dict" := let ⟨o, _, ho, hc, _⟩ := x; ⟨o, ho, hc.1⟩
theorem anyD_iter {Q : Value → Shared → Prop} (lo : (d == sysModules) = false) (hm : AnyD s.heap d ks ep)
    (hQ : Q (.ref s.heap.objs.size) { s with heap := s.heap.push { cls := .type "dict_keyiterator", data := .fields #[.ref d, .int 0 0, .int ks.length 0, .int ep 0] } }) : wpAny (model prog w) A (pyIter (.ref d)) Q E s := by
  have hT := hm.typeIs
  obtain ⟨o, es, ho, hx, hd, hk⟩ := hm
  have hz := AnyD.size hk
  refine wpAny_pyIter_slot hT F.slot_dict_iter (wpAny_call_entry F.slot_dict_iter hT F.entry_dict_iter ?_ (F.args_dict_iter_1 _))
  unfold Builtin.«dict.__iter__»
  refine wpAny_bind ?_
  unfold Builtin.Dict.dictSlotNone
  refine wpAny_bind (wpAny_notOrdered_dict hT (wpAny_pure ?_))
  show wpAny _ _ (Builtin.Dict.showsAll d >>= _) _ _ s
  unfold Builtin.Dict.showsAll
  simp only [lo, Bool.false_eq_true, if_false]
  refine wpAny_bind (wpAny_pure (wpAny_bind (wpAny_dictEntries ho hd (wpAny_bind (wpAny_dictEpoch ho hd ?_)))))
  refine wpAny_bind (wpAny_newObj_type (wpAny_pure ⟨_, rfl, "dict_keyiterator", _, ⟨_, Heap.get?_push_size _ rfl, rfl⟩, F.slot_dict_keyiterator_next.lookup, ?_⟩))
  simpa [rawInt, hz] using hQ
theorem anyD_item {i : Nat} {v : Value} {Q : Option Value → Shared → Prop} (hit : s.heap.IsKeyIter it d i ks.length ep) (hm : AnyD s.heap d ks ep) (hx : ks[i]? = some v)
    (hQ : ∀ h', h'.IsKeyIter it d (i + 1) ks.length ep → Heap.SameBut it s.heap h' → Q (some v) { s with heap := h' }) : wpAny (model prog w) A (pyNext (.ref it)) Q E s := by
  have hT := hit.typeIs
  obtain ⟨o, ho, hc, hd⟩ := id hit
  obtain ⟨od, es, hod, _, hdd, hk⟩ := id hm
  have hz := AnyD.size hk
  have hlt : i < es.size := by
    rw [hz]
    rcases Nat.lt_or_ge i ks.length with h | h
    · exact h
    · rw [List.getElem?_eq_none h] at hx; cases hx
  have hv : es[i].key = v := by
    rw [← hk, List.getElem?_map, Array.getElem?_toList, Array.getElem?_eq_getElem hlt] at hx
    exact Option.some.inj hx
  unfold pyNext
  refine wpAny_bind (wpAny_attempt (wpAny_callSpecial?_slot (name := Str.ofString "__next__") hT F.slot_dict_keyiterator_next
    (wpAny_call_entry F.slot_dict_keyiterator_next hT F.entry_dict_keyiterator_next ?_ (F.args_dict_keyiterator_next_1 _))))
  refine wpAny_bind (wpAny_pure (wpAny_bind (wpAny_bind ?_)))
  first | refine wpAny_bind (wpAny_typeNameOfWhole_keyiter hT (wpAny_pure ?_)) | refine wpAny_bind (wpAny_typeNameOf_keyiter hT (wpAny_pure ?_))
  refine wpAny_bind (wpAny_fieldsOf ho hd ?_)
  simp only [show Builtin.Dict_items.ownsTuple "dict_keyiterator" = false by decide, Bool.false_eq_true, if_false]
  show wpAny _ _ (if (Value.ref d == Value.none) = true then _ else _) _ _ s
  rw [if_neg (show ¬ ((Value.ref d == Value.none) = true) from Bool.false_ne_true)]
  refine wpAny_bind (wpAny_pure (wpAny_bind (wpAny_dictEntries hod hdd ?_)))
  rw [if_neg (by rw [hz]; simp)]
  refine wpAny_bind (wpAny_pure (wpAny_bind (wpAny_dictEpoch hod hdd ?_)))
  rw [if_neg (by simp)]
  refine wpAny_pure ?_
  simp only [show ¬ ((i : Int) < 0) from by omega, if_false, Int.toNat_natCast, Array.getElem?_eq_getElem hlt]
  refine wpAny_bind ?_
  first | refine wpAny_bind (wpAny_typeNameOfWhole_keyiter hT (wpAny_pure ?_)) | refine wpAny_bind (wpAny_typeNameOf_keyiter hT (wpAny_pure ?_))
  refine wpAny_bind (wpAny_isOneOf_keyiter hT ?_)
  show wpAny _ _ (setField (.ref it) 1 (rawInt ((i : Int) + 1)) >>= _) _ _ s
  refine wpAny_bind (wpAny_setField ho hd (by simp) ?_)
  have hit' : (s.heap.update it (Obj.mapFields (·.setIfInBounds 1 (rawInt ((i : Int) + 1))))).IsKeyIter it d (i + 1) ks.length ep :=
    ⟨_, Heap.get?_update_self _ ho (Obj.isFreed_of_fields (Obj.data_mapFields hd _)), (Obj.cls_mapFields ..).trans hc, by rw [Obj.data_mapFields hd]; simp [rawInt]⟩
  refine wpAny_bind (wpAny_holding (wpAny_bind (wpAny_isOneOf_keyiter (s := { s with heap := s.heap.update it (Obj.mapFields (·.setIfInBounds 1 (rawInt ((i : Int) + 1)))) }) hit'.typeIs ?_)))
  show wpAny _ _ (pure es[i].key) _ _ _
  rw [hv]
  exact wpAny_pure (wpAny_pure ⟨_, rfl, wpAny_pure (hQ _ hit' (Heap.SameBut.update ..))⟩)
theorem anyD_end {Q : Option Value → Shared → Prop} (hh : A.handled = none) (hit : s.heap.IsKeyIter it d ks.length ks.length ep) (hm : AnyD s.heap d ks ep)
    (hQ : ∀ h', Heap.ExtBut it s.heap h' → Q none { s with heap := h' }) : wpAny (model prog w) A (pyNext (.ref it)) Q E s := by
  have hT := hit.typeIs
  obtain ⟨o, ho, hc, hd⟩ := id hit
  obtain ⟨od, es, hod, _, hdd, hk⟩ := id hm
  have hz := AnyD.size hk
  unfold pyNext
  refine wpAny_bind (wpAny_attempt (wpAny_callSpecial?_slot (name := Str.ofString "__next__") hT F.slot_dict_keyiterator_next
    (wpAny_call_entry F.slot_dict_keyiterator_next hT F.entry_dict_keyiterator_next ?_ (F.args_dict_keyiterator_next_1 _))))
  refine wpAny_bind (wpAny_pure (wpAny_bind (wpAny_bind ?_)))
  first | refine wpAny_bind (wpAny_typeNameOfWhole_keyiter hT (wpAny_pure ?_)) | refine wpAny_bind (wpAny_typeNameOf_keyiter hT (wpAny_pure ?_))
  refine wpAny_bind (wpAny_fieldsOf ho hd ?_)
  simp only [show Builtin.Dict_items.ownsTuple "dict_keyiterator" = false by decide, Bool.false_eq_true, if_false]
  show wpAny _ _ (if (Value.ref d == Value.none) = true then _ else _) _ _ s
  rw [if_neg (show ¬ ((Value.ref d == Value.none) = true) from Bool.false_ne_true)]
  refine wpAny_bind (wpAny_pure (wpAny_bind (wpAny_dictEntries hod hdd ?_)))
  rw [if_neg (by rw [hz]; simp)]
  refine wpAny_bind (wpAny_pure (wpAny_bind (wpAny_dictEpoch hod hdd ?_)))
  rw [if_neg (by simp)]
  refine wpAny_pure ?_
  simp only [show ¬ ((ks.length : Int) < 0) from by omega, if_false, Int.toNat_natCast, Array.getElem?_eq_none (Nat.le_of_eq hz)]
  refine wpAny_bind ?_
  first | refine wpAny_bind (wpAny_typeNameOfWhole_keyiter hT (wpAny_pure ?_)) | refine wpAny_bind (wpAny_typeNameOf_keyiter hT (wpAny_pure ?_))
  show wpAny _ _ (setField (.ref it) 0 .none >>= _) _ _ s
  refine wpAny_bind (wpAny_setField ho hd (by simp) ?_)
  show wpAny _ _ (newExc (.type "StopIteration") [] >>= _) _ _ _
  refine wpAny_bind ?_
  simp only [newExc, newTuple]
  refine wpAny_bind (wpAny_newObj_type ?_ (by size_fits))
  refine wpAny_bind (m := firstArgMember _ _) (wpAny_of_eq (a := Value.none) (by first | rfl | (simp only [firstArgMember]; rfl)) ?_)
  refine wpAny_newObj_type ?_ (by size_fits)
  simp only [raiseNew]
  refine wpAny_bind (wpAny_handled ?_)
  rw [show A.in1.handled = none from hh]
  refine wpAny_bind (wpAny_pure (wpAny_throw ?_))
  refine wpAny_bind (wpAny_isInstance (T := "StopIteration") (b := true) ⟨_, Heap.get?_push_size _ rfl, rfl⟩ isSubtype_stop ?_)
  exact wpAny_pure (hQ _ (((Heap.SameBut.update ..).extBut.push _).push _))
theorem anyD_walks (hh : A.handled = none) (I : Addr) (hne : d ≠ I) :
    Walks prog w A I [I, d] [I] ks.length (fun i v => ks[i]? = some v) (fun i h => h.IsKeyIter I d i ks.length ep ∧ AnyD h d ks ep) where
  sub := fun b hb => by simp at hb; simp [hb]
  frame := fun _ _ _ st hk => ⟨st.1.at fun o e => hk I (by simp) o e, st.2.at fun o e => hk d (by simp) o e⟩
  item := fun i s Q E hi st hQ => by
    have hx : ks[i]? = some ks[i] := List.getElem?_eq_getElem hi
    exact anyD_item st.1 st.2 hx fun h' hit' hs' => hQ _ h' s.toks hx ⟨hit', st.2.at fun o e => hs'.extBut d o hne e⟩ fun b o hb e => hs'.extBut b o (fun h => hb (by simp [h])) e
  done := fun s Q E st hQ => anyD_end hh st.1 st.2 fun h' he' => hQ h' s.toks fun b o hb e => he' b o (fun h => hb (by simp [h])) e
  self := fun _ _ _ _ st hQ => wpAny_pyIter_keyiter st.1 hQ
theorem anyD_src (lo : (d == sysModules) = false) : KdlSrc prog w "dict" d d ks.length (fun i v => ks[i]? = some v) (fun h => AnyD h d ks ep) where
  type := fun _ hm => hm.typeIs
  there := fun _ hm => ⟨hm.lt, hm.lt⟩
  keep := fun _ _ hm hk => hm.at fun o e => hk d (.inl rfl) o e
  notList := by decide
  notTuple := by decide
  hint := fun _ _ _ _ hm hq => kdl_hint_dict hm.typeIs hq
  iter := fun _ _ hh hm => ⟨_, _, (fun _ _ hq => anyD_iter lo hm hq), anyD_walks hh _ (Nat.ne_of_lt hm.lt), ⟨⟨_, Heap.get?_push_size _ rfl, rfl, rfl⟩, hm.at fun o e => Heap.get?_push_of_some _ e⟩⟩
end
end Mine

namespace Mine
/-! sorted over a dict of counts -/
/-- values that are keys' objects -/
inductive KRefs (sg : Ldg) : List Value → List Key → Prop
  | nil : KRefs sg [] []
  | cons {a : Addr} {o : Obj} {k : Key} {vs : List Value} {ks : List Key} : (a, o) ∈ sg → KeyO o k → KRefs sg vs ks → KRefs sg (.ref a :: vs) (k :: ks)
theorem KRefs.length {sg : Ldg} {vs : List Value} {ks : List Key} (h : KRefs sg vs ks) : vs.length = ks.length := by
  induction h with
  | nil => rfl
  | cons _ _ _ ih => simp [ih]
theorem KRefs.get {sg : Ldg} {vs : List Value} {ks : List Key} (h : KRefs sg vs ks) : ∀ i, i < ks.length → ∃ a o, vs.getD i Value.none = .ref a ∧ (a, o) ∈ sg ∧ KeyO o (ks.getD i []) := by
  induction h with
  | nil => intro i hi; simp at hi
  | cons hm hk _ ih =>
    intro i hi
    cases i with
    | zero => exact ⟨_, _, rfl, hm, hk⟩
    | succ j =>
      obtain ⟨a, o, h1, h2, h3⟩ := ih j (by simpa using hi)
      exact ⟨a, o, by simpa using h1, h2, by simpa using h3⟩
theorem KRefs.map {sg : Ldg} {vs : List Value} {ks : List Key} (h : KRefs sg vs ks) : ∀ (l : List Nat), (∀ i ∈ l, i < ks.length) → KRefs sg (l.map fun i => vs.getD i Value.none) (l.map fun i => ks.getD i [])
  | [], _ => .nil
  | i :: l, hl => by
    obtain ⟨a, o, h1, h2, h3⟩ := h.get i (hl i (.head _))
    simp only [List.map_cons]
    rw [h1]
    exact .cons h2 h3 (h.map l fun j hj => hl j (.tail _ hj))
theorem KRefs.mono {sg sg' : Ldg} {vs : List Value} {ks : List Key} (h : KRefs sg vs ks) (hs : ∀ p ∈ sg, p ∈ sg') : KRefs sg' vs ks := by
  induction h with
  | nil => exact .nil
  | cons hm hk _ ih => exact .cons (hs _ hm) hk ih
theorem KRefs.ofKeys {sg : Ldg} : ∀ {xs : List (Key × Addr × Value)}, KeysIn sg xs → KRefs sg (xs.map fun x => .ref x.2.1) (xs.map (·.1))
  | [], _ => .nil
  | x :: xs, h => by
    obtain ⟨o, h1, h2⟩ := h x (.head _)
    exact .cons h1 h2 (KRefs.ofKeys fun y hy => h y (.tail _ hy))

def heads : List Key → List Value
  | [] => []
  | k :: ks => .str (k.headD default) 0 :: heads ks
theorem KRefs.tups {h₀ h : Heap} {L : Addr} {nw sg : Ldg} {vs : List Value} {ks : List Key} (N : News h₀ L h nw) (S : ∀ p ∈ sg, p ∈ nw) (H : KRefs sg vs ks) (hne : ∀ k ∈ ks, k ≠ []) :
    ∃ fs, KatTups h vs fs ∧ fs.length = ks.length ∧ ∀ v ∈ fs, ∃ x t, v = .str x t := by
  induction H with
  | nil => exact ⟨[], KatTups.nil, rfl, fun _ h => nomatch h⟩
  | @cons a o k vs ks hm hk _ ih =>
    obtain ⟨fs, h1, h2, h3⟩ := ih fun k hk => hne k (.tail _ hk)
    obtain ⟨ws, n, rfl, hs⟩ := hk
    cases hs with
    | nil => exact absurd rfl (hne _ (.head _))
    | @cons x t ws xs hs =>
      exact ⟨.str x t :: fs, KatTups.cons (N _ (S _ hm)).1 rfl rfl (by simp) h1, by simp [h2], fun v hv => by
        rcases List.mem_cons.mp hv with rfl | hv
        · exact ⟨_, _, rfl⟩
        · exact h3 v hv⟩

theorem anyD_of {prog : Program} {w : World} {h₀ h : Heap} {L d : Addr} {nw sg : Ldg} {o : Obj} {al : AL} (N : News h₀ L h nw) (hd : (d, o) ∈ nw) (C : CD prog w sg o al) :
    ∃ vs ep, AnyD h d vs ep ∧ KRefs sg vs (al.map (·.1)) := by
  obtain ⟨xs, es, ep, h1, h2, h3, h4, h5, _⟩ := C
  refine ⟨xs.map fun x => .ref x.2.1, ep, ⟨o, es, (N _ hd).1, h1, h2, ?_⟩, ?_⟩
  · rw [h3, List.map_map]
    rfl
  · rw [← h5.keys]
    exact KRefs.ofKeys h4

section
variable {prog : Program} {w : World} {A : Around} {E : Value → Shared → Prop} {s : Shared} {h₀ : Heap} {L d : Addr} {m : Str → Option Value} {nw sg : Ldg} {o : Obj} {al : AL}
theorem sort_none {D : Addr} {Q : Value → Shared → Prop} {c : Nat} (F : Fr h₀ L s.heap m) (N : News h₀ L s.heap ((D, listOf (([] : List Value).toArray) c) :: nw)) (hlt : ∀ q ∈ nw, q.1 < D)
    (h : ∀ c' h', Fr h₀ L h' m → News h₀ L h' ((D, listOf (([] : List Value).toArray) c') :: nw) → Q .none { s with heap := h' }) :
    wpAny (model prog w) A (call (.builtin "list.sort") [.ref D]) Q E s := by
  have z := N _ (.head _)
  have N0 : News h₀ L s.heap nw := fun p hp => N p (.tail _ hp)
  have hna : ∀ p ∈ nw, p.1 ≠ D := fun p hp => Nat.ne_of_lt (hlt p hp)
  refine wpAny_call_entry PyProof.Rows.slot_list_sort ⟨_, z.1, rfl⟩ PyProof.Rows.entry_list_sort (list_sort_tree (n := c) (vs := []) z.1 IntsAre.nil (by simp) fun out ns' hI hp _ => ⟨.none, rfl, ?_⟩) (PyProof.Rows.args_list_sort _)
  have hout : out = #[] := by
    have e := hp.eq_nil
    subst e
    have hl := hI.length
    apply Array.toList_inj.mp
    exact List.eq_nil_of_length_eq_zero (by simpa using hl)
  subst hout
  have s1 := Heap.SameBut.update s.heap D (Obj.mapSeq fun _ => (#[] : Array Value))
  obtain ⟨c1, hc1⟩ : ∃ c1, (s.heap.update D (Obj.mapSeq fun _ => (#[] : Array Value))).get? D = some (seqObj "list" #[] c1) := ⟨_, get?_update_seq z.1 fun _ => #[]⟩
  have F1 : Fr h₀ L (s.heap.update D (Obj.mapSeq fun _ => (#[] : Array Value))) m := F.change s1 z.2.1 z.2.2
  have N1 := kas_news N0 s1 hna
  have hc2 := Heap.get?_push_of_some (seqObj "list" #[] 0) (Heap.get?_push_of_some (seqObj "tuple" ([] : List Value).toArray 0) hc1)
  obtain ⟨c3, hc3⟩ : ∃ c3, ((((s.heap.update D (Obj.mapSeq fun _ => (#[] : Array Value))).push (seqObj "tuple" ([] : List Value).toArray 0)).push (seqObj "list" #[] 0)).update D (Obj.mapSeq fun _ => (#[] : Array Value))).get? D = some (seqObj "list" #[] c3) := ⟨_, get?_update_seq hc2 fun _ => #[]⟩
  have s2 := Heap.SameBut.update (((s.heap.update D (Obj.mapSeq fun _ => (#[] : Array Value))).push (seqObj "tuple" ([] : List Value).toArray 0)).push (seqObj "list" #[] 0)) D (Obj.mapSeq fun _ => (#[] : Array Value))
  have N2 := (N1.grown fun b x e => Heap.get?_push_of_some (seqObj "list" #[] 0) (Heap.get?_push_of_some (seqObj "tuple" ([] : List Value).toArray 0) e))
  refine h c3 _ (((F1.push _).push _).change s2 z.2.1 z.2.2) fun p hp => ?_
  rcases List.mem_cons.mp hp with rfl | hp
  · exact ⟨hc3, z.2⟩
  · exact kas_news N2 s2 hna p hp

theorem sorted_none : KRefs sg [] (sortedKeys []) := by
  have e : sortedKeys [] = [] := by decide +kernel
  rw [e]
  exact .nil
theorem sort_keys {D : Addr} {vs : List Value} {ks : List Key} {c : Nat} {Q : Value → Shared → Prop} (F : Fr h₀ L s.heap m) (N : News h₀ L s.heap ((D, listOf vs.toArray c) :: nw)) (hlt : ∀ q ∈ nw, q.1 < D) (S : ∀ p ∈ sg, p ∈ nw)
    (H : KRefs sg vs ks) (hne : ∀ k ∈ ks, k ≠ []) (h1 : ks.length ≠ 1) (h64 : ks.length < 64)
    (h : ∀ c' h' vs', Fr h₀ L h' m → News h₀ L h' ((D, listOf vs'.toArray c') :: nw) → KRefs sg vs' (sortedKeys ks) → Q .none { s with heap := h' }) :
    wpAny (model prog w) A (call (.builtin "list.sort") [.ref D]) Q E s := by
  have hlen := H.length
  cases H with
  | nil => exact sort_none F N hlt fun c' h' F' N' => h c' h' [] F' N' sorted_none
  | cons hm hk H' =>
    have H := KRefs.cons hm hk H'
    clear hm hk H'
    revert H h hne h1 h64 hlen N
    generalize hvs : Value.ref _ :: _ = vs
    generalize hks : (_ :: _ : List Key) = ks
    intro N hne h1 h64 h hlen H
    have hpos : 0 < ks.length := by rw [← hks]; simp
    refine kat_lsort F N (UpdF.head fun p hp => Nat.ne_of_lt (hlt p hp)) (vs := vs) (by simp) (by omega) (by omega) fun e1 h' F' N' => ?_
    obtain ⟨fs, t1, t2, t3⟩ := H.tups (fun p hp => N' p (.tail _ hp)) S hne
    refine kat_kind (T := Value.type "str") t1 (by omega) (fun v hv => ?_) rfl ?_
    · obtain ⟨x, t, rfl⟩ := t3 v hv
      exact Looks.of_pure rfl
    rw [hlen]
    refine (tree_sort hpos).wp (lt := fun i j => keyLess (ks.getD i []) (ks.getD j [])) (fun i j C hi hj hC => ?_) ?_
    · unfold kas_ask
      obtain ⟨a, oa, ea, ma, ka⟩ := H.get i hi
      obtain ⟨b, ob, eb, mb, kb⟩ := H.get j hj
      rw [ea, eb]
      obtain ⟨xs, n, rfl, hxs⟩ := ka
      obtain ⟨ys, n', rfl, hys⟩ := kb
      refine kat_lt (N' _ (.tail _ (S _ ma))).1 rfl (N' _ (.tail _ (S _ mb))).1 rfl ?_
      have e : decide (xs.toArray.size < ys.toArray.size) = decide ((ks.getD i []).length < (ks.getD j []).length) := by
        rw [List.size_toArray, List.size_toArray, hxs.length, hys.length]
      rw [e]
      exact lex_on hxs hys hC
    · refine KasFin.intro F' N' (UpdF.head fun p hp => Nat.ne_of_lt (hlt p hp)) fun h'' c' F'' N'' => ?_
      exact h c' h'' _ F'' N'' (H.map _ (order_lt ks))

theorem cd_sorted {Q : Value → Shared → Prop} (hh : A.handled = none) (F : Fr h₀ L s.heap m) (N : News h₀ L s.heap nw) (S : ∀ p ∈ sg, p ∈ nw) (hd : (d, o) ∈ nw) (C : CD prog w sg o al) (lo : (d == sysModules) = false)
    (h64 : al.length < 64) (h1 : al.length ≠ 1) (hne : ∀ x ∈ al, x.1 ≠ [])
    (h : ∀ D vs c h' tk, Fr h₀ L h' m → News h₀ L h' ((D, listOf vs.toArray c) :: nw) → (∀ q ∈ nw, q.1 < D) → KRefs sg vs (sortedKeys (al.map (·.1))) → Q (.ref D) { s with heap := h', toks := tk }) :
    wpAny (model prog w) A (call (.builtin "sorted") [.ref d]) Q E s := by
  obtain ⟨vs, ep, hD, H⟩ := anyD_of N hd C
  have hlen : vs.length = al.length := by rw [H.length]; simp
  refine kdu_sorted (anyD_src lo) hh F N hD (by rw [hlen, sizeLine_eq]; omega) fun D h' tk vs' F' N' l1 hl hv => ?_
  have e : vs' = vs := by
    apply List.ext_getElem?
    intro i
    by_cases hi : i < vs'.length
    · rw [List.getElem?_eq_getElem hi]
      exact (hv i _ (List.getElem?_eq_getElem hi)).symm
    · rw [List.getElem?_eq_none (Nat.not_lt.mp hi), List.getElem?_eq_none (by omega)]
  subst e
  exact sort_keys F' N' l1 S H (fun k hk => by obtain ⟨x, hx, rfl⟩ := List.mem_map.mp hk; exact hne x hx) (by simpa using h1) (by simpa using h64) fun c' h'' vs'' F'' N'' H'' => h D vs'' c' h'' tk F'' N'' l1 H''
end
end Mine

namespace Mine
/-! comprehensions over any source; a turn's end with an open ledger; turns by an invariant -/
open LCg LCt
structure Src (prog : Program) (w : World) (r : Addr) (n : Nat) (P : Nat → Value → Prop) (OK : Heap → Prop) : Prop where
  there : ∀ h : Heap, OK h → r < h.objs.size
  iter : ∀ (A : Around) (s : Shared), A.handled = none → OK s.heap → ∃ (oI : Obj) (St : Nat → Heap → Prop),
    (∀ (E : Value → Shared → Prop) (Q : Value → Shared → Prop), Q (.ref s.heap.objs.size) { s with heap := s.heap.push oI } → wpAny (model prog w) A (pyIter (.ref r)) Q E s) ∧
    Walks prog w A s.heap.objs.size [s.heap.objs.size, r] [s.heap.objs.size] n P St ∧ St 0 (s.heap.push oI) ∧ ∀ i h, St i h → ∃ o, h.get? s.heap.objs.size = some o
theorem src_anyD {prog : Program} {w : World} {d : Addr} {ks : List Value} {ep : Nat} (lo : (d == sysModules) = false) : Src prog w d ks.length (fun i v => ks[i]? = some v) (fun h => AnyD h d ks ep) where
  there := fun _ hm => hm.lt
  iter := fun _ _ hh hm => ⟨_, _, (fun _ _ hq => anyD_iter lo hm hq), anyD_walks hh _ (Nat.ne_of_lt hm.lt), ⟨⟨_, Heap.get?_push_size _ rfl, rfl, rfl⟩, hm.at fun o e => Heap.get?_push_of_some _ e⟩, fun _ _ st => let ⟨o, ho, _⟩ := st.1; ⟨o, ho⟩⟩
theorem src_tuple {prog : Program} {w : World} {r : Addr} {its : Array Value} : Src prog w r its.size (fun i v => its[i]? = some v) (fun h => h.IsTuple r its) where
  there := fun _ hm => let ⟨_, ho, _⟩ := hm; Heap.lt_size ho
  iter := fun _ s hh hm => by
    have hlt : r < s.heap.objs.size := let ⟨_, ho, _⟩ := hm; Heap.lt_size ho
    exact ⟨_, _, (fun _ _ hq => wpAny_pyIter_tuple hm hq), Walks.tuple hh _ r (Nat.ne_of_lt hlt) its, ⟨⟨_, Heap.get?_push_size _ rfl, rfl, rfl⟩, hm.at fun o e => Heap.get?_push_of_some _ e⟩, fun _ _ st => let ⟨o, ho, _⟩ := st.1; ⟨o, ho⟩⟩
theorem src_list {prog : Program} {w : World} {r : Addr} {its : Array Value} : Src prog w r its.size (fun i v => its[i]? = some v) (fun h => h.IsList r its) where
  there := fun _ hm => let ⟨_, ho, _⟩ := hm; Heap.lt_size ho
  iter := fun _ s hh hm => by
    have hlt : r < s.heap.objs.size := let ⟨_, ho, _⟩ := hm; Heap.lt_size ho
    exact ⟨_, _, (fun _ _ hq => wpAny_pyIter_list hm hq), Walks.list hh _ r (Nat.ne_of_lt hlt) its, ⟨⟨_, Heap.get?_push_size _ rfl, rfl, rfl⟩, hm.at fun o e => Heap.get?_push_of_some _ e⟩, fun _ _ st => let ⟨o, ho, _⟩ := st.1; ⟨o, ho⟩⟩

def SX (h₀ : Heap) (r : Addr) (od : Obj) (nw : Ldg) : Prop := h₀.get? r = some od ∨ (r, od) ∈ nw
theorem SX.get {h₀ h : Heap} {L r : Addr} {od : Obj} {nw : Ldg} (x : SX h₀ r od nw) (k : ∀ b o, h₀.get? b = some o → h.get? b = some o) (N : News h₀ L h nw) : h.get? r = some od := by
  rcases x with e | hm
  · exact k _ _ e
  · exact (N _ hm).1
theorem SX.up {h₀ : Heap} {r : Addr} {od : Obj} {nw : Ldg} {p : Addr × Obj} (x : SX h₀ r od nw) : SX h₀ r od (p :: nw) := x.imp id fun h => .tail _ h
theorem SX.app {h₀ : Heap} {r : Addr} {od : Obj} {nw ext : Ldg} (x : SX h₀ r od nw) : SX h₀ r od (ext ++ nw) := x.imp id fun h => List.mem_append_right _ h

theorem SX.ofK {K : Frag} {h₀ : Heap} {r : Addr} {od : Obj} {nw : Ldg} (X : K.In h₀) (e : K.lookup r = some od) : SX h₀ r od nw := .inl (X _ _ e)
section
variable {prog : Program} {w : World} {A : Around} {E : Value → Shared → Prop} {s : Shared} {h₀ : Heap} {L : Addr} {m : Str → Option Value} {env : Env}
def CompX (prog : Program) (w : World) (A : Around) (h₀ : Heap) (L : Addr) (m : Str → Option Value) (R : Shared → (Ldg → Prop) → (Nat → Value → Prop) → Nat → Ldg → Prop) (xv : Value) (s₁ : Shared) : Prop :=
  ∃ r od n P OK news, xv = .ref r ∧ A.handled = none ∧ Fr h₀ L s₁.heap m ∧ News h₀ L s₁.heap news ∧ Src prog w r n P OK ∧ (∀ h, h.get? r = some od → OK h) ∧ SX h₀ r od news ∧ n ≤ sizeLine ∧
    ∀ g, R { s₁ with heap := g } (SX h₀ r od) P n news
theorem CompX.intro {R : Shared → (Ldg → Prop) → (Nat → Value → Prop) → Nat → Ldg → Prop} {s₁ : Shared} {r : Addr} {od : Obj} {n : Nat} {P : Nat → Value → Prop} {OK : Heap → Prop} {news : Ldg}
    (hh : A.handled = none) (F : Fr h₀ L s₁.heap m) (N : News h₀ L s₁.heap news) (K : Src prog w r n P OK) (hok : ∀ h, h.get? r = some od → OK h) (S : SX h₀ r od news) (hsz : n ≤ sizeLine)
    (h : ∀ g, R { s₁ with heap := g } (SX h₀ r od) P n news) : CompX prog w A h₀ L m R (.ref r) s₁ := ⟨r, od, n, P, OK, news, rfl, hh, F, N, K, hok, S, hsz, h⟩

theorem CompX.two {R : Shared → (Ldg → Prop) → (Nat → Value → Prop) → Nat → Ldg → Prop} {s₁ : Shared} {r : Addr} {od : Obj} {v1 v2 : Value} {ep : Nat} {news : Ldg}
    (hh : A.handled = none) (F : Fr h₀ L s₁.heap m) (N : News h₀ L s₁.heap news) (lo : (r == sysModules) = false) (hok : ∀ h, h.get? r = some od → AnyD h r [v1, v2] ep) (S : SX h₀ r od news)
    (h : ∀ g, R { s₁ with heap := g } (SX h₀ r od) (fun i v => [v1, v2][i]? = some v) 2 news) : CompX prog w A h₀ L m R (.ref r) s₁ := CompX.intro hh F N (src_anyD lo) hok S (by show 2 ≤ sizeLine; decide) h
theorem CompX.tup {R : Shared → (Ldg → Prop) → (Nat → Value → Prop) → Nat → Ldg → Prop} {s₁ : Shared} {r : Addr} {vs : List Value} {k n : Nat} {K : Frag} {news : Ldg}
    (hh : A.handled = none) (F : Fr h₀ L s₁.heap m) (N : News h₀ L s₁.heap news) (X : K.In h₀) (hr : K.lookup r = some { cls := .type "tuple", data := .seq (List.toArray vs) k }) (hn : vs.length = n) (hsz : n ≤ sizeLine)
    (h : ∀ g, R { s₁ with heap := g } (SX h₀ r { cls := .type "tuple", data := .seq (List.toArray vs) k }) (fun i v => vs[i]? = some v) n news) : CompX prog w A h₀ L m R (.ref r) s₁ := by
  subst hn
  refine CompX.intro hh F N (src_tuple (its := vs.toArray)) (fun g e => ⟨_, e, rfl, _, rfl⟩) (.inl (X _ _ hr)) (by simpa using hsz) fun g => ?_
  have := h g
  simpa using this

theorem CompX.lst {R : Shared → (Ldg → Prop) → (Nat → Value → Prop) → Nat → Ldg → Prop} {s₁ : Shared} {r : Addr} {vs : List Value} {k n : Nat} {news : Ldg}
    (hh : A.handled = none) (F : Fr h₀ L s₁.heap m) (N : News h₀ L s₁.heap news) (hm : (r, W.listOf (List.toArray vs) k) ∈ news) (hn : vs.length = n) (hsz : n ≤ sizeLine)
    (h : ∀ g, R { s₁ with heap := g } (SX h₀ r (W.listOf (List.toArray vs) k)) (fun i v => vs[i]? = some v) n news) : CompX prog w A h₀ L m R (.ref r) s₁ := by
  subst hn
  refine CompX.intro hh F N (src_list (its := vs.toArray)) (fun g e => ⟨_, e, rfl, _, rfl⟩) (.inr hm) (by simpa using hsz) fun g => ?_
  have := h g
  simpa using this

theorem walksX {I r : Addr} {od : Obj} {n : Nat} {P : Nat → Value → Prop} {St : Nat → Heap → Prop} (W : Walks prog w A I [I, r] [I] n P St) (hne : r ≠ I) : Walks prog w A I [I, r] [I] n P (fun i h => St i h ∧ h.get? r = some od) where
  sub := W.sub
  frame := fun i h h' st hk => ⟨W.frame i h h' st.1 hk, hk r (by simp) _ st.2⟩
  item := fun i s Q E hi st hQ => W.item i s Q E hi st.1 fun v h' tk hP st' hk => hQ v h' tk hP ⟨st', hk r od (by simpa using hne) st.2⟩ hk
  done := fun s Q E st hQ => W.done s Q E st.1 hQ
  self := fun i s Q E st hQ => W.self i s Q E st.1 hQ
theorem stX {I r : Addr} {od : Obj} {n : Nat} {P : Nat → Value → Prop} {St : Nat → Heap → Prop} (W : Walks prog w A I [I, r] [I] n P St) : ∀ i (h h' : Heap) (o : Obj) (nw : Ldg), (St i h ∧ h.get? r = some od) → h.get? I = some o → h'.get? I = some o →
    (∀ b o, h₀.get? b = some o → h'.get? b = some o) → News h₀ L h' nw → SX h₀ r od nw → (St i h' ∧ h'.get? r = some od) := fun i h h' o nw st e e' k N S => by
  have e2 := S.get k N
  refine ⟨W.frame i h h' st.1 fun b hb x ex => ?_, e2⟩
  rcases List.mem_cons.mp hb with rfl | hb
  · rw [e] at ex; cases ex; exact e'
  · rw [List.mem_singleton.mp hb] at ex ⊢
    rw [st.2] at ex; cases ex; exact e2

theorem ListComp_X {elt iter : Expr} {x : Str} {px : Pos} {scope : Scope} {cl : List (Str × Addr)} {pos : Pos} {Q : Value → Shared → Prop} (F₀ : Fr h₀ L s.heap m)
    (hclos : closureFor scope env = pure cl) (hcell : ∀ y ∈ scope.names, y.2 ≠ .cell) (hkind : scope.kind = .function)
    (hnames : ∀ y ∈ scope.names, y.2 = .local → scope.names.lookup y.1 = some .local) (hx : scope.names.lookup x = some .local)
    (h : wpAny (model prog w) A (eval iter env) (CompX prog w A h₀ L m fun s₂ S P n news => CompRest prog w A h₀ L m env elt x scope cl s₂ S P (FinE h₀ L m s₂ Q) n 0 [] news) E s)
    (hs : ∀ x, foldedSetIterable iter env x = pure x := by intro _; rfl) :
    wpAny (model prog w) A (eval (.ListComp elt [⟨.Name x px, iter, [], 0⟩] scope pos) env) Q E s := by
  rw [eval_ListComp]
  refine wpAny_comprehension_free (use := none) rfl hs hclos hkind hnames (wpAny_mono h (fun xv s₁ h₁ => ?_) fun _ _ e => e)
  obtain ⟨r, od, n, P, OK, news, rfl, hh, F, N, K, hok, S, hsz, R⟩ := h₁
  have er := S.get F.keep N
  have ok := hok _ er
  have hlt := K.there _ ok
  obtain ⟨oI, St, hit, W, st, hI⟩ := K.iter A s₁ hh ok
  refine hit _ _ ?_
  have up : ∀ b o, s₁.heap.get? b = some o → (s₁.heap.push oI).get? b = some o := fun b o e => Heap.get?_push_of_some _ e
  refine block_U (walksX (od := od) W (Nat.ne_of_lt hlt)) hsz (fun i h st => hI i h st.1) (stX W) hcell hkind hx ⟨st, up _ _ er⟩ (fun b hb => ?_)
    (F.keeps up) (N.grown up) (Nat.ne_of_lt F.ns.lt) (next_is_new F) (fun p hp => Nat.ne_of_lt (Heap.lt_size (N p hp).1)) S (R _) ?_
  · show b < (s₁.heap.push _).objs.size
    rw [Heap.size_push]
    rcases List.mem_cons.mp hb with rfl | hb
    · exact Nat.lt_succ_self _
    · rw [List.mem_singleton.mp hb]; exact Nat.lt_succ_of_lt hlt
  · intro D C h tk m' ys news' F' N' o1 hn hC₀ hD₀ hCL hDL hCD offC fin
    refine ⟨m', hn, fun h'' hs'' => fin D h'' tk (F'.change hs'' hCL hC₀) (fun p hp => ⟨hs''.extBut _ _ ?_ (N' p hp).1, (N' p hp).2⟩) o1⟩
    rcases List.mem_cons.mp hp with rfl | hp
    · exact Ne.symm hCD
    · exact offC p hp

theorem ListComp_XT {ct elt iter : Expr} {x : Str} {px : Pos} {scope : Scope} {cl : List (Str × Addr)} {pos : Pos} {Q : Value → Shared → Prop} (F₀ : Fr h₀ L s.heap m)
    (hclos : closureFor scope env = pure cl) (hcell : ∀ y ∈ scope.names, y.2 ≠ .cell) (hkind : scope.kind = .function)
    (hnames : ∀ y ∈ scope.names, y.2 = .local → scope.names.lookup y.1 = some .local) (hx : scope.names.lookup x = some .local)
    (h : wpAny (model prog w) A (eval iter env) (CompX prog w A h₀ L m fun s₂ S P n news => CompRestT prog w A h₀ L m env ct elt x scope cl s₂ S P (FinE h₀ L m s₂ Q) n 0 [] news) E s)
    (hs : ∀ x, foldedSetIterable iter env x = pure x := by intro _; rfl) :
    wpAny (model prog w) A (eval (.ListComp elt [⟨.Name x px, iter, [ct], 0⟩] scope pos) env) Q E s := by
  rw [eval_ListComp]
  refine wpAny_comprehension_free (use := none) rfl hs hclos hkind hnames (wpAny_mono h (fun xv s₁ h₁ => ?_) fun _ _ e => e)
  obtain ⟨r, od, n, P, OK, news, rfl, hh, F, N, K, hok, S, hsz, R⟩ := h₁
  have er := S.get F.keep N
  have ok := hok _ er
  have hlt := K.there _ ok
  obtain ⟨oI, St, hit, W, st, hI⟩ := K.iter A s₁ hh ok
  refine hit _ _ ?_
  have up : ∀ b o, s₁.heap.get? b = some o → (s₁.heap.push oI).get? b = some o := fun b o e => Heap.get?_push_of_some _ e
  refine block_T (walksX (od := od) W (Nat.ne_of_lt hlt)) hsz (fun i h st => hI i h st.1) (stX W) hcell hkind hx ⟨st, up _ _ er⟩ (fun b hb => ?_)
    (F.keeps up) (N.grown up) (Nat.ne_of_lt F.ns.lt) (next_is_new F) (fun p hp => Nat.ne_of_lt (Heap.lt_size (N p hp).1)) S (R _) ?_
  · show b < (s₁.heap.push _).objs.size
    rw [Heap.size_push]
    rcases List.mem_cons.mp hb with rfl | hb
    · exact Nat.lt_succ_self _
    · rw [List.mem_singleton.mp hb]; exact Nat.lt_succ_of_lt hlt
  · intro D C h tk m' ys news' F' N' o1 hn hC₀ hD₀ hCL hDL hCD offC fin
    refine ⟨m', hn, fun h'' hs'' => fin D h'' tk (F'.change hs'' hCL hC₀) (fun p hp => ⟨hs''.extBut _ _ ?_ (N' p hp).1, (N' p hp).2⟩) o1⟩
    rcases List.mem_cons.mp hp with rfl | hp
    · exact Ne.symm hCD
    · exact offC p hp

/-- turns by an invariant -/
theorem restT_inv {ct elt : Expr} {x : Str} {scope : Scope} {cl : List (Str × Addr)} {S : Ldg → Prop} {P : Nat → Value → Prop} {Fin : List Value → Ldg → Prop} {n : Nat} {news : Ldg} (J : Nat → List Value → Ldg → Prop) (h0 : J 0 [] news)
    (turn : ∀ i ys news v I oI C oC D m₂ h tk (E' : Value → Shared → Prop), i < n → J i ys news → P i v → NsObj oC m₂ → m₂ x = some v → Fr h₀ L h m → News h₀ L h ((I, oI) :: (C, oC) :: (D, lst ys) :: news) → Off3 I C D news → ((@Ne Nat I C) ∧ (@Ne Nat I D) ∧ (@Ne Nat C D)) →
      wpAny (model prog w) A (isTrue ct (compEnvC scope cl C env) (eval ct (compEnvC scope cl C env))) (fun ok s' => if ok = true then
        wpAny (model prog w) A (eval elt (compEnvC scope cl C env)) (CompEnd h₀ L m { s with heap := h, toks := tk } I oI C oC D (lst ys) S (fun y news' => J (i + 1) (ys ++ [y]) news')) E' s'
        else CompEnd h₀ L m { s with heap := h, toks := tk } I oI C oC D (lst ys) S (fun _ news' => J (i + 1) ys news') Value.none s') E' { s with heap := h, toks := tk })
    (done : ∀ ys news, J n ys news → Fin ys news) : CompRestT prog w A h₀ L m env ct elt x scope cl s S P Fin n 0 [] news := by
  have go : ∀ k i ys news, i + k = n → J i ys news → CompRestT prog w A h₀ L m env ct elt x scope cl s S P Fin k i ys news := by
    intro k
    induction k with
    | zero => intro i ys news e hj; exact CompRestT.zero (done ys news (by rw [Nat.add_zero] at e; exact e ▸ hj))
    | succ k ih =>
      intro i ys news e hj
      refine CompRestT.succ fun v I oI C oC D m₂ h tk E' hv hC hx F N off ne => ?_
      refine wpAny_mono (turn i ys news v I oI C oC D m₂ h tk E' (by omega) hj hv hC hx F N off ne) (fun ok s' q => ?_) fun _ _ e => e
      cases ok with
      | true =>
        simp only [if_true] at q ⊢
        refine wpAny_mono q (fun y s₅ z => ?_) fun _ _ e => e
        obtain ⟨h', tk', news', e1, F', N', o', S', J'⟩ := z
        exact ⟨h', tk', news', e1, F', N', o', S', ih (i + 1) _ _ (by omega) J'⟩
      | false =>
        simp only [Bool.false_eq_true, if_false] at q ⊢
        obtain ⟨h', tk', news', e1, F', N', o', S', J'⟩ := q
        exact ⟨h', tk', news', e1, F', N', o', S', ih (i + 1) _ _ (by omega) J'⟩
  exact go n 0 [] news (Nat.zero_add _) h0

inductive Drop3 (I : Addr) (oI : Obj) (C : Addr) (oC : Obj) (D : Addr) (oD : Obj) : Ldg → Ldg → Prop
  | here {r : Ldg} : Drop3 I oI C oC D oD ((I, oI) :: (C, oC) :: (D, oD) :: r) r
  | keep {p : Addr × Obj} {l r : Ldg} : Drop3 I oI C oC D oD l r → Drop3 I oI C oC D oD (p :: l) (p :: r)
theorem Drop3.sub {I C D : Addr} {oI oC oD : Obj} {l r : Ldg} (x : Drop3 I oI C oC D oD l r) : ∀ p ∈ (I, oI) :: (C, oC) :: (D, oD) :: r, p ∈ l := by
  induction x with
  | here => exact fun _ h => h
  | keep _ ih =>
    intro p hp
    rcases List.mem_cons.mp hp with rfl | hp
    · exact .tail _ (ih _ (.head _))
    rcases List.mem_cons.mp hp with rfl | hp
    · exact .tail _ (ih _ (.tail _ (.head _)))
    rcases List.mem_cons.mp hp with rfl | hp
    · exact .tail _ (ih _ (.tail _ (.tail _ (.head _))))
    rcases List.mem_cons.mp hp with rfl | hp
    · exact .head _
    · exact .tail _ (ih _ (.tail _ (.tail _ (.tail _ hp))))
theorem compEnd {I C D : Addr} {s₁ : Shared} {oI oC oD : Obj} {S : Ldg → Prop} {rest : Value → Ldg → Prop} {y : Value} {h' : Heap} {tk : Nat} {all news' : Ldg}
    (F : Fr h₀ L h' m) (N : News h₀ L h' all) (sub : Drop3 I oI C oC D oD all news') (off : Off3 I C D news') (hS : S news') (r : rest y news') :
    CompEnd h₀ L m s₁ I oI C oC D oD S rest y { s₁ with heap := h', toks := tk } := CompEnd.intro F N news' sub.sub off hS r
theorem off3_cdr {I C D : Addr} {p : Addr × Obj} {r : Ldg} (h : Off3 I C D (p :: r)) : Off3 I C D r := h.2
theorem off3_cons {I C D : Addr} {p : Addr × Obj} {r : Ldg} (h1 : @Ne Nat p.1 I) (h2 : @Ne Nat p.1 C) (h3 : @Ne Nat p.1 D) (h : Off3 I C D r) : Off3 I C D (p :: r) := ⟨⟨h1, h2, h3⟩, h⟩
theorem off1_cdr {D : Addr} {p : Addr × Obj} {r : Ldg} (h : Off1 D (p :: r)) : Off1 D r := h.2
end
theorem all_ne {d e : Addr} {l : Ldg} (h : AllLt d l) (hde : @LE.le Nat _ d e) : ∀ p ∈ l, p.1 ≠ e := fun p hp => Nat.ne_of_lt (Nat.lt_of_lt_of_le (lt_of_allLt h p hp) hde)
theorem all_ne' {d e : Addr} {l : Ldg} (h : ∀ p ∈ l, p.1 < d) (hde : @LE.le Nat _ d e) : ∀ p ∈ l, p.1 ≠ e := fun p hp => Nat.ne_of_lt (Nat.lt_of_lt_of_le (h p hp) hde)
theorem pairs_one {prog : Program} {w : World} {K : Type} [DecidableEq K] {knd : KeyKind prog w K} {es : List DictEntry} {k : K} {v : Value} {r : List (K × Value)} (h : Pairs knd es ((k, v) :: r)) : ∃ e es', es = e :: es' ∧ knd.is k e.key = true ∧ Pairs knd es' r := by
  cases h with
  | cons h1 _ h3 => exact ⟨_, _, rfl, h1, h3⟩
theorem int_key {prog : Program} {w : World} {k : Int} {v : Value} (h : (PySem.intKind prog w).is k v = true) : ∃ t, v = .int k t := Value.isInt_shape h
theorem dict2 {prog : Program} {w : World} {o : Obj} {a b : Int} {va vb : Value} (P : o.IsDictOf (PySem.intKind prog w) [(a, va), (b, vb)]) : ∃ t1 t2 ep, ∀ h d, h.get? d = some o → AnyD h d [.int a t1, .int b t2] ep := by
  obtain ⟨es, ep, h1, h2, _, h4, _⟩ := P
  obtain ⟨e1, r1, q1, k1, p1⟩ := pairs_one h4
  obtain ⟨e2, r2, q2, k2, p2⟩ := pairs_one p1
  obtain ⟨t1, k1⟩ := int_key k1
  obtain ⟨t2, k2⟩ := int_key k2
  cases p2
  exact ⟨t1, t2, ep, fun h d e => ⟨o, es, e, h1, h2, by rw [q1, q2]; simp [k1, k2]⟩⟩
end Mine

namespace Mine
/-! what adds up -/
theorem pow_pos' (b : Int) : (0 : Int) < 2 ^ b.toNat := Int.pow_pos (by decide)
theorem sorts_add (b : Int) (way : Str) (rows : List Row) : ((look (counts (2 ^ b.toNat) rows) [way, Str.ofString "single"] + (look (counts (2 ^ b.toNat) rows) [way, Str.ofString "group"] + (look (counts (2 ^ b.toNat) rows) [way, Str.ofString "broadcast"] + 0))).fmod (2 ^ b.toNat) ==
    look (counts (2 ^ b.toNat) rows) [way, Str.ofString "frames"]) = true := by
  have hM := pow_pos' b
  simp only [look_counts hM]
  rw [fmod_pos hM, toldRows_sorts way rows, beq_iff_eq]
  generalize (2 : Int) ^ b.toNat = M at *
  simp [Int.add_emod, Int.emod_emod_of_dvd]
theorem sizes_add (b : Int) (way : Str) (rows : List Row) : ((look (counts (2 ^ b.toNat) rows) [way, Str.ofString "size", Str.ofString "64"] + (look (counts (2 ^ b.toNat) rows) [way, Str.ofString "size", Str.ofString "65 to 127"] + (look (counts (2 ^ b.toNat) rows) [way, Str.ofString "size", Str.ofString "128 to 255"] +
    (look (counts (2 ^ b.toNat) rows) [way, Str.ofString "size", Str.ofString "256 to 511"] + (look (counts (2 ^ b.toNat) rows) [way, Str.ofString "size", Str.ofString "512 to 1023"] + (look (counts (2 ^ b.toNat) rows) [way, Str.ofString "size", Str.ofString "1024 to 1518"] + (look (counts (2 ^ b.toNat) rows) [way, Str.ofString "size", Str.ofString "more"] + 0))))))).fmod (2 ^ b.toNat) ==
    look (counts (2 ^ b.toNat) rows) [way, Str.ofString "frames"]) = true := by
  have hM := pow_pos' b
  simp only [look_counts hM]
  rw [fmod_pos hM, toldRows_sizes way rows, beq_iff_eq]
  generalize (2 : Int) ^ b.toNat = M at *
  simp [Int.add_emod, Int.emod_emod_of_dvd]
end Mine

namespace Mine
/-! what is told: the rows of a port, as data -/
def keyDat (k : Key) : Dat := .tuple (k.map .str)
def rowDat (al : AL) (k : Key) : Dat := .tuple [keyDat k, .int (look al k)]
def dats (al : AL) (ks : List Key) : List Dat := (ks.filter fun k => decide (0 < look al k)).map (rowDat al)
def told_ (al : AL) : List Dat := dats al (sortedKeys (al.map (·.1)))
theorem StrsAre.dat {nw : Ldg} {vs : List Value} {k : Key} (h : StrsAre vs k) : DatAll nw vs (k.map .str) := by
  induction h with
  | nil => exact .nil
  | cons _ ih => exact .cons (.str _ _) ih
theorem KeyO.dat {nw : Ldg} {a : Addr} {o : Obj} {k : Key} (h : KeyO o k) (hm : (a, o) ∈ nw) : DatIn nw (.ref a) (keyDat k) := by
  obtain ⟨vs, n, rfl, hs⟩ := h
  exact .tuple hm hs.dat
def ToldJ (al : AL) (ks : List Key) (sg nw0 : Ldg) (i : Nat) (ys : List Value) (nws : Ldg) : Prop := ∃ ext, nws = ext ++ nw0 ∧ Tups ext ∧ DatAll (ext ++ sg) ys (dats al (ks.take i))
theorem toldJ_zero {al : AL} {ks : List Key} {sg nw0 : Ldg} : ToldJ al ks sg nw0 0 [] nw0 := ⟨[], rfl, Tups.nil, .nil⟩
theorem dats_take {al : AL} {ks : List Key} {i : Nat} (h : i < ks.length) : dats al (ks.take (i + 1)) = dats al (ks.take i) ++ (if 0 < look al (ks.getD i []) then [rowDat al (ks.getD i [])] else []) := by
  unfold dats
  rw [List.take_add_one, List.getElem?_eq_getElem h]
  have e : ks.getD i [] = ks[i] := by simp [h]
  rw [e]
  simp only [Option.toList_some, List.filter_append, List.map_append]
  split <;> simp_all
theorem toldJ_more {al : AL} {ks : List Key} {sg ext nw0 : Ldg} {i : Nat} {ys : List Value} {T ka : Addr} {ko : Obj} {n : Nat} {t : Tok} (hT : Tups ext) (hd : DatAll (ext ++ sg) ys (dats al (ks.take i))) (hi : i < ks.length)
    (hm : (ka, ko) ∈ sg) (hk : KeyO ko (ks.getD i [])) (hpos : 0 < look al (ks.getD i [])) :
    ToldJ al ks sg nw0 (i + 1) (ys ++ [.ref T]) ((T, ({ cls := .type "tuple", data := .seq (List.toArray [Value.ref ka, .int (look al (ks.getD i [])) t]) n } : Obj)) :: (ext ++ nw0)) := by
  refine ⟨(T, _) :: ext, rfl, Tups.cons rfl hT, ?_⟩
  rw [dats_take hi, if_pos hpos]
  refine (hd.mono fun p hp => .tail _ hp).append (.one (.tuple (.head _) (.cons (hk.dat (.tail _ (List.mem_append_right _ hm))) (.one (.int _ _)))))
theorem toldJ_skip {al : AL} {ks : List Key} {sg ext nw0 : Ldg} {i : Nat} {ys : List Value} (hT : Tups ext) (hd : DatAll (ext ++ sg) ys (dats al (ks.take i))) (hi : i < ks.length) (hpos : ¬ 0 < look al (ks.getD i [])) :
    ToldJ al ks sg nw0 (i + 1) ys (ext ++ nw0) := by
  refine ⟨ext, rfl, hT, ?_⟩
  rw [dats_take hi, if_neg hpos, List.append_nil]
  exact hd
theorem has_of_mem {al : AL} {k : Key} (h : k ∈ al.map (·.1)) : has al k = true := (has_iff al k).mpr h
theorem getD_mem {ks : List Key} {i : Nat} (h : i < ks.length) : ks.getD i [] ∈ ks := by simp [h]
theorem sorted_mem {ks : List Key} : ∀ i, i < (sortedKeys ks).length → (sortedKeys ks).getD i [] ∈ ks := by
  intro i hi
  have hl : i < (order ks).length := by simpa [sortedKeys] using hi
  have e : (sortedKeys ks).getD i [] = ks.getD ((order ks)[i]) [] := by simp [sortedKeys, hl]
  have hlt := order_lt ks _ (List.getElem_mem hl)
  rw [e]
  simp [hlt]
/-- a key's strs may stand in a comparison -/
def KOk (k : Key) : Prop := ∀ x ∈ k, PyData.strOk x = true
theorem rowDat_ok {al : AL} {k : Key} (h : KOk k) : kqdOk 8 (rowDat al k) = true := by
  simp only [rowDat, keyDat, kqdOk, List.all_cons, List.all_nil, Bool.and_true]
  simp only [List.all_map, List.all_eq_true]
  intro x hx
  exact h x hx
theorem told_ok {al : AL} (h : ∀ x ∈ al, KOk x.1) : ∀ d ∈ told_ al, kqdOk 8 d = true := by
  intro d hd
  unfold told_ dats at hd
  obtain ⟨k, hk, rfl⟩ := List.mem_map.mp hd
  have hk := (List.mem_filter.mp hk).1
  obtain ⟨i, hi, rfl⟩ := List.mem_map.mp hk
  have hlt := order_lt _ i hi
  have hm := getD_mem hlt
  obtain ⟨x, hx, e⟩ := List.mem_map.mp hm
  rw [← e]
  exact rowDat_ok (h x hx)
theorem sorted_length (ks : List Key) : (sortedKeys ks).length = ks.length := by simp [sortedKeys, order_length]
theorem KRefs.at {sg : Ldg} {vs : List Value} {ks : List Key} {i : Nat} {v : Value} (H : KRefs sg vs ks) (hv : vs.toArray[i]? = some v ∨ vs[i]? = some v) : i < ks.length ∧ ∃ a o, v = .ref a ∧ (a, o) ∈ sg ∧ KeyO o (ks.getD i []) := by
  have hv' : vs[i]? = some v := by
    rcases hv with h | h
    · simpa using h
    · exact h
  have hi : i < vs.length := by
    rcases Nat.lt_or_ge i vs.length with h | h
    · exact h
    · rw [List.getElem?_eq_none h] at hv'; cases hv'
  have hk : i < ks.length := by rw [← H.length]; exact hi
  obtain ⟨a, o, e, hm, hko⟩ := H.get i hk
  refine ⟨hk, a, o, ?_, hm, hko⟩
  rw [← e, List.getD_eq_getElem?_getD, hv']
  rfl
theorem led_sub {I C D : Addr} {ext l sg : Ldg} {a b : Addr × Obj} (_ : LCg.Off3 I C D (ext ++ a :: b :: l)) (S : ∀ p ∈ sg, p ∈ l) : ∀ p ∈ sg, p ∈ ext ++ a :: b :: l := fun p hp => List.mem_append_right _ (.tail _ (.tail _ (S p hp)))
theorem led_l {I C D : Addr} {ext l : Ldg} {a b p : Addr × Obj} (_ : LCg.Off3 I C D (ext ++ a :: b :: l)) (h : p ∈ l) : p ∈ ext ++ a :: b :: l := List.mem_append_right _ (.tail _ (.tail _ h))
theorem led_a {I C D : Addr} {ext l : Ldg} {a b : Addr × Obj} (_ : LCg.Off3 I C D (ext ++ a :: b :: l)) : a ∈ ext ++ a :: b :: l := List.mem_append_right _ (.head _)
theorem led_b {I C D : Addr} {ext l : Ldg} {a b : Addr × Obj} (_ : LCg.Off3 I C D (ext ++ a :: b :: l)) : b ∈ ext ++ a :: b :: l := List.mem_append_right _ (.tail _ (.head _))
section
variable {prog : Program} {w : World} {A : Around} {E : Value → Shared → Prop} {s : Shared} {h₀ : Heap} {L d ka : Addr} {nw sg : Ldg} {o ko : Obj} {al : AL} {k : Key}
theorem cd_item {value slice : PySem.Expr} {Q : Value → Shared → Prop} (hu : A.units + 1 < cLine) (N : News h₀ L s.heap nw) (S : ∀ p ∈ sg, p ∈ nw) (hd : (d, o) ∈ nw) (C : CD prog w sg o al) (hk : (ka, ko) ∈ nw) (hko : KeyO ko k) (hin : has al k = true)
    (h : ∀ t n, Q (.int (look al k) t) { s with toks := n })
    (hs : subscripted slice false (.ref d) (.ref ka) = operate [.ref d, .ref ka] (getItem (.ref d) (.ref ka)) := by with_unfolding_all rfl) (hg : ∀ r, letTemporaryGo value (.ref d) r = pure () := by intro _; with_unfolding_all rfl) :
    wpAny (model prog w) A (subscriptTail value slice (.ref d) (.ref ka)) Q E s :=
  subscriptTail_builtin (T := "dict") ⟨o, (N _ hd).1, C.cls⟩ slot_dict_getitem.lookup (cd_getItem hu N S hd C hk hko hin h) hs hg
end
end Mine

namespace Mine
/-! for over a source, by an invariant over the frame's map and the ledger, which may grow -/
open LCg
def FEnd (h₀ : Heap) (L I : Addr) (oI : Obj) (S : Ldg → Prop) (J : (Str → Option Value) → Ldg → Prop) (Q : Flow → Shared → Prop) (s₁ : Shared) (f : Flow) (s₂ : Shared) : Prop := match f with
  | .ret v => Q (.ret v) s₂
  | .brk => Q .next s₂
  | _ => ∃ h tk m' nw', s₂ = { s₁ with heap := h, toks := tk } ∧ Fr h₀ L h m' ∧ News h₀ L h ((I, oI) :: nw') ∧ Off1 I nw' ∧ S nw' ∧ J m' nw'
theorem FEnd.next {h₀ : Heap} {L I : Addr} {oI : Obj} {S : Ldg → Prop} {J : (Str → Option Value) → Ldg → Prop} {Q : Flow → Shared → Prop} {s₁ : Shared} {h : Heap} {tk : Nat} {m' : Str → Option Value} {all nw' : Ldg}
    (F : Fr h₀ L h m') (N : News h₀ L h all) (sub : ∀ p ∈ (I, oI) :: nw', p ∈ all) (off : Off1 I nw') (hS : S nw') (hJ : J m' nw') : FEnd h₀ L I oI S J Q s₁ .next { s₁ with heap := h, toks := tk } := ⟨h, tk, m', nw', rfl, F, news_sub N sub, off, hS, hJ⟩
theorem FEnd.ret {h₀ : Heap} {L I : Addr} {oI : Obj} {S : Ldg → Prop} {J : (Str → Option Value) → Ldg → Prop} {Q : Flow → Shared → Prop} {s₁ s₂ : Shared} {v : Value} (h : Q (.ret v) s₂) : FEnd h₀ L I oI S J Q s₁ (.ret v) s₂ := h
theorem off1_of {I : Addr} : ∀ {l : Ldg}, (∀ p ∈ l, p.1 ≠ I) → Off1 I l
  | [], _ => trivial
  | _ :: _, h => ⟨h _ (.head _), off1_of fun p hp => h p (.tail _ hp)⟩
theorem off1_mem {I : Addr} {l : Ldg} : Off1 I l → ∀ p ∈ l, p.1 ≠ I := by
  induction l with
  | nil => intro _ p h; cases h
  | cons q r ih =>
    intro x p h
    rcases List.mem_cons.mp h with rfl | h
    · exact x.1
    · exact ih x.2 p h
theorem off1_sub {I : Addr} {l l' : Ldg} (h : Off1 I l) (s : ∀ p ∈ l', p ∈ l) : Off1 I l' := off1_of fun p hp => off1_mem h p (s p hp)
theorem off1_app {I : Addr} {l l' : Ldg} (h : Off1 I l) (h' : Off1 I l') : Off1 I (l ++ l') := off1_of fun p hp => (List.mem_append.mp hp).elim (off1_mem h p) (off1_mem h' p)

def ItO (o : Obj) : Prop := o.cls ≠ .type "tuple" ∧ o.cls ≠ .type "list" ∧ o.cls ≠ .type "dict"
theorem itO_range {f : Array Value} : ItO { cls := .type "range_iterator", data := .fields f } := ⟨show Value.type "range_iterator" ≠ _ by decide, show Value.type "range_iterator" ≠ _ by decide, show Value.type "range_iterator" ≠ _ by decide⟩
def ForAt (prog : Program) (w : World) (A : Around) (E : Value → Shared → Prop) (env : Env) (target : Expr) (body : List Stmt) (Q : Flow → Shared → Prop) (xv : Value) (s : Shared) : Prop :=
  wpAny (model prog w) A (pyIter xv) (fun it s₂ => codeAny (model prog w) A (.forLoop target it body [] env) (fun r s' => match r with | .ok f => Q f s' | .error e => cameBackBy (model prog w) A env E e s') s₂) E s
section
variable {prog : Program} {w : World} {A : Around} {E : Value → Shared → Prop} {s : Shared} {h₀ : Heap} {env : Env} {target : Expr} {body : List Stmt} {Q : Flow → Shared → Prop} {m : Str → Option Value} {nw : Ldg}
theorem for_at {iter : Expr} {pos : Pos} (h : wpAny (model prog w) A (eval iter env) (ForAt prog w A E env target body Q) E s) (hs : ∀ x, foldedSetIterable iter env x = pure x := by intro _; rfl) :
    wpAny (model prog w) A (exec (.For target iter body [] pos) env) Q E s := wpAny_For h hs

theorem for_core {r : Value} {fp : List Addr} {n : Nat} {P : Nat → Value → Prop} {St : Nat → Heap → Prop} {oI : Obj} {S : Ldg → Prop} (J : Nat → (Str → Option Value) → Ldg → Prop)
    (hit : ∀ (E : Value → Shared → Prop) (Q : Value → Shared → Prop), Q (.ref s.heap.objs.size) { s with heap := s.heap.push oI } → wpAny (model prog w) A (pyIter r) Q E s)
    (W : Walks prog w A s.heap.objs.size fp [s.heap.objs.size] n P St) (st0 : St 0 (s.heap.push oI)) (hIo : ∀ i h, St i h → ∃ o, h.get? s.heap.objs.size = some o ∧ ItO o)
    (hSt : ∀ i (h h' : Heap) (o : Obj) (nw : Ldg), St i h → h.get? s.heap.objs.size = some o → h'.get? s.heap.objs.size = some o → (∀ b o, h₀.get? b = some o → h'.get? b = some o) → News h₀ env.locals h' nw → S nw → St i h')
    (hgo : ∀ i v (s' : Shared) (Q' : Unit → Shared → Prop) (E' : Value → Shared → Prop), St i s'.heap → Q' () s' → wpAny (model prog w) A (letOwnedTupleGo target (.ref s.heap.objs.size) v) Q' E' s')
    (F : Fr h₀ env.locals s.heap m) (N : News h₀ env.locals s.heap nw) (hS : S nw) (hE : PassesOwn (model prog w) A env E) (h0 : J 0 m nw)
    (turn : ∀ i v m₁ nw₁ I oI h tk, i < n → P i v → J i m₁ nw₁ → S nw₁ → Fr h₀ env.locals h m₁ → News h₀ env.locals h ((I, oI) :: nw₁) → Off1 I nw₁ → ItO oI →
      wpAny (model prog w) A (assign target env v) (fun _ s₂ => wpAny (model prog w) A (execs body env) (FEnd h₀ env.locals I oI S (J (i + 1)) Q { s with heap := h, toks := tk }) E s₂) E { s with heap := h, toks := tk })
    (done : ∀ m₁ nw₁ h tk, J n m₁ nw₁ → Fr h₀ env.locals h m₁ → News h₀ env.locals h nw₁ → Q .next { s with heap := h, toks := tk }) :
    ForAt prog w A E env target body Q r s := by
  refine hit _ _ ?_
  have hnwlt : ∀ p ∈ nw, @LT.lt Nat _ p.1 s.heap.objs.size := fun p hp => Heap.lt_size (N p hp).1
  have hL : @LT.lt Nat _ env.locals s.heap.objs.size := F.ns.lt
  have hnone : h₀.get? s.heap.objs.size = none := next_is_new F
  have up : ∀ b o, s.heap.get? b = some o → (s.heap.push oI).get? b = some o := fun b o e => Heap.get?_push_of_some _ e
  have F0 := F.keeps up
  have N0 := N.grown up
  generalize s.heap.objs.size = I at *
  generalize s.heap.push oI = hp0 at *
  refine codeAny_forLoop_any
    (fun k s' => ∃ h' tk m' nw' i, s' = { s with heap := h', toks := tk } ∧ St i h' ∧ Fr h₀ env.locals h' m' ∧ News h₀ env.locals h' nw' ∧ Off1 I nw' ∧ S nw' ∧ J i m' nw' ∧ i ≤ n ∧ k = n + 1 - i) ?_ (n + 1)
    ⟨hp0, s.toks, m, nw, 0, rfl, st0, F0, N0, off1_of fun p hp => neN (Nat.ne_of_lt (hnwlt p hp)), hS, h0, Nat.zero_le _, rfl⟩
  rintro k s' ⟨h', tk, m', nw', i, rfl, hst', F', N', off', S', hJ, hi, rfl⟩
  have next : ∀ h₁ : Heap, (∀ b o, b ∉ [I] → h'.get? b = some o → h₁.get? b = some o) → Fr h₀ env.locals h₁ m' ∧ News h₀ env.locals h₁ nw' := fun h₁ hk₁ =>
    ⟨⟨F'.ns.at' fun o e => hk₁ _ o (by simpa using Nat.ne_of_lt hL) e, fun b o e => hk₁ b o (fun q => by rw [List.mem_singleton.mp q, hnone] at e; cases e) (F'.keep b o e), F'.above⟩,
      fun p hp => ⟨hk₁ _ _ (by simpa using off1_mem off' p hp) (N' p hp).1, (N' p hp).2⟩⟩
  by_cases hlt : i < n
  · refine W.item i _ _ _ hlt hst' fun v h₁ tk₁ hPv hst₁ hk₁ => ?_
    obtain ⟨F₁, N₁⟩ := next h₁ hk₁
    refine hgo _ _ _ _ _ hst₁ ?_
    obtain ⟨oI₁, heI, hIt⟩ := hIo _ _ hst₁
    have N₁' : News h₀ env.locals h₁ ((I, oI₁) :: nw') := fun p hp => by
      rcases List.mem_cons.mp hp with rfl | hp
      · exact ⟨heI, neN (Nat.ne_of_gt hL), hnone⟩
      · exact N₁ p hp
    refine wpAny_mono (wpAny_passesOwn hE (turn i v m' nw' I oI₁ h₁ tk₁ hlt hPv hJ S' F₁ N₁' off' hIt)) (fun _ s₂ q => wpAny_mono (wpAny_passesOwn hE q) (fun f s₃ q => ?_) fun _ _ e => e) fun _ _ e => e
    have fin : (∃ h tk m' nw', s₃ = { s with heap := h, toks := tk } ∧ Fr h₀ env.locals h m' ∧ News h₀ env.locals h ((I, oI₁) :: nw') ∧ Off1 I nw' ∧ S nw' ∧ J (i + 1) m' nw') →
        ∃ m, m < n + 1 - i ∧ ∃ h' tk m' nw' i, s₃ = { s with heap := h', toks := tk } ∧ St i h' ∧ Fr h₀ env.locals h' m' ∧ News h₀ env.locals h' nw' ∧ Off1 I nw' ∧ S nw' ∧ J i m' nw' ∧ i ≤ n ∧ m = n + 1 - i := by
      rintro ⟨h₃, tk₃, m₃, nw₃, rfl, F₃, N₃, off₃, S₃, J₃⟩
      have N₃' : News h₀ env.locals h₃ nw₃ := fun p hp => N₃ p (.tail _ hp)
      exact ⟨n + 1 - (i + 1), by omega, h₃, tk₃, m₃, nw₃, i + 1, rfl, hSt _ _ _ _ _ hst₁ heI (N₃ _ (.head _)).1 F₃.keep N₃' S₃, F₃, N₃', off₃, S₃, J₃, hlt, rfl⟩
    cases f with
    | ret v => exact q
    | brk => exact q
    | next => exact fin q
    | cont => exact fin q
  · obtain rfl : i = n := by omega
    refine W.done _ _ _ hst' fun h₁ tk₁ hk₁ => wpAny_execs_nil ?_
    obtain ⟨F₁, N₁⟩ := next h₁ hk₁
    exact done m' nw' h₁ tk₁ hJ F₁ N₁

def NameOrTuple : Expr → Prop
  | .Name _ _ => True
  | .Tuple _ _ _ => True
  | _ => False
theorem for_list {l : Addr} {vs : List Value} {k : Nat} (J : Nat → (Str → Option Value) → Ldg → Prop) (hh : A.handled = none) (F : Fr h₀ env.locals s.heap m) (N : News h₀ env.locals s.heap nw) (hm : (l, W.listOf (List.toArray vs) k) ∈ nw)
    (hT : NameOrTuple target) (hE : PassesOwn (model prog w) A env E) (h0 : J 0 m nw)
    (turn : ∀ i v m₁ nw₁ I oI h tk, i < vs.length → vs[i]? = some v → J i m₁ nw₁ → (l, W.listOf (List.toArray vs) k) ∈ nw₁ → Fr h₀ env.locals h m₁ → News h₀ env.locals h ((I, oI) :: nw₁) → Off1 I nw₁ → ItO oI →
      wpAny (model prog w) A (assign target env v) (fun _ s₂ => wpAny (model prog w) A (execs body env) (FEnd h₀ env.locals I oI (fun nw' => (l, W.listOf (List.toArray vs) k) ∈ nw') (J (i + 1)) Q { s with heap := h, toks := tk }) E s₂) E { s with heap := h, toks := tk })
    (done : ∀ m₁ nw₁ h tk, J vs.length m₁ nw₁ → Fr h₀ env.locals h m₁ → News h₀ env.locals h nw₁ → Q .next { s with heap := h, toks := tk }) :
    ForAt prog w A E env target body Q (.ref l) s := by
  have hl : s.heap.IsList l vs.toArray := ⟨_, (N _ hm).1, rfl, _, rfl⟩
  have hlt : l < s.heap.objs.size := Heap.lt_size (N _ hm).1
  have W1 := Walks.list (prog := prog) (w := w) hh s.heap.objs.size l (Nat.ne_of_lt hlt) vs.toArray
  have W2 := walksX (od := W.listOf (List.toArray vs) k) W1 (Nat.ne_of_lt hlt)
  refine for_core (S := fun nw' => (l, W.listOf (List.toArray vs) k) ∈ nw') J (fun E Q hq => wpAny_pyIter_list hl hq) W2 ⟨⟨⟨_, Heap.get?_push_size _ rfl, rfl, rfl⟩, hl.push _⟩, Heap.get?_push_of_some _ (N _ hm).1⟩
    (fun i h st => let ⟨o, ho, hc, _⟩ := st.1.1; ⟨o, ho, by rw [hc]; decide, by rw [hc]; decide, by rw [hc]; decide⟩) (fun i h h' o nw st e e' k2 N2 S2 => stX (od := W.listOf (List.toArray vs) k) W1 i h h' o nw st e e' k2 N2 (.inr S2)) (fun i v s' Q' E' st hq => ?_) F N hm hE h0 ?_ ?_
  · cases target with
    | Name x p => exact wpAny_pure hq
    | Tuple elts x1 pos =>
      cases v with
      | ref a => exact wpAny_letOwnedTupleGo_listiter st.1.1 hq
      | _ => exact wpAny_pure hq
    | _ => exact hT.elim
  · intro i v m₁ nw₁ I oI h tk hi hP
    exact turn i v m₁ nw₁ I oI h tk (by simpa using hi) (by simpa using hP)
  · intro m₁ nw₁ h tk hJ
    exact done m₁ nw₁ h tk (by simpa using hJ)
theorem for_range {r : Addr} {a b : Int} {t u v : Tok} {n : Nat} {x : Str} {px : Pos} (J : Nat → (Str → Option Value) → Ldg → Prop) (hh : A.handled = none) (hr : IsRange s.heap r a b 1 t u v) (hsm : Builtin.Range.small a b 1 = true) (hn : Builtin.Range.rangeSize a b 1 = ((n : Nat) : Int))
    (F : Fr h₀ env.locals s.heap m) (N : News h₀ env.locals s.heap nw) (hE : PassesOwn (model prog w) A env E) (h0 : J 0 m nw)
    (turn : ∀ i v t m₁ nw₁ I oI h tk, i < n → v = .int (a + (i : Int)) t → J i m₁ nw₁ → Fr h₀ env.locals h m₁ → News h₀ env.locals h ((I, oI) :: nw₁) → Off1 I nw₁ → ItO oI →
      wpAny (model prog w) A (assign (.Name x px) env v) (fun _ s₂ => wpAny (model prog w) A (execs body env) (FEnd h₀ env.locals I oI (fun _ => True) (J (i + 1)) Q { s with heap := h, toks := tk }) E s₂) E { s with heap := h, toks := tk })
    (done : ∀ m₁ nw₁ h tk, J n m₁ nw₁ → Fr h₀ env.locals h m₁ → News h₀ env.locals h nw₁ → Q .next { s with heap := h, toks := tk }) :
    ForAt prog w A E env (.Name x px) body Q (.ref r) s := by
  refine for_core (S := fun _ => True) (P := fun i v => ∃ t, v = .int (a + (i : Int)) t) J (fun E Q hq => wpAny_pyIter_range hr hsm hq) (LCg.range_walks hh a n) (by show IsRangeIter _ _ _ _ _; rw [hn]; simpa using Heap.get?_push_size _ rfl) (fun i h st => ⟨_, st, itO_range⟩) (fun i h h' o nw st e e' k N _ => ?_) (fun i v s' Q' E' st hq => wpAny_pure hq) F N trivial hE h0 ?_ done
  · have st' : h.get? s.heap.objs.size = some _ := st
    show h'.get? s.heap.objs.size = some _
    rw [e', ← e]; exact st'
  · rintro i v m₁ nw₁ I oI h tk hi ⟨t, rfl⟩ hJ _
    exact turn i _ t m₁ nw₁ I oI h tk hi rfl hJ
end
end Mine

namespace Mine
theorem log2_small {y : Int} (h0 : 0 ≤ y) (h : y ≤ 4294967296) : y.natAbs.log2 < 9000 := by
  have h1 : y.natAbs < 2 ^ 9000 := Nat.lt_of_le_of_lt (show y.natAbs ≤ 4294967296 by omega) (by decide +kernel)
  by_cases hz : y.natAbs = 0
  · rw [hz]; decide
  · exact (Nat.log2_lt hz).mpr h1
section
variable {prog : Program} {w : World} {A : Around} {E : Value → Shared → Prop} {s : Shared} {h₀ : Heap} {L : Addr} {nw : Ldg}
/-- an item of a written list of the ledger -/
theorem li_item {value slice : PySem.Expr} {l : Addr} {vs : List Value} {n : Nat} {k : Int} {u : Tok} {v : Value} {Q : Value → Shared → Prop}
    (N : News h₀ L s.heap nw) (hm : (l, W.listOf (List.toArray vs) n) ∈ nw) (h0 : 0 ≤ k) (hhi : k < 2 ^ 63) (hx : vs[k.toNat]? = some v) (h : Q v s)
    (hs : subscripted slice false (.ref l) (.int k u) = operate [.ref l, .int k u] (getItem (.ref l) (.int k u)) := by with_unfolding_all rfl) :
    wpAny (model prog w) A (subscriptTail value slice (.ref l) (.int k u)) Q E s :=
  have hl : s.heap.IsList l vs.toArray := ⟨_, (N _ hm).1, rfl, _, rfl⟩
  tail_any hl.typeIs PySem.F.slot_list_getitem.lookup (wpAny_getItem_list hl h0 hhi (by simpa using hx) h) hs
/-- an item at an open place -/
theorem li_any {value slice : PySem.Expr} {l : Addr} {vs : List Value} {n : Nat} {k : Int} {u : Tok} {Q : Value → Shared → Prop}
    (N : News h₀ L s.heap nw) (hm : (l, W.listOf (List.toArray vs) n) ∈ nw) (h0 : 0 ≤ k) (hlt : k < (vs.length : Int)) (hhi : k < 2 ^ 63) (h : ∀ v ∈ vs, Q v s)
    (hs : subscripted slice false (.ref l) (.int k u) = operate [.ref l, .int k u] (getItem (.ref l) (.int k u)) := by with_unfolding_all rfl) :
    wpAny (model prog w) A (subscriptTail value slice (.ref l) (.int k u)) Q E s := by
  have hx : vs[k.toNat]? = some vs[k.toNat] := List.getElem?_eq_getElem (by omega)
  exact li_item N hm h0 hhi hx (h _ (List.getElem_mem _)) hs
theorem li_len {l : Addr} {vs : List Value} {n : Nat} {Q : Value → Shared → Prop} (N : News h₀ L s.heap nw) (hm : (l, W.listOf (List.toArray vs) n) ∈ nw) (hv : vs.length ≤ 64)
    (h : Q (.int (vs.length : Int) (s.toks + 1)) { s with toks := s.toks + 1 + 1 }) : wpAny (model prog w) A (call (.builtin "len") [.ref l]) Q E s := by
  have hl : s.heap.IsList l vs.toArray := ⟨_, (N _ hm).1, rfl, _, rfl⟩
  refine Calls.call_len_list hl (by rw [List.size_toArray]; omega) ?_
  simpa using h
end
theorem StrsAre.mem {vs : List Value} {xs : List Str} (h : StrsAre vs xs) : ∀ v ∈ vs, ∃ x t, v = .str x t ∧ x ∈ xs := by
  induction h with
  | nil => intro v hv; cases hv
  | @cons x t vs xs _ ih =>
    intro v hv
    rcases List.mem_cons.mp hv with rfl | hv
    · exact ⟨x, t, rfl, .head _⟩
    · obtain ⟨y, u, e, hm⟩ := ih v hv
      exact ⟨y, u, e, .tail _ hm⟩
theorem intsAre_mem {vs : List Value} {ns : List Int} (h : IntsAre vs ns) : ∀ v ∈ vs, ∃ i t, v = .int i t ∧ i ∈ ns := by
  intro v hv
  obtain ⟨k, hk, e⟩ := List.getElem_of_mem hv
  have hk' : k < ns.length := by rw [← h.length]; exact hk
  obtain ⟨t, ht⟩ := h.get k ns[k] (List.getElem?_eq_getElem hk')
  rw [List.getElem?_eq_getElem hk, e] at ht
  exact ⟨_, t, Option.some.inj ht, List.getElem_mem _⟩
theorem pool_nonneg (z : Int) (b : Bool) : 0 ≤ (if -1 - z > z then -1 - z else z) * (if b = true then 1 else 0) := by
  have h : 0 ≤ (if -1 - z > z then -1 - z else z) := by split <;> omega
  generalize (if -1 - z > z then -1 - z else z) = y at h
  cases b <;> simp <;> omega
theorem sortS_law (x : Int) : sortS x = if x = 2 ^ Int.toNat 48 - 1 then Str.ofString "broadcast" else if (x.fdiv (2 ^ Int.toNat 40)).fmod 2 = 1 then Str.ofString "group" else Str.ofString "single" := by
  unfold sortS
  rw [bitAnd_m1, Int.fmod_eq_emod_of_nonneg _ (by decide)]
  rfl
/-- rows of a table: a name, two ints -/
inductive TabAre (nw : Ldg) : List Value → List (Str × Int × Int) → Prop
  | nil : TabAre nw [] []
  | cons {a : Addr} {x : Str} {lo hi : Int} {t t1 t2 : Tok} {n : Nat} {vs : List Value} {rs : List (Str × Int × Int)} : (a, W.listOf (List.toArray [Value.str x t, .int lo t1, .int hi t2]) n) ∈ nw → TabAre nw vs rs → TabAre nw (.ref a :: vs) ((x, lo, hi) :: rs)
theorem TabAre.length {nw : Ldg} {vs : List Value} {rs : List (Str × Int × Int)} (h : TabAre nw vs rs) : vs.length = rs.length := by
  induction h with
  | nil => rfl
  | cons _ _ ih => simp [ih]
theorem TabAre.at {nw : Ldg} {vs : List Value} {rs : List (Str × Int × Int)} (h : TabAre nw vs rs) : ∀ {i : Nat} {v : Value}, vs[i]? = some v → ∃ a x lo hi t t1 t2 n, v = Value.ref a ∧ (a, W.listOf (List.toArray [Value.str x t, .int lo t1, .int hi t2]) n) ∈ nw ∧ rs[i]? = some (x, lo, hi) := by
  induction h with
  | nil => intro i v hv; simp at hv
  | cons hm _ ih =>
    intro i v hv
    cases i with
    | zero =>
      simp only [List.getElem?_cons_zero, Option.some.injEq] at hv
      exact ⟨_, _, _, _, _, _, _, _, hv.symm, hm, rfl⟩
    | succ j =>
      simp only [List.getElem?_cons_succ] at hv
      exact ih hv
theorem TabAre.mono {nw nw' : Ldg} {vs : List Value} {rs : List (Str × Int × Int)} (h : TabAre nw vs rs) (hs : ∀ p ∈ nw, p ∈ nw') : TabAre nw' vs rs := by
  induction h with
  | nil => exact .nil
  | cons hm _ ih => exact .cons (hs _ hm) ih
def sizes7 : List (Str × Int × Int) := [(Str.ofString "64", 0, 64), (Str.ofString "65 to 127", 65, 127), (Str.ofString "128 to 255", 128, 255), (Str.ofString "256 to 511", 256, 511), (Str.ofString "512 to 1023", 512, 1023), (Str.ofString "1024 to 1518", 1024, 1518), (Str.ofString "more", 1519, 10 ^ Int.toNat 6)]
def pick (x : Int) (rs : List (Str × Int × Int)) : List Str := (rs.filter fun r => decide (r.2.1 ≤ x ∧ x ≤ r.2.2)).map (·.1)
theorem pick_snoc {x : Int} {rs : List (Str × Int × Int)} {i : Nat} {n : Str} {lo hi : Int} (h : rs[i]? = some (n, lo, hi)) : pick x (rs.take (i + 1)) = pick x (rs.take i) ++ (if lo ≤ x ∧ x ≤ hi then [n] else []) := by
  unfold pick
  rw [List.take_add_one, h]
  simp only [Option.toList_some, List.filter_append, List.map_append]
  split <;> simp_all
theorem pick7 {x : Int} (h0 : 0 ≤ x) (h1 : x ≤ 1000000) : pick x sizes7 = [classS x] := by
  have h : x ≤ 64 ∨ (65 ≤ x ∧ x ≤ 127) ∨ (128 ≤ x ∧ x ≤ 255) ∨ (256 ≤ x ∧ x ≤ 511) ∨ (512 ≤ x ∧ x ≤ 1023) ∨ (1024 ≤ x ∧ x ≤ 1518) ∨ 1519 ≤ x := by omega
  unfold pick sizes7 classS
  have e : (10 : Int) ^ Int.toNat 6 = 1000000 := by decide
  rw [e]
  simp only [List.filter_cons, List.filter_nil, decide_eq_true_eq]
  rcases h with h | h | h | h | h | h | h <;> (repeat (first | rw [if_neg (by omega)] | rw [if_pos (by omega)])) <;> rfl
def TabJ (x : Int) (rs : List (Str × Int × Int)) (nwC : Ldg) (i : Nat) (ys : List Value) (nws : Ldg) : Prop := nws = nwC ∧ StrsAre ys (pick x (rs.take i))
theorem StrsAre.append {vs ws : List Value} {xs ys : List Str} (h : StrsAre vs xs) (k : StrsAre ws ys) : StrsAre (vs ++ ws) (xs ++ ys) := by
  induction h with
  | nil => exact k
  | cons _ ih => exact .cons ih
theorem tabJ_more {x : Int} {rs : List (Str × Int × Int)} {nwC : Ldg} {i : Nat} {ys : List Value} {n : Str} {lo hi : Int} {t : Tok} (h : StrsAre ys (pick x (rs.take i))) (hr : rs[i]? = some (n, lo, hi)) (h1 : lo ≤ x) (h2 : x ≤ hi) : TabJ x rs nwC (i + 1) (ys ++ [.str n t]) nwC := by
  refine ⟨rfl, ?_⟩
  rw [pick_snoc hr, if_pos ⟨h1, h2⟩]
  exact h.append (.cons .nil)
theorem tabJ_skip {x : Int} {rs : List (Str × Int × Int)} {nwC : Ldg} {i : Nat} {ys : List Value} {n : Str} {lo hi : Int} (h : StrsAre ys (pick x (rs.take i))) (hr : rs[i]? = some (n, lo, hi)) (h1 : ¬ (lo ≤ x ∧ x ≤ hi)) : TabJ x rs nwC (i + 1) ys nwC := by
  refine ⟨rfl, ?_⟩
  rw [pick_snoc hr, if_neg h1, List.append_nil]
  exact h
theorem tabJ_zero {x : Int} {rs : List (Str × Int × Int)} {nwC : Ldg} : TabJ x rs nwC 0 [] nwC := ⟨rfl, .nil⟩
theorem tabJ_all {x : Int} {nwC nws : Ldg} {vs ys : List Value} (h0 : 0 ≤ x) (h1 : x ≤ 1000000) (H : TabAre nwC vs sizes7) {nwD : Ldg} (h : TabJ x sizes7 nwD vs.length ys nws) : nws = nwD ∧ ∃ t, ys = [.str (classS x) t] := by
  obtain ⟨e, hy⟩ := h
  rw [H.length, List.take_length, pick7 h0 h1] at hy
  refine ⟨e, ?_⟩
  cases hy with
  | cons h => cases h; exact ⟨_, rfl⟩
theorem led2_b {I C D : Addr} {ext l : Ldg} {a b : Addr × Obj} (_ : LCg.Off3 I C D (a :: (ext ++ b :: l))) : b ∈ a :: (ext ++ b :: l) := .tail _ (List.mem_append_right _ (.head _))
theorem led2_e {I C D : Addr} {ext l : Ldg} {a b p : Addr × Obj} (_ : LCg.Off3 I C D (a :: (ext ++ b :: l))) (h : p ∈ ext) : p ∈ a :: (ext ++ b :: l) := .tail _ (List.mem_append_left _ h)
theorem tup_from2 {prog : Program} {w : World} {A : Around} {E : Value → Shared → Prop} {s : Shared} {h₀ : Heap} {L : Addr} {m : Str → Option Value} {nw : Ldg} {value slice : PySem.Expr} {t : Addr} {v1 v2 : Value} {vs : List Value} {k : Nat} {u : Tok} {Q : Value → Shared → Prop}
    (F : Fr h₀ L s.heap m) (N : News h₀ L s.heap nw) (hm : (t, ({ cls := .type "tuple", data := .seq (List.toArray (v1 :: v2 :: vs)) k } : Obj)) ∈ nw) (hz : vs.length ≤ 64)
    (h : ∀ D h', Fr h₀ L h' m → News h₀ L h' ((D, ({ cls := .type "tuple", data := .seq (List.toArray vs) 0 } : Obj)) :: nw) → (∀ p ∈ nw, p.1 < D) → Q (.ref D) { s with heap := h' })
    (hs : subscripted slice false (.ref t) (.ref s.heap.objs.size) = operate [.ref s.heap.objs.size, .ref t] (getItem (.ref t) (.ref s.heap.objs.size)) := by with_unfolding_all rfl)
    (hg : ∀ r, letTemporaryGo value (.ref t) r = pure () := by intro _; with_unfolding_all rfl) :
    wpAny (model prog w) A (subscriptTail value slice (.ref t) (.ref s.heap.objs.size)) Q E { s with heap := s.heap.push { cls := .type "slice", data := .fields #[.int 2 u, .none, .none] } } := by
  have ht : IsTup s.heap t (List.toArray (v1 :: v2 :: vs)) := ⟨_, (N _ hm).1, rfl, _, rfl⟩
  exact slice_tuple_from (a := 2) F N ht (by omega) (by simp) (fun h' F' N' => h _ h' F' N' fun p hp => Nat.lt_succ_of_lt (Heap.lt_size (N p hp).1)) hs hg (by rw [sizeLine_eq]; simp; omega)
end Mine

namespace Mine
/-- pairs of a key and an int, as a list's items -/
inductive PairsAre (nw : Ldg) : List Value → AL → Prop
  | nil : PairsAre nw [] []
  | cons {a ka : Addr} {ko : Obj} {k : Key} {many : Int} {t : Tok} {n : Nat} {vs : List Value} {ps : AL} : (a, ({ cls := .type "tuple", data := .seq (List.toArray [Value.ref ka, .int many t]) n } : Obj)) ∈ nw → (ka, ko) ∈ nw → KeyO ko k → PairsAre nw vs ps →
      PairsAre nw (.ref a :: vs) ((k, many) :: ps)
theorem PairsAre.length {nw : Ldg} {vs : List Value} {ps : AL} (h : PairsAre nw vs ps) : vs.length = ps.length := by
  induction h with
  | nil => rfl
  | cons _ _ _ _ ih => simp [ih]
theorem PairsAre.at {nw : Ldg} {vs : List Value} {ps : AL} (h : PairsAre nw vs ps) : ∀ {i : Nat} {v : Value}, vs[i]? = some v → ∃ a ka ko k many t n, v = Value.ref a ∧ (a, ({ cls := .type "tuple", data := .seq (List.toArray [Value.ref ka, .int many t]) n } : Obj)) ∈ nw ∧ (ka, ko) ∈ nw ∧ KeyO ko k ∧ ps[i]? = some (k, many) := by
  induction h with
  | nil => intro i v hv; simp at hv
  | cons hm hk hko _ ih =>
    intro i v hv
    cases i with
    | zero =>
      simp only [List.getElem?_cons_zero, Option.some.injEq] at hv
      exact ⟨_, _, _, _, _, _, _, hv.symm, hm, hk, hko, rfl⟩
    | succ j =>
      simp only [List.getElem?_cons_succ] at hv
      exact ih hv
/-- tuples and lists alone -/
def Seqs (sg : Ldg) : Prop := ∀ p ∈ sg, p.2.cls = .type "tuple" ∨ p.2.cls = .type "list"
theorem Seqs.nil : Seqs [] := fun _ h => nomatch h
theorem Seqs.append {a b : Ldg} (ha : Seqs a) (hb : Seqs b) : Seqs (a ++ b) := fun p hp => (List.mem_append.mp hp).elim (ha p) (hb p)
theorem Seqs.tup {a : Addr} {o : Obj} {l : Ldg} (ho : o.cls = .type "tuple") (h : Seqs l) : Seqs ((a, o) :: l) := fun p hp => by
  rcases List.mem_cons.mp hp with rfl | hp
  · exact .inl ho
  · exact h p hp
theorem Seqs.lst {a : Addr} {o : Obj} {l : Ldg} (ho : o.cls = .type "list") (h : Seqs l) : Seqs ((a, o) :: l) := fun p hp => by
  rcases List.mem_cons.mp hp with rfl | hp
  · exact .inr ho
  · exact h p hp
theorem Tups.seqs {l : Ldg} (h : Tups l) : Seqs l := fun p hp => .inl (h p hp)
theorem seqs_ne {h₀ h : Heap} {L d : Addr} {nw sg : Ldg} {o : Obj} (N : News h₀ L h nw) (HT : Seqs sg) (S : ∀ p ∈ sg, p ∈ nw) (hd : (d, o) ∈ nw) (hc : o.cls = .type "dict") : ∀ p ∈ sg, p.1 ≠ d := fun p hp e => by
  have h1 := (N _ (S p hp)).1
  have h2 := (N _ hd).1
  rw [e] at h1
  have h3 : p.2 = o := Option.some.inj (h1.symm.trans h2)
  rcases HT p hp with q | q <;> rw [h3, hc] at q <;> exact absurd q (by decide)
theorem updF_app {d : Addr} {o : Obj} {ext r : Ldg} {g : Obj → Ldg} (h : ∀ p ∈ ext, p.1 ≠ d) (U : UpdF d o r g) : UpdF d o (ext ++ r) (fun o' => ext ++ g o') := by
  induction ext with
  | nil => exact U
  | cons p l ih => exact .tail (h p (.head _)) (ih fun q hq => h q (.tail _ hq))
/-- a frame's map that parts from another at a few names alone -/
def MapJ (S : List Str) (m₀ m₁ : Str → Option Value) : Prop := ∃ u : Str → Option Value, m₁ = fun y => if S.contains y = true then u y else m₀ y
theorem MapJ.base {S : List Str} {m₀ u : Str → Option Value} : MapJ S m₀ (fun y => if S.contains y = true then u y else m₀ y) := ⟨u, rfl⟩
theorem MapJ.refl {S : List Str} {m₀ : Str → Option Value} : MapJ S m₀ m₀ := ⟨m₀, by funext y; simp⟩
theorem MapJ.store {S : List Str} {m₀ m₁ : Str → Option Value} {x : Str} {v : Option Value} (hx : S.contains x = true) (h : MapJ S m₀ m₁) : MapJ S m₀ (fun y => if y = x then v else m₁ y) := by
  obtain ⟨u, rfl⟩ := h
  refine ⟨fun y => if y = x then v else if S.contains y = true then u y else m₀ y, ?_⟩
  funext y
  by_cases e : y = x
  · subst e; simp only [hx, if_true]
  · simp only [e, if_false]
    split <;> simp_all
/-- the rows that have passed, as tuples -/
inductive RowO : Obj → Row → Prop
  | drop {way why : Str} {t1 t2 t3 : Tok} {n : Nat} : RowO { cls := .type "tuple", data := .seq (List.toArray [Value.str way t1, .str (Str.ofString "drop") t2, .str why t3]) n } (.drop way why)
  | frame {way : Str} {target size : Int} {t1 t2 t3 t4 : Tok} {n : Nat} : RowO { cls := .type "tuple", data := .seq (List.toArray [Value.str way t1, .str (Str.ofString "frame") t2, .int target t3, .int size t4]) n } (.frame way target size)
inductive RowRefs (sg : Ldg) : List Value → List Row → Prop
  | nil : RowRefs sg [] []
  | cons {a : Addr} {o : Obj} {r : Row} {vs : List Value} {rs : List Row} : (a, o) ∈ sg → RowO o r → RowRefs sg vs rs → RowRefs sg (.ref a :: vs) (r :: rs)
theorem RowRefs.length {sg : Ldg} {vs : List Value} {rs : List Row} (h : RowRefs sg vs rs) : vs.length = rs.length := by
  induction h with
  | nil => rfl
  | cons _ _ _ ih => simp [ih]
theorem RowRefs.at {sg : Ldg} {vs : List Value} {rs : List Row} (h : RowRefs sg vs rs) : ∀ {i : Nat} {v : Value}, vs[i]? = some v → ∃ a o r, v = Value.ref a ∧ (a, o) ∈ sg ∧ RowO o r ∧ rs[i]? = some r := by
  induction h with
  | nil => intro i v hv; simp at hv
  | cons hm hr _ ih =>
    intro i v hv
    cases i with
    | zero =>
      simp only [List.getElem?_cons_zero, Option.some.injEq] at hv
      exact ⟨_, _, _, hv.symm, hm, hr, rfl⟩
    | succ j =>
      simp only [List.getElem?_cons_succ] at hv
      exact ih hv
theorem RowRefs.mono {sg sg' : Ldg} {vs : List Value} {rs : List Row} (h : RowRefs sg vs rs) (hs : ∀ p ∈ sg, p ∈ sg') : RowRefs sg' vs rs := by
  induction h with
  | nil => exact .nil
  | cons hm hr _ ih => exact .cons (hs _ hm) hr ih
theorem RowRefs.snoc {sg : Ldg} {vs : List Value} {rs : List Row} {a : Addr} {o : Obj} {r : Row} (h : RowRefs sg vs rs) (hm : (a, o) ∈ sg) (hr : RowO o r) : RowRefs sg (vs ++ [.ref a]) (rs ++ [r]) := by
  induction h with
  | nil => exact .cons hm hr .nil
  | cons hm' hr' _ ih => exact .cons hm' hr' ih
def RowOk : Row → Prop
  | .drop way why => PyData.strOk way = true ∧ PyData.strOk why = true
  | .frame way target size => PyData.strOk way = true ∧ 0 ≤ target ∧ target < 2 ^ 60 ∧ 0 ≤ size ∧ size ≤ 1000000
theorem counts_take {M : Int} {rows : List Row} {i : Nat} {r : Row} (h : rows[i]? = some r) : counts M (rows.take (i + 1)) = bumps M (counts M (rows.take i)) r.names := by
  rw [List.take_add_one, h]
  exact counts_snoc _ _ _
theorem bumps_take {M : Int} {al ps : AL} {j : Nat} {k : Key} {many : Int} (h : ps[j]? = some (k, many)) : bumps M al (ps.take (j + 1)) = put (bumps M al (ps.take j)) k ((look (bumps M al (ps.take j)) k + many).fmod M) := by
  unfold bumps
  rw [List.take_add_one, h, List.foldl_append]
  rfl
theorem bumps_take_length {M : Int} {al ps : AL} {j : Nat} (ha : al.length ≤ 900) (hp : ps.length ≤ 4) : (bumps M al (ps.take j)).length ≤ 1000 := by
  have h := bumps_length M (ps.take j) al
  have h2 : (ps.take j).length ≤ ps.length := by simp [List.length_take]; omega
  omega
theorem seqs_neI {h₀ h : Heap} {L I : Addr} {nw sg : Ldg} {oI : Obj} (N : News h₀ L h nw) (HT : Seqs sg) (S : ∀ p ∈ sg, p ∈ nw) (hd : (I, oI) ∈ nw) (hc : ItO oI) : ∀ p ∈ sg, p.1 ≠ I := fun p hp e => by
  have h1 := (N _ (S p hp)).1
  have h2 := (N _ hd).1
  rw [e] at h1
  have h3 : p.2 = oI := Option.some.inj (h1.symm.trans h2)
  rcases HT p hp with q | q <;> rw [h3] at q
  · exact hc.1 q
  · exact hc.2.1 q
theorem off1_map {I : Addr} {l l' : Ldg} (h : LCg.Off1 I l) (e : l'.map (·.1) = l.map (·.1)) : LCg.Off1 I l' := off1_of fun p hp => by
  have : p.1 ∈ l.map (·.1) := e ▸ List.mem_map.mpr ⟨p, hp, rfl⟩
  obtain ⟨q, hq, e2⟩ := List.mem_map.mp this
  rw [← e2]
  exact off1_mem h q hq
def S3 : List Str := [Str.ofString "row", Str.ofString "name", Str.ofString "many"]
/-- the objects of ext are younger than those of nw -/
def Fresh (nw ext : Ldg) : Prop := ∀ q ∈ ext, ∀ p ∈ nw, @LT.lt Nat _ p.1 q.1
theorem Fresh.nil {nw : Ldg} : Fresh nw [] := fun _ h => nomatch h
theorem Fresh.cons {nw ext : Ldg} {a : Addr} {o : Obj} (h : AllLt a nw) (k : Fresh nw ext) : Fresh nw ((a, o) :: ext) := fun q hq => by
  rcases List.mem_cons.mp hq with rfl | hq
  · exact fun p hp => lt_of_allLt h p hp
  · exact k q hq
theorem Fresh.cons' {nw ext : Ldg} {a : Addr} {o : Obj} (h : ∀ p ∈ nw, p.1 < a) (k : Fresh nw ext) : Fresh nw ((a, o) :: ext) := Fresh.cons (allLt_of h) k
theorem Fresh.append {nw a b : Ldg} (ha : Fresh nw a) (hb : Fresh nw b) : Fresh nw (a ++ b) := fun q hq => (List.mem_append.mp hq).elim (ha q) (hb q)
theorem Fresh.sub {nw nw' ext ext' : Ldg} (h : Fresh nw ext) (s : ∀ p ∈ nw', p ∈ nw) (s' : ∀ p ∈ ext', p ∈ ext) : Fresh nw' ext' := fun q hq p hp => h q (s' q hq) p (s p hp)
theorem fresh_more {D I d : Addr} {oD oI o : Obj} {ext' ext nw : Ldg} (h : Fresh ((I, oI) :: (ext ++ (d, o) :: nw)) ((D, oD) :: ext')) (k : Fresh nw ext) : Fresh nw ((D, oD) :: (ext' ++ ext)) := fun q hq => by
  have s : ∀ p ∈ nw, p ∈ (I, oI) :: (ext ++ (d, o) :: nw) := fun p hp => .tail _ (List.mem_append_right _ (.tail _ hp))
  rcases List.mem_cons.mp hq with e | hq
  · exact fun p hp => h q (e ▸ .head _) p (s p hp)
  · rcases List.mem_append.mp hq with e | e
    · exact fun p hp => h q (.tail _ e) p (s p hp)
    · exact k q e
def CntJ (prog : Program) (w : World) (d : Addr) (nw : Ldg) (M : Int) (rows : List Row) (m0 : Str → Option Value) (i : Nat) (m₁ : Str → Option Value) (nws : Ldg) : Prop :=
  ∃ ext o', nws = ext ++ (d, o') :: nw ∧ Seqs ext ∧ Fresh nw ext ∧ CD prog w ext o' (counts M (rows.take i)) ∧ MapJ [Str.ofString "row", Str.ofString "name", Str.ofString "many"] m0 m₁
theorem cntJ_zero {prog : Program} {w : World} {d : Addr} {nw : Ldg} {M : Int} {rows : List Row} {m0 : Str → Option Value} {o : Obj} (h : o.IsDictOf (PySem.strKind prog w) []) : CntJ prog w d nw M rows m0 0 m0 ((d, o) :: nw) :=
  ⟨[], o, rfl, Seqs.nil, Fresh.nil, CD.empty h, MapJ.refl⟩
def CntK (prog : Program) (w : World) (De Ie : Addr × Obj) (ext' ext : Ldg) (d : Addr) (nw : Ldg) (M : Int) (al ps : AL) (m0 : Str → Option Value) (j : Nat) (m₁ : Str → Option Value) (nws : Ldg) : Prop :=
  ∃ o', nws = De :: (ext' ++ Ie :: (ext ++ (d, o') :: nw)) ∧ CD prog w (ext' ++ ext) o' (bumps M al (ps.take j)) ∧ MapJ [Str.ofString "row", Str.ofString "name", Str.ofString "many"] m0 m₁
theorem cntK_zero {prog : Program} {w : World} {De Ie : Addr × Obj} {ext' ext : Ldg} {d : Addr} {nw : Ldg} {M : Int} {al ps : AL} {m0 m : Str → Option Value} {o : Obj} (h : CD prog w ext o al) (hm : MapJ [Str.ofString "row", Str.ofString "name", Str.ofString "many"] m0 m) :
    CntK prog w De Ie ext' ext d nw M al ps m0 0 m (De :: (ext' ++ Ie :: (ext ++ (d, o) :: nw))) := ⟨o, rfl, h.grow fun _ hp => List.mem_append_right _ hp, hm⟩
end Mine

namespace Mine
/-- addresses that part from one another; the first eight are written to, and no other object of the ledger is one of those -/
def Apart (l : List Addr) (r : Ldg) : Prop := l.Nodup ∧ ∀ p ∈ r, p.1 ∉ l.take 8
theorem Apart.ne {l : List Addr} {r : Ldg} (h : Apart l r) (i j : Nat) {a b : Addr} (hi : l[i]? = some a) (hj : l[j]? = some b) (hij : i ≠ j) : @Ne Nat a b := by
  intro e
  subst e
  obtain ⟨h1, h2⟩ := List.getElem?_eq_some_iff.mp hi
  obtain ⟨h3, h4⟩ := List.getElem?_eq_some_iff.mp hj
  exact hij ((List.getElem_inj (i := i) (j := j) (h₀ := h1) (h₁ := h3) h.1).mp (h2.trans h4.symm))
theorem Apart.more {l : List Addr} {r r' : Ldg} (h : Apart l r) (h' : ∀ p ∈ r', p.1 ∉ l.take 8) : Apart l (r' ++ r) := ⟨h.1, fun p hp => (List.mem_append.mp hp).elim (h' p) (h.2 p)⟩
theorem nd_ne {α : Type} {pre post : List α} {a : α} (h : (pre ++ a :: post).Nodup) : (∀ x ∈ pre, x ≠ a) ∧ ∀ x ∈ post, x ≠ a := by
  rw [List.nodup_append] at h
  obtain ⟨_, h2, h3⟩ := h
  rw [List.nodup_cons] at h2
  exact ⟨fun x hx => h3 x hx a (.head _), fun x hx e => h2.1 (e ▸ hx)⟩
theorem updF_nd {d : Addr} {o : Obj} {pre post r : Ldg} (h : ((pre ++ (d, o) :: post).map (·.1)).Nodup) (hr : ∀ p ∈ r, p.1 ≠ d) : UpdF d o (pre ++ (d, o) :: post ++ r) (fun o' => pre ++ (d, o') :: post ++ r) := by
  rw [List.map_append, List.map_cons] at h
  obtain ⟨h1, h2⟩ := nd_ne h
  have e : ∀ o', pre ++ (d, o') :: post ++ r = pre ++ (d, o') :: (post ++ r) := fun o' => by simp
  simp only [e]
  refine updF_of (fun p hp => h1 _ (List.mem_map.mpr ⟨p, hp, rfl⟩)) fun p hp => ?_
  rcases List.mem_append.mp hp with q | q
  · exact h2 _ (List.mem_map.mpr ⟨p, q, rfl⟩)
  · exact hr p q
theorem Apart.new {pre post : List Addr} {k : Nat} {a d' : Addr} {o : Obj} {r : Ldg} (h : Apart (pre ++ a :: post) r) (hk : k < 8) (hpre : pre.length = k) (hlt : ∀ x ∈ pre ++ post, x < d') (hr : ∀ p ∈ r, p.1 < d') (ha : a < d') : Apart (pre ++ d' :: post) ((a, o) :: r) := by
  have hp : (pre ++ post).Nodup := h.1.sublist (by simp)
  have hdn : d' ∉ pre ++ post := fun q => Nat.lt_irrefl _ (hlt _ q)
  refine ⟨(List.perm_middle.nodup_iff).mpr (List.nodup_cons.mpr ⟨hdn, hp⟩), fun p hp => ?_⟩
  have tk : ∀ x : Addr, x ≠ d' → x ≠ a → x ∉ (pre ++ a :: post).take 8 → x ∉ (pre ++ d' :: post).take 8 := by
    intro x hx hx2 hn q
    apply hn
    have e : 8 - pre.length = (7 - pre.length) + 1 := by omega
    rw [List.take_append, e, List.take_succ_cons, List.mem_append, List.mem_cons] at q ⊢
    rcases q with q | q | q
    · exact .inl q
    · exact absurd q hx
    · exact .inr (.inr q)
  obtain ⟨n1, n2⟩ := nd_ne h.1
  rcases List.mem_cons.mp hp with rfl | q
  · intro q
    have e : 8 - pre.length = (7 - pre.length) + 1 := by omega
    rw [List.take_append, e, List.take_succ_cons, List.mem_append, List.mem_cons] at q
    rcases q with q | q | q
    · exact n1 _ (List.mem_of_mem_take q) rfl
    · exact absurd q (Nat.ne_of_lt ha)
    · exact n2 _ (List.mem_of_mem_take q) rfl
  · refine tk _ (Nat.ne_of_lt (hr p q)) ?_ (h.2 p q)
    intro e
    refine h.2 p q ?_
    have e2 : 8 - pre.length = (7 - pre.length) + 1 := by omega
    rw [e, List.take_append, e2, List.take_succ_cons]
    exact List.mem_append_right _ (.head _)
theorem del_sub {A B r : Ldg} {y : Addr × Obj} : ∀ p ∈ A ++ B, p ∈ A ++ y :: (B ++ r) := fun _ hp => (List.mem_append.mp hp).elim (List.mem_append_left _) fun q => List.mem_append_right _ (.tail _ (List.mem_append_left _ q))
theorem mv_sub {A B r : Ldg} {x y : Addr × Obj} : ∀ p ∈ A ++ x :: (B ++ y :: r), p ∈ x :: (A ++ y :: (B ++ r)) := fun p hp => by
  simp only [List.mem_append, List.mem_cons] at hp ⊢
  rcases hp with h | h | h | h | h <;> simp only [h, true_or, or_true]
theorem mv_sub2 {A B r : Ldg} {x y e : Addr × Obj} : ∀ p ∈ A ++ x :: (B ++ y :: r), p ∈ x :: e :: (A ++ y :: (B ++ r)) := fun p hp => (List.mem_cons.mp (mv_sub p hp)).elim (fun q => q ▸ .head _) fun q => .tail _ (.tail _ q)
theorem app_sub {A e r : Ldg} : ∀ p ∈ A ++ (e ++ r), p ∈ e ++ (A ++ r) := fun p hp => by
  simp only [List.mem_append] at hp ⊢
  rcases hp with h | h | h <;> simp only [h, true_or, or_true]
theorem rot_sub {A r : Ldg} {e : Addr × Obj} : ∀ p ∈ A ++ e :: r, p ∈ e :: (A ++ r) := fun p hp => by
  simp only [List.mem_append, List.mem_cons] at hp ⊢
  rcases hp with h | h | h <;> simp only [h, true_or, or_true]
theorem upd0 {a0 a1 a2 a3 a4 a5 a6 a7 a8 a9 a10 a11 a12 : Addr} {o0 o1 o2 o3 o4 o5 o6 o7 o8 o9 o10 o11 o12 : Obj} {r : Ldg} (h : Apart [a0, a1, a2, a3, a4, a5, a6, a7, a8, a9, a10, a11, a12] r) : UpdF a0 o0 ((a0, o0) :: (a1, o1) :: (a2, o2) :: (a3, o3) :: (a4, o4) :: (a5, o5) :: (a6, o6) :: (a7, o7) :: (a8, o8) :: (a9, o9) :: (a10, o10) :: (a11, o11) :: (a12, o12) :: r) (fun o' => (a0, o') :: (a1, o1) :: (a2, o2) :: (a3, o3) :: (a4, o4) :: (a5, o5) :: (a6, o6) :: (a7, o7) :: (a8, o8) :: (a9, o9) :: (a10, o10) :: (a11, o11) :: (a12, o12) :: r) := updF_nd (pre := []) (post := [(a1, o1), (a2, o2), (a3, o3), (a4, o4), (a5, o5), (a6, o6), (a7, o7), (a8, o8), (a9, o9), (a10, o10), (a11, o11), (a12, o12)]) h.1 fun p hp e => h.2 p hp (by rw [e]; exact .head _)
theorem upd1 {a0 a1 a2 a3 a4 a5 a6 a7 a8 a9 a10 a11 a12 : Addr} {o0 o1 o2 o3 o4 o5 o6 o7 o8 o9 o10 o11 o12 : Obj} {r : Ldg} (h : Apart [a0, a1, a2, a3, a4, a5, a6, a7, a8, a9, a10, a11, a12] r) : UpdF a1 o1 ((a0, o0) :: (a1, o1) :: (a2, o2) :: (a3, o3) :: (a4, o4) :: (a5, o5) :: (a6, o6) :: (a7, o7) :: (a8, o8) :: (a9, o9) :: (a10, o10) :: (a11, o11) :: (a12, o12) :: r) (fun o' => (a0, o0) :: (a1, o') :: (a2, o2) :: (a3, o3) :: (a4, o4) :: (a5, o5) :: (a6, o6) :: (a7, o7) :: (a8, o8) :: (a9, o9) :: (a10, o10) :: (a11, o11) :: (a12, o12) :: r) := updF_nd (pre := [(a0, o0)]) (post := [(a2, o2), (a3, o3), (a4, o4), (a5, o5), (a6, o6), (a7, o7), (a8, o8), (a9, o9), (a10, o10), (a11, o11), (a12, o12)]) h.1 fun p hp e => h.2 p hp (by rw [e]; exact .tail _ (.head _))
theorem upd2 {a0 a1 a2 a3 a4 a5 a6 a7 a8 a9 a10 a11 a12 : Addr} {o0 o1 o2 o3 o4 o5 o6 o7 o8 o9 o10 o11 o12 : Obj} {r : Ldg} (h : Apart [a0, a1, a2, a3, a4, a5, a6, a7, a8, a9, a10, a11, a12] r) : UpdF a2 o2 ((a0, o0) :: (a1, o1) :: (a2, o2) :: (a3, o3) :: (a4, o4) :: (a5, o5) :: (a6, o6) :: (a7, o7) :: (a8, o8) :: (a9, o9) :: (a10, o10) :: (a11, o11) :: (a12, o12) :: r) (fun o' => (a0, o0) :: (a1, o1) :: (a2, o') :: (a3, o3) :: (a4, o4) :: (a5, o5) :: (a6, o6) :: (a7, o7) :: (a8, o8) :: (a9, o9) :: (a10, o10) :: (a11, o11) :: (a12, o12) :: r) := updF_nd (pre := [(a0, o0), (a1, o1)]) (post := [(a3, o3), (a4, o4), (a5, o5), (a6, o6), (a7, o7), (a8, o8), (a9, o9), (a10, o10), (a11, o11), (a12, o12)]) h.1 fun p hp e => h.2 p hp (by rw [e]; exact .tail _ (.tail _ (.head _)))
theorem upd3 {a0 a1 a2 a3 a4 a5 a6 a7 a8 a9 a10 a11 a12 : Addr} {o0 o1 o2 o3 o4 o5 o6 o7 o8 o9 o10 o11 o12 : Obj} {r : Ldg} (h : Apart [a0, a1, a2, a3, a4, a5, a6, a7, a8, a9, a10, a11, a12] r) : UpdF a3 o3 ((a0, o0) :: (a1, o1) :: (a2, o2) :: (a3, o3) :: (a4, o4) :: (a5, o5) :: (a6, o6) :: (a7, o7) :: (a8, o8) :: (a9, o9) :: (a10, o10) :: (a11, o11) :: (a12, o12) :: r) (fun o' => (a0, o0) :: (a1, o1) :: (a2, o2) :: (a3, o') :: (a4, o4) :: (a5, o5) :: (a6, o6) :: (a7, o7) :: (a8, o8) :: (a9, o9) :: (a10, o10) :: (a11, o11) :: (a12, o12) :: r) := updF_nd (pre := [(a0, o0), (a1, o1), (a2, o2)]) (post := [(a4, o4), (a5, o5), (a6, o6), (a7, o7), (a8, o8), (a9, o9), (a10, o10), (a11, o11), (a12, o12)]) h.1 fun p hp e => h.2 p hp (by rw [e]; exact .tail _ (.tail _ (.tail _ (.head _))))
theorem upd4 {a0 a1 a2 a3 a4 a5 a6 a7 a8 a9 a10 a11 a12 : Addr} {o0 o1 o2 o3 o4 o5 o6 o7 o8 o9 o10 o11 o12 : Obj} {r : Ldg} (h : Apart [a0, a1, a2, a3, a4, a5, a6, a7, a8, a9, a10, a11, a12] r) : UpdF a4 o4 ((a0, o0) :: (a1, o1) :: (a2, o2) :: (a3, o3) :: (a4, o4) :: (a5, o5) :: (a6, o6) :: (a7, o7) :: (a8, o8) :: (a9, o9) :: (a10, o10) :: (a11, o11) :: (a12, o12) :: r) (fun o' => (a0, o0) :: (a1, o1) :: (a2, o2) :: (a3, o3) :: (a4, o') :: (a5, o5) :: (a6, o6) :: (a7, o7) :: (a8, o8) :: (a9, o9) :: (a10, o10) :: (a11, o11) :: (a12, o12) :: r) := updF_nd (pre := [(a0, o0), (a1, o1), (a2, o2), (a3, o3)]) (post := [(a5, o5), (a6, o6), (a7, o7), (a8, o8), (a9, o9), (a10, o10), (a11, o11), (a12, o12)]) h.1 fun p hp e => h.2 p hp (by rw [e]; exact .tail _ (.tail _ (.tail _ (.tail _ (.head _)))))
theorem upd5 {a0 a1 a2 a3 a4 a5 a6 a7 a8 a9 a10 a11 a12 : Addr} {o0 o1 o2 o3 o4 o5 o6 o7 o8 o9 o10 o11 o12 : Obj} {r : Ldg} (h : Apart [a0, a1, a2, a3, a4, a5, a6, a7, a8, a9, a10, a11, a12] r) : UpdF a5 o5 ((a0, o0) :: (a1, o1) :: (a2, o2) :: (a3, o3) :: (a4, o4) :: (a5, o5) :: (a6, o6) :: (a7, o7) :: (a8, o8) :: (a9, o9) :: (a10, o10) :: (a11, o11) :: (a12, o12) :: r) (fun o' => (a0, o0) :: (a1, o1) :: (a2, o2) :: (a3, o3) :: (a4, o4) :: (a5, o') :: (a6, o6) :: (a7, o7) :: (a8, o8) :: (a9, o9) :: (a10, o10) :: (a11, o11) :: (a12, o12) :: r) := updF_nd (pre := [(a0, o0), (a1, o1), (a2, o2), (a3, o3), (a4, o4)]) (post := [(a6, o6), (a7, o7), (a8, o8), (a9, o9), (a10, o10), (a11, o11), (a12, o12)]) h.1 fun p hp e => h.2 p hp (by rw [e]; exact .tail _ (.tail _ (.tail _ (.tail _ (.tail _ (.head _))))))
theorem upd6 {a0 a1 a2 a3 a4 a5 a6 a7 a8 a9 a10 a11 a12 : Addr} {o0 o1 o2 o3 o4 o5 o6 o7 o8 o9 o10 o11 o12 : Obj} {r : Ldg} (h : Apart [a0, a1, a2, a3, a4, a5, a6, a7, a8, a9, a10, a11, a12] r) : UpdF a6 o6 ((a0, o0) :: (a1, o1) :: (a2, o2) :: (a3, o3) :: (a4, o4) :: (a5, o5) :: (a6, o6) :: (a7, o7) :: (a8, o8) :: (a9, o9) :: (a10, o10) :: (a11, o11) :: (a12, o12) :: r) (fun o' => (a0, o0) :: (a1, o1) :: (a2, o2) :: (a3, o3) :: (a4, o4) :: (a5, o5) :: (a6, o') :: (a7, o7) :: (a8, o8) :: (a9, o9) :: (a10, o10) :: (a11, o11) :: (a12, o12) :: r) := updF_nd (pre := [(a0, o0), (a1, o1), (a2, o2), (a3, o3), (a4, o4), (a5, o5)]) (post := [(a7, o7), (a8, o8), (a9, o9), (a10, o10), (a11, o11), (a12, o12)]) h.1 fun p hp e => h.2 p hp (by rw [e]; exact .tail _ (.tail _ (.tail _ (.tail _ (.tail _ (.tail _ (.head _)))))))
theorem upd7 {a0 a1 a2 a3 a4 a5 a6 a7 a8 a9 a10 a11 a12 : Addr} {o0 o1 o2 o3 o4 o5 o6 o7 o8 o9 o10 o11 o12 : Obj} {r : Ldg} (h : Apart [a0, a1, a2, a3, a4, a5, a6, a7, a8, a9, a10, a11, a12] r) : UpdF a7 o7 ((a0, o0) :: (a1, o1) :: (a2, o2) :: (a3, o3) :: (a4, o4) :: (a5, o5) :: (a6, o6) :: (a7, o7) :: (a8, o8) :: (a9, o9) :: (a10, o10) :: (a11, o11) :: (a12, o12) :: r) (fun o' => (a0, o0) :: (a1, o1) :: (a2, o2) :: (a3, o3) :: (a4, o4) :: (a5, o5) :: (a6, o6) :: (a7, o') :: (a8, o8) :: (a9, o9) :: (a10, o10) :: (a11, o11) :: (a12, o12) :: r) := updF_nd (pre := [(a0, o0), (a1, o1), (a2, o2), (a3, o3), (a4, o4), (a5, o5), (a6, o6)]) (post := [(a8, o8), (a9, o9), (a10, o10), (a11, o11), (a12, o12)]) h.1 fun p hp e => h.2 p hp (by rw [e]; exact .tail _ (.tail _ (.tail _ (.tail _ (.tail _ (.tail _ (.tail _ (.head _))))))))
theorem apart_new1 {a0 a1 a2 a3 a4 a5 a6 a7 a8 a9 a10 a11 a12 : Addr} {o0 o1 o2 o3 o4 o5 o6 o7 o8 o9 o10 o11 o12 : Obj} {r : Ldg} {d' : Addr} (h : Apart [a0, a1, a2, a3, a4, a5, a6, a7, a8, a9, a10, a11, a12] r) (hlt : ∀ p ∈ (a0, o0) :: (a1, o1) :: (a2, o2) :: (a3, o3) :: (a4, o4) :: (a5, o5) :: (a6, o6) :: (a7, o7) :: (a8, o8) :: (a9, o9) :: (a10, o10) :: (a11, o11) :: (a12, o12) :: r, p.1 < d') : Apart [a0, d', a2, a3, a4, a5, a6, a7, a8, a9, a10, a11, a12] ((a1, o1) :: r) := by
  refine Apart.new (pre := [a0]) (post := [a2, a3, a4, a5, a6, a7, a8, a9, a10, a11, a12]) (k := 1) h (by decide) rfl (fun x hx => ?_) (fun p hp => hlt p (.tail _ (.tail _ (.tail _ (.tail _ (.tail _ (.tail _ (.tail _ (.tail _ (.tail _ (.tail _ (.tail _ (.tail _ (.tail _ (hp))))))))))))))) (hlt (a1, o1) (.tail _ (.head _)))
  obtain ⟨q, hq, e⟩ := List.mem_map.mp (show x ∈ List.map (fun p : Addr × Obj => p.1) ([(a0, o0)] ++ [(a2, o2), (a3, o3), (a4, o4), (a5, o5), (a6, o6), (a7, o7), (a8, o8), (a9, o9), (a10, o10), (a11, o11), (a12, o12)]) from hx)
  rw [← e]
  exact hlt q (del_sub (A := [(a0, o0)]) (B := [(a2, o2), (a3, o3), (a4, o4), (a5, o5), (a6, o6), (a7, o7), (a8, o8), (a9, o9), (a10, o10), (a11, o11), (a12, o12)]) q hq)
theorem apart_new2 {a0 a1 a2 a3 a4 a5 a6 a7 a8 a9 a10 a11 a12 : Addr} {o0 o1 o2 o3 o4 o5 o6 o7 o8 o9 o10 o11 o12 : Obj} {r : Ldg} {d' : Addr} (h : Apart [a0, a1, a2, a3, a4, a5, a6, a7, a8, a9, a10, a11, a12] r) (hlt : ∀ p ∈ (a0, o0) :: (a1, o1) :: (a2, o2) :: (a3, o3) :: (a4, o4) :: (a5, o5) :: (a6, o6) :: (a7, o7) :: (a8, o8) :: (a9, o9) :: (a10, o10) :: (a11, o11) :: (a12, o12) :: r, p.1 < d') : Apart [a0, a1, d', a3, a4, a5, a6, a7, a8, a9, a10, a11, a12] ((a2, o2) :: r) := by
  refine Apart.new (pre := [a0, a1]) (post := [a3, a4, a5, a6, a7, a8, a9, a10, a11, a12]) (k := 2) h (by decide) rfl (fun x hx => ?_) (fun p hp => hlt p (.tail _ (.tail _ (.tail _ (.tail _ (.tail _ (.tail _ (.tail _ (.tail _ (.tail _ (.tail _ (.tail _ (.tail _ (.tail _ (hp))))))))))))))) (hlt (a2, o2) (.tail _ (.tail _ (.head _))))
  obtain ⟨q, hq, e⟩ := List.mem_map.mp (show x ∈ List.map (fun p : Addr × Obj => p.1) ([(a0, o0), (a1, o1)] ++ [(a3, o3), (a4, o4), (a5, o5), (a6, o6), (a7, o7), (a8, o8), (a9, o9), (a10, o10), (a11, o11), (a12, o12)]) from hx)
  rw [← e]
  exact hlt q (del_sub (A := [(a0, o0), (a1, o1)]) (B := [(a3, o3), (a4, o4), (a5, o5), (a6, o6), (a7, o7), (a8, o8), (a9, o9), (a10, o10), (a11, o11), (a12, o12)]) q hq)
theorem apart_new3 {a0 a1 a2 a3 a4 a5 a6 a7 a8 a9 a10 a11 a12 : Addr} {o0 o1 o2 o3 o4 o5 o6 o7 o8 o9 o10 o11 o12 : Obj} {r : Ldg} {d' : Addr} (h : Apart [a0, a1, a2, a3, a4, a5, a6, a7, a8, a9, a10, a11, a12] r) (hlt : ∀ p ∈ (a0, o0) :: (a1, o1) :: (a2, o2) :: (a3, o3) :: (a4, o4) :: (a5, o5) :: (a6, o6) :: (a7, o7) :: (a8, o8) :: (a9, o9) :: (a10, o10) :: (a11, o11) :: (a12, o12) :: r, p.1 < d') : Apart [a0, a1, a2, d', a4, a5, a6, a7, a8, a9, a10, a11, a12] ((a3, o3) :: r) := by
  refine Apart.new (pre := [a0, a1, a2]) (post := [a4, a5, a6, a7, a8, a9, a10, a11, a12]) (k := 3) h (by decide) rfl (fun x hx => ?_) (fun p hp => hlt p (.tail _ (.tail _ (.tail _ (.tail _ (.tail _ (.tail _ (.tail _ (.tail _ (.tail _ (.tail _ (.tail _ (.tail _ (.tail _ (hp))))))))))))))) (hlt (a3, o3) (.tail _ (.tail _ (.tail _ (.head _)))))
  obtain ⟨q, hq, e⟩ := List.mem_map.mp (show x ∈ List.map (fun p : Addr × Obj => p.1) ([(a0, o0), (a1, o1), (a2, o2)] ++ [(a4, o4), (a5, o5), (a6, o6), (a7, o7), (a8, o8), (a9, o9), (a10, o10), (a11, o11), (a12, o12)]) from hx)
  rw [← e]
  exact hlt q (del_sub (A := [(a0, o0), (a1, o1), (a2, o2)]) (B := [(a4, o4), (a5, o5), (a6, o6), (a7, o7), (a8, o8), (a9, o9), (a10, o10), (a11, o11), (a12, o12)]) q hq)
theorem apart_new4 {a0 a1 a2 a3 a4 a5 a6 a7 a8 a9 a10 a11 a12 : Addr} {o0 o1 o2 o3 o4 o5 o6 o7 o8 o9 o10 o11 o12 : Obj} {r : Ldg} {d' : Addr} (h : Apart [a0, a1, a2, a3, a4, a5, a6, a7, a8, a9, a10, a11, a12] r) (hlt : ∀ p ∈ (a0, o0) :: (a1, o1) :: (a2, o2) :: (a3, o3) :: (a4, o4) :: (a5, o5) :: (a6, o6) :: (a7, o7) :: (a8, o8) :: (a9, o9) :: (a10, o10) :: (a11, o11) :: (a12, o12) :: r, p.1 < d') : Apart [a0, a1, a2, a3, d', a5, a6, a7, a8, a9, a10, a11, a12] ((a4, o4) :: r) := by
  refine Apart.new (pre := [a0, a1, a2, a3]) (post := [a5, a6, a7, a8, a9, a10, a11, a12]) (k := 4) h (by decide) rfl (fun x hx => ?_) (fun p hp => hlt p (.tail _ (.tail _ (.tail _ (.tail _ (.tail _ (.tail _ (.tail _ (.tail _ (.tail _ (.tail _ (.tail _ (.tail _ (.tail _ (hp))))))))))))))) (hlt (a4, o4) (.tail _ (.tail _ (.tail _ (.tail _ (.head _))))))
  obtain ⟨q, hq, e⟩ := List.mem_map.mp (show x ∈ List.map (fun p : Addr × Obj => p.1) ([(a0, o0), (a1, o1), (a2, o2), (a3, o3)] ++ [(a5, o5), (a6, o6), (a7, o7), (a8, o8), (a9, o9), (a10, o10), (a11, o11), (a12, o12)]) from hx)
  rw [← e]
  exact hlt q (del_sub (A := [(a0, o0), (a1, o1), (a2, o2), (a3, o3)]) (B := [(a5, o5), (a6, o6), (a7, o7), (a8, o8), (a9, o9), (a10, o10), (a11, o11), (a12, o12)]) q hq)
theorem shift13 {h₀ hh : Heap} {L : Addr} {a0 a1 a2 a3 a4 a5 a6 a7 a8 a9 a10 a11 a12 : Addr} {o0 o1 o2 o3 o4 o5 o6 o7 o8 o9 o10 o11 o12 : Obj} {ext r : Ldg} (N : News h₀ L hh (ext ++ (a0, o0) :: (a1, o1) :: (a2, o2) :: (a3, o3) :: (a4, o4) :: (a5, o5) :: (a6, o6) :: (a7, o7) :: (a8, o8) :: (a9, o9) :: (a10, o10) :: (a11, o11) :: (a12, o12) :: r)) (hT : Tups ext) (h : Apart [a0, a1, a2, a3, a4, a5, a6, a7, a8, a9, a10, a11, a12] r) (hc : ∀ o ∈ [o0, o1, o2, o3, o4, o5, o6, o7], o.cls ≠ .type "tuple") : News h₀ L hh ((a0, o0) :: (a1, o1) :: (a2, o2) :: (a3, o3) :: (a4, o4) :: (a5, o5) :: (a6, o6) :: (a7, o7) :: (a8, o8) :: (a9, o9) :: (a10, o10) :: (a11, o11) :: (a12, o12) :: (ext ++ r)) ∧ Apart [a0, a1, a2, a3, a4, a5, a6, a7, a8, a9, a10, a11, a12] (ext ++ r) := by
  refine ⟨news_sub N (app_sub (A := [(a0, o0), (a1, o1), (a2, o2), (a3, o3), (a4, o4), (a5, o5), (a6, o6), (a7, o7), (a8, o8), (a9, o9), (a10, o10), (a11, o11), (a12, o12)])), h.1, fun p hp => ?_⟩
  · rcases List.mem_append.mp hp with q | q
    · intro hin
      have hin2 : p.1 ∈ [a0, a1, a2, a3, a4, a5, a6, a7] := hin
      simp only [List.mem_cons, List.not_mem_nil, or_false] at hin2
      have ne : ∀ (a : Addr) (o : Obj), (a, o) ∈ ext ++ (a0, o0) :: (a1, o1) :: (a2, o2) :: (a3, o3) :: (a4, o4) :: (a5, o5) :: (a6, o6) :: (a7, o7) :: (a8, o8) :: (a9, o9) :: (a10, o10) :: (a11, o11) :: (a12, o12) :: r → o.cls ≠ .type "tuple" → p.1 ≠ a := fun a o hm hc => tups_ne N hT (fun p hp => List.mem_append_left _ hp) hm hc p q
      rcases hin2 with e | e | e | e | e | e | e | e
      · exact ne a0 o0 (List.mem_append_right _ (.head _)) (hc _ (.head _)) e
      · exact ne a1 o1 (List.mem_append_right _ (.tail _ (.head _))) (hc _ (.tail _ (.head _))) e
      · exact ne a2 o2 (List.mem_append_right _ (.tail _ (.tail _ (.head _)))) (hc _ (.tail _ (.tail _ (.head _)))) e
      · exact ne a3 o3 (List.mem_append_right _ (.tail _ (.tail _ (.tail _ (.head _))))) (hc _ (.tail _ (.tail _ (.tail _ (.head _))))) e
      · exact ne a4 o4 (List.mem_append_right _ (.tail _ (.tail _ (.tail _ (.tail _ (.head _)))))) (hc _ (.tail _ (.tail _ (.tail _ (.tail _ (.head _)))))) e
      · exact ne a5 o5 (List.mem_append_right _ (.tail _ (.tail _ (.tail _ (.tail _ (.tail _ (.head _))))))) (hc _ (.tail _ (.tail _ (.tail _ (.tail _ (.tail _ (.head _))))))) e
      · exact ne a6 o6 (List.mem_append_right _ (.tail _ (.tail _ (.tail _ (.tail _ (.tail _ (.tail _ (.head _)))))))) (hc _ (.tail _ (.tail _ (.tail _ (.tail _ (.tail _ (.tail _ (.head _)))))))) e
      · exact ne a7 o7 (List.mem_append_right _ (.tail _ (.tail _ (.tail _ (.tail _ (.tail _ (.tail _ (.tail _ (.head _))))))))) (hc _ (.tail _ (.tail _ (.tail _ (.tail _ (.tail _ (.tail _ (.tail _ (.head _))))))))) e
    · exact h.2 p q
theorem shift14 {h₀ hh : Heap} {L : Addr} {a0 a1 a2 a3 a4 a5 a6 a7 a8 a9 a10 a11 a12 : Addr} {o0 o1 o2 o3 o4 o5 o6 o7 o8 o9 o10 o11 o12 : Obj} {e : Addr × Obj} {ext r : Ldg} (N : News h₀ L hh (ext ++ e :: (a0, o0) :: (a1, o1) :: (a2, o2) :: (a3, o3) :: (a4, o4) :: (a5, o5) :: (a6, o6) :: (a7, o7) :: (a8, o8) :: (a9, o9) :: (a10, o10) :: (a11, o11) :: (a12, o12) :: r)) (hT : Tups ext) (h : Apart [a0, a1, a2, a3, a4, a5, a6, a7, a8, a9, a10, a11, a12] r) (hc : ∀ o ∈ [o0, o1, o2, o3, o4, o5, o6, o7], o.cls ≠ .type "tuple") : News h₀ L hh ((a0, o0) :: (a1, o1) :: (a2, o2) :: (a3, o3) :: (a4, o4) :: (a5, o5) :: (a6, o6) :: (a7, o7) :: (a8, o8) :: (a9, o9) :: (a10, o10) :: (a11, o11) :: (a12, o12) :: (ext ++ r)) ∧ Apart [a0, a1, a2, a3, a4, a5, a6, a7, a8, a9, a10, a11, a12] (ext ++ r) :=
  shift13 (news_sub N fun p hp => (List.mem_append.mp hp).elim (List.mem_append_left _) fun q => List.mem_append_right _ (.tail _ q)) hT h hc
theorem rot13 {h₀ hh : Heap} {L : Addr} {a0 a1 a2 a3 a4 a5 a6 a7 a8 a9 a10 a11 a12 : Addr} {o0 o1 o2 o3 o4 o5 o6 o7 o8 o9 o10 o11 o12 : Obj} {e : Addr × Obj} {r : Ldg} (N : News h₀ L hh (e :: (a0, o0) :: (a1, o1) :: (a2, o2) :: (a3, o3) :: (a4, o4) :: (a5, o5) :: (a6, o6) :: (a7, o7) :: (a8, o8) :: (a9, o9) :: (a10, o10) :: (a11, o11) :: (a12, o12) :: r)) : News h₀ L hh ((a0, o0) :: (a1, o1) :: (a2, o2) :: (a3, o3) :: (a4, o4) :: (a5, o5) :: (a6, o6) :: (a7, o7) :: (a8, o8) :: (a9, o9) :: (a10, o10) :: (a11, o11) :: (a12, o12) :: (e :: r)) := news_sub N (rot_sub (A := [(a0, o0), (a1, o1), (a2, o2), (a3, o3), (a4, o4), (a5, o5), (a6, o6), (a7, o7), (a8, o8), (a9, o9), (a10, o10), (a11, o11), (a12, o12)]))
theorem apart_fresh {a0 a1 a2 a3 a4 a5 a6 a7 a8 a9 a10 a11 a12 : Addr} {T : Addr} {o : Obj} {r : Ldg} (h : Apart [a0, a1, a2, a3, a4, a5, a6, a7, a8, a9, a10, a11, a12] r) (l1 : a0 < T ∧ a1 < T ∧ a2 < T ∧ a3 < T ∧ a4 < T ∧ a5 < T ∧ a6 < T ∧ a7 < T ∧ a8 < T ∧ a9 < T ∧ a10 < T ∧ a11 < T ∧ a12 < T ∧ AllLt T r) : Apart [a0, a1, a2, a3, a4, a5, a6, a7, a8, a9, a10, a11, a12] ((T, o) :: r) := by
  refine ⟨h.1, fun p hp => ?_⟩
  rcases List.mem_cons.mp hp with rfl | q
  · intro hin
    have hin2 : T ∈ [a0, a1, a2, a3, a4, a5, a6, a7] := hin
    simp only [List.mem_cons, List.not_mem_nil, or_false] at hin2
    rcases hin2 with e | e | e | e | e | e | e | e
    · exact Nat.ne_of_gt l1.1 e
    · exact Nat.ne_of_gt l1.2.1 e
    · exact Nat.ne_of_gt l1.2.2.1 e
    · exact Nat.ne_of_gt l1.2.2.2.1 e
    · exact Nat.ne_of_gt l1.2.2.2.2.1 e
    · exact Nat.ne_of_gt l1.2.2.2.2.2.1 e
    · exact Nat.ne_of_gt l1.2.2.2.2.2.2.1 e
    · exact Nat.ne_of_gt l1.2.2.2.2.2.2.2.1 e
  · exact h.2 p q
theorem list_new3 {h₀ hh : Heap} {L : Addr} {a0 a1 a2 a3 a4 a5 a6 a7 a8 a9 a10 a11 a12 : Addr} {o0 o1 o2 o3 o4 o5 o6 o7 o8 o9 o10 o11 o12 : Obj} {r : Ldg} {d' : Addr} {o' : Obj} (N : News h₀ L hh ((d', o') :: (a0, o0) :: (a1, o1) :: (a2, o2) :: (a3, o3) :: (a4, o4) :: (a5, o5) :: (a6, o6) :: (a7, o7) :: (a8, o8) :: (a9, o9) :: (a10, o10) :: (a11, o11) :: (a12, o12) :: r)) (h : Apart [a0, a1, a2, a3, a4, a5, a6, a7, a8, a9, a10, a11, a12] r) (l1 : a0 < d' ∧ a1 < d' ∧ a2 < d' ∧ a3 < d' ∧ a4 < d' ∧ a5 < d' ∧ a6 < d' ∧ a7 < d' ∧ a8 < d' ∧ a9 < d' ∧ a10 < d' ∧ a11 < d' ∧ a12 < d' ∧ AllLt d' r) : News h₀ L hh ((a0, o0) :: (a1, o1) :: (a2, o2) :: (d', o') :: (a4, o4) :: (a5, o5) :: (a6, o6) :: (a7, o7) :: (a8, o8) :: (a9, o9) :: (a10, o10) :: (a11, o11) :: (a12, o12) :: ((a3, o3) :: r)) ∧ Apart [a0, a1, a2, d', a4, a5, a6, a7, a8, a9, a10, a11, a12] ((a3, o3) :: r) := by
  exact ⟨news_sub N (mv_sub (A := [(a0, o0), (a1, o1), (a2, o2)]) (B := [(a4, o4), (a5, o5), (a6, o6), (a7, o7), (a8, o8), (a9, o9), (a10, o10), (a11, o11), (a12, o12)])), apart_new3 h (lt_of_allLt (l := (a0, o0) :: (a1, o1) :: (a2, o2) :: (a3, o3) :: (a4, o4) :: (a5, o5) :: (a6, o6) :: (a7, o7) :: (a8, o8) :: (a9, o9) :: (a10, o10) :: (a11, o11) :: (a12, o12) :: r) l1)⟩
theorem list_new4 {h₀ hh : Heap} {L : Addr} {a0 a1 a2 a3 a4 a5 a6 a7 a8 a9 a10 a11 a12 : Addr} {o0 o1 o2 o3 o4 o5 o6 o7 o8 o9 o10 o11 o12 : Obj} {r : Ldg} {d' : Addr} {o' : Obj} (N : News h₀ L hh ((d', o') :: (a0, o0) :: (a1, o1) :: (a2, o2) :: (a3, o3) :: (a4, o4) :: (a5, o5) :: (a6, o6) :: (a7, o7) :: (a8, o8) :: (a9, o9) :: (a10, o10) :: (a11, o11) :: (a12, o12) :: r)) (h : Apart [a0, a1, a2, a3, a4, a5, a6, a7, a8, a9, a10, a11, a12] r) (l1 : a0 < d' ∧ a1 < d' ∧ a2 < d' ∧ a3 < d' ∧ a4 < d' ∧ a5 < d' ∧ a6 < d' ∧ a7 < d' ∧ a8 < d' ∧ a9 < d' ∧ a10 < d' ∧ a11 < d' ∧ a12 < d' ∧ AllLt d' r) : News h₀ L hh ((a0, o0) :: (a1, o1) :: (a2, o2) :: (a3, o3) :: (d', o') :: (a5, o5) :: (a6, o6) :: (a7, o7) :: (a8, o8) :: (a9, o9) :: (a10, o10) :: (a11, o11) :: (a12, o12) :: ((a4, o4) :: r)) ∧ Apart [a0, a1, a2, a3, d', a5, a6, a7, a8, a9, a10, a11, a12] ((a4, o4) :: r) := by
  exact ⟨news_sub N (mv_sub (A := [(a0, o0), (a1, o1), (a2, o2), (a3, o3)]) (B := [(a5, o5), (a6, o6), (a7, o7), (a8, o8), (a9, o9), (a10, o10), (a11, o11), (a12, o12)])), apart_new4 h (lt_of_allLt (l := (a0, o0) :: (a1, o1) :: (a2, o2) :: (a3, o3) :: (a4, o4) :: (a5, o5) :: (a6, o6) :: (a7, o7) :: (a8, o8) :: (a9, o9) :: (a10, o10) :: (a11, o11) :: (a12, o12) :: r) l1)⟩
theorem cell_new1 {h₀ hh : Heap} {L : Addr} {a0 a1 a2 a3 a4 a5 a6 a7 a8 a9 a10 a11 a12 : Addr} {o0 o1 o2 o3 o4 o5 o6 o7 o8 o9 o10 o11 o12 : Obj} {e : Addr × Obj} {r : Ldg} {d' : Addr} {o' q' : Obj} (N : News h₀ L hh ((d', o') :: e :: (a0, o0) :: (a1, o1) :: (a2, o2) :: (a3, o3) :: (a4, o4) :: (a5, o5) :: (a6, q') :: (a7, o7) :: (a8, o8) :: (a9, o9) :: (a10, o10) :: (a11, o11) :: (a12, o12) :: r)) (h : Apart [a0, a1, a2, a3, a4, a5, a6, a7, a8, a9, a10, a11, a12] r) (l1 : ∀ p ∈ e :: (a0, o0) :: (a1, o1) :: (a2, o2) :: (a3, o3) :: (a4, o4) :: (a5, o5) :: (a6, o6) :: (a7, o7) :: (a8, o8) :: (a9, o9) :: (a10, o10) :: (a11, o11) :: (a12, o12) :: r, p.1 < d') : News h₀ L hh ((a0, o0) :: (d', o') :: (a2, o2) :: (a3, o3) :: (a4, o4) :: (a5, o5) :: (a6, q') :: (a7, o7) :: (a8, o8) :: (a9, o9) :: (a10, o10) :: (a11, o11) :: (a12, o12) :: ((a1, o1) :: r)) ∧ Apart [a0, d', a2, a3, a4, a5, a6, a7, a8, a9, a10, a11, a12] ((a1, o1) :: r) := by
  exact ⟨news_sub N (mv_sub2 (A := [(a0, o0)]) (B := [(a2, o2), (a3, o3), (a4, o4), (a5, o5), (a6, q'), (a7, o7), (a8, o8), (a9, o9), (a10, o10), (a11, o11), (a12, o12)])), apart_new1 (o0 := o0) (o1 := o1) (o2 := o2) (o3 := o3) (o4 := o4) (o5 := o5) (o6 := o6) (o7 := o7) (o8 := o8) (o9 := o9) (o10 := o10) (o11 := o11) (o12 := o12) h fun p hp => l1 p (.tail _ hp)⟩
theorem cell_new2 {h₀ hh : Heap} {L : Addr} {a0 a1 a2 a3 a4 a5 a6 a7 a8 a9 a10 a11 a12 : Addr} {o0 o1 o2 o3 o4 o5 o6 o7 o8 o9 o10 o11 o12 : Obj} {e : Addr × Obj} {r : Ldg} {d' : Addr} {o' q' : Obj} (N : News h₀ L hh ((d', o') :: e :: (a0, o0) :: (a1, o1) :: (a2, o2) :: (a3, o3) :: (a4, o4) :: (a5, o5) :: (a6, o6) :: (a7, q') :: (a8, o8) :: (a9, o9) :: (a10, o10) :: (a11, o11) :: (a12, o12) :: r)) (h : Apart [a0, a1, a2, a3, a4, a5, a6, a7, a8, a9, a10, a11, a12] r) (l1 : ∀ p ∈ e :: (a0, o0) :: (a1, o1) :: (a2, o2) :: (a3, o3) :: (a4, o4) :: (a5, o5) :: (a6, o6) :: (a7, o7) :: (a8, o8) :: (a9, o9) :: (a10, o10) :: (a11, o11) :: (a12, o12) :: r, p.1 < d') : News h₀ L hh ((a0, o0) :: (a1, o1) :: (d', o') :: (a3, o3) :: (a4, o4) :: (a5, o5) :: (a6, o6) :: (a7, q') :: (a8, o8) :: (a9, o9) :: (a10, o10) :: (a11, o11) :: (a12, o12) :: ((a2, o2) :: r)) ∧ Apart [a0, a1, d', a3, a4, a5, a6, a7, a8, a9, a10, a11, a12] ((a2, o2) :: r) := by
  exact ⟨news_sub N (mv_sub2 (A := [(a0, o0), (a1, o1)]) (B := [(a3, o3), (a4, o4), (a5, o5), (a6, o6), (a7, q'), (a8, o8), (a9, o9), (a10, o10), (a11, o11), (a12, o12)])), apart_new2 (o0 := o0) (o1 := o1) (o2 := o2) (o3 := o3) (o4 := o4) (o5 := o5) (o6 := o6) (o7 := o7) (o8 := o8) (o9 := o9) (o10 := o10) (o11 := o11) (o12 := o12) h fun p hp => l1 p (.tail _ hp)⟩
end Mine

namespace Mine
/-- what does not change while the law's steps go on: the addresses of the counters and their makings -/
structure Cn where
  (src c dc pd p1 dp1 p2 dp2 ld : Addr)
  po : Obj
  (b hb hp hb1 hc1 hb2 hc2 : Int)
  (tb tkc tp tb1 tk1 tc1 tb2 tk2 tc2 : Tok)
structure CnOk (prog : Program) (w : World) (C : Cn) : Prop where
  P : C.po.IsDictOf (PySem.intKind prog w) [(1, .ref C.p1), (2, .ref C.p2)]
  lo : (C.pd == sysModules) = false
  lol : (C.ld == sysModules) = false
  b0 : 0 ≤ C.b
  b1 : C.b ≤ 32
def sysL (C : Cn) (os : Obj) (d1 : Addr) (o1 : Obj) (d2 : Addr) (o2 : Obj) (L1 : Addr) (l1 : Obj) (L2 : Addr) (l2 : Obj) (ldo : Obj) (r : Ldg) : Ldg :=
  (C.src, os) :: (d1, o1) :: (d2, o2) :: (L1, l1) :: (L2, l2) :: (C.ld, ldo) ::
  (C.dp1, dictOf [⟨C.hb1, .str "bits" C.tb1, .int C.b C.tk1⟩, ⟨C.hc1, .str "counts" C.tc1, .ref d1⟩] 2) ::
  (C.dp2, dictOf [⟨C.hb2, .str "bits" C.tb2, .int C.b C.tk2⟩, ⟨C.hc2, .str "counts" C.tc2, .ref d2⟩] 2) ::
  (C.c, instObj 202 C.dc) :: (C.dc, dictOf [⟨C.hb, .str "bits" C.tb, .int C.b C.tkc⟩, ⟨C.hp, .str "ports" C.tp, .ref C.pd⟩] 2) :: (C.pd, C.po) :: (C.p1, instObj 123 C.dp1) :: (C.p2, instObj 123 C.dp2) :: r
/-- a function of the port, changed at one -/
def up {α : Type} (f : Int → α) (p : Int) (v : α) : Int → α := fun q => if q = p then v else f q
theorem up_eq {α : Type} {f : Int → α} {p : Int} {v : α} : up f p v p = v := if_pos rfl
theorem up_ne {α : Type} {f : Int → α} {p q : Int} {v : α} (h : q ≠ p) : up f p v q = f q := if_neg h
/-- the counters tell a, the lists hold b (at the addresses ls) -/
structure StF (prog : Program) (w : World) (C : Cn) (a b : Int → List Row) (ls : Int → Addr) (x y : Int) (d1 : Addr) (o1 : Obj) (d2 : Addr) (o2 : Obj) (vs1 : List Value) (vs2 : List Value) (ldo : Obj) (r : Ldg) : Prop where
  x0 : 0 ≤ x
  y0 : 0 ≤ y
  y1 : y < 2147483647
  C1 : CD prog w r o1 (counts (2 ^ C.b.toNat) (a 1))
  C2 : CD prog w r o2 (counts (2 ^ C.b.toNat) (a 2))
  R1 : RowRefs r vs1 (b 1)
  R2 : RowRefs r vs2 (b 2)
  lo1 : (d1 == sysModules) = false
  lo2 : (d2 == sysModules) = false
  D : ldo.IsDictOf (PySem.intKind prog w) [(1, .ref (ls 1)), (2, .ref (ls 2))]
  ap : Apart [C.src, d1, d2, ls 1, ls 2, C.ld, C.dp1, C.dp2, C.c, C.dc, C.pd, C.p1, C.p2] r
def StG (prog : Program) (w : World) (C : Cn) (bs : Ldg) (a b : Int → List Row) (ls : Int → Addr) (nws : Ldg) : Prop :=
  ∃ x y tx ty n d1 o1 d2 o2 vs1 n1 vs2 n2 ldo ext,
    nws = sysL C (listOf (List.toArray [Value.int x tx, Value.int y ty]) n) d1 o1 d2 o2 (ls 1) (listOf (List.toArray vs1) n1) (ls 2) (listOf (List.toArray vs2) n2) ldo (ext ++ bs) ∧
    StF prog w C a b ls x y d1 o1 d2 o2 vs1 vs2 ldo (ext ++ bs)
/-- between the steps -/
def St (prog : Program) (w : World) (C : Cn) (bs : Ldg) (i : Nat) (nws : Ldg) : Prop :=
  ∃ a ls, StG prog w C bs a a ls nws ∧ (∀ p, (a p).length ≤ i) ∧ ∀ p, ∀ r ∈ a p, RowOk r
theorem cls_list {its : Array Value} {n : Nat} : (listOf its n).cls ≠ .type "tuple" := show Value.type "list" ≠ _ by decide
theorem cls_dict {es : List DictEntry} {n : Nat} : (dictOf es n).cls ≠ .type "tuple" := show Value.type "dict" ≠ _ by decide
theorem cls_cd {prog : Program} {w : World} {sg : Ldg} {o : Obj} {al : AL} (C : CD prog w sg o al) : o.cls ≠ .type "tuple" := by rw [C.cls]; decide
theorem cls_kd {prog : Program} {w : World} {o : Obj} {kvs : List (Int × Value)} (C : o.IsDictOf (PySem.intKind prog w) kvs) : o.cls ≠ .type "tuple" := by
  obtain ⟨_, _, h, _⟩ := C
  rw [h.1]; decide
theorem cls8 {prog : Program} {w : World} {sg : Ldg} {o1 o2 ldo : Obj} {al1 al2 : AL} {kvs : List (Int × Value)} {i0 i1 i2 : Array Value} {n0 n1 n2 m1 m2 : Nat} {e1 e2 : List DictEntry} (C1 : CD prog w sg o1 al1) (C2 : CD prog w sg o2 al2) (D : ldo.IsDictOf (PySem.intKind prog w) kvs) :
    ∀ o ∈ [listOf i0 n0, o1, o2, listOf i1 n1, listOf i2 n2, ldo, dictOf e1 m1, dictOf e2 m2], o.cls ≠ .type "tuple" := by
  intro o ho
  simp only [List.mem_cons, List.not_mem_nil, or_false] at ho
  rcases ho with e | e | e | e | e | e | e | e <;> rw [e]
  · exact cls_list
  · exact cls_cd C1
  · exact cls_cd C2
  · exact cls_list
  · exact cls_list
  · exact cls_kd D
  · exact cls_dict
  · exact cls_dict
theorem append_U {prog : Program} {w : World} {A : Around} {E : Value → Shared → Prop} {s : Shared} {h₀ : Heap} {L D : Addr} {m : Str → Option Value} {nw : Ldg} {vs : List Value} {n : Nat} {x : Value} {g : Obj → Ldg} {Q : Value → Shared → Prop} (F : Fr h₀ L s.heap m) (N : News h₀ L s.heap nw) (U : UpdF D (listOf (List.toArray vs) n) nw g) (hz : vs.length ≤ 64)
    (h : ∀ h', Fr h₀ L h' m → News h₀ L h' (g (listOf (List.toArray (vs ++ [x])) (n + 1))) → Q .none { s with heap := h' }) : wpAny (model prog w) A (call (.builtin "list.append") [.ref D, x]) Q E s := by
  obtain ⟨pre, post, rfl, hg, a, b⟩ := U.split
  have z := N (D, listOf (List.toArray vs) n) (List.mem_append.mpr (.inr (.head _)))
  have e : (List.toArray vs).push x = List.toArray (vs ++ [x]) := by simp
  exact append_at (hsz := by rw [List.size_toArray, sizeLine_eq]; omega) z.1 fun h' hs ho' => h h' (F.change hs z.2.1 z.2.2) (hg _ ▸ news_set N a b hs (e ▸ ho'))
theorem RowRefs.empty {sg : Ldg} : RowRefs sg [] [] := .nil
theorem rows_snoc {rows : List Row} {r : Row} (h : ∀ r ∈ rows, RowOk r) (hr : RowOk r) : ∀ q ∈ rows ++ [r], RowOk q := fun q hq => by
  rcases List.mem_append.mp hq with h1 | h1
  · exact h q h1
  · rw [List.mem_singleton.mp h1]; exact hr
theorem StF.news {prog : Program} {w : World} {C : Cn} {a b : Int → List Row} {ls : Int → Addr} {x y : Int} {d1 d2 : Addr} {o1 o2 : Obj} {vs1 vs2 : List Value} {ldo : Obj} {r r' : Ldg} (Y : StF prog w C a b ls x y d1 o1 d2 o2 vs1 vs2 ldo r) (hs : ∀ p ∈ r, p ∈ r')
    (ap : Apart [C.src, d1, d2, ls 1, ls 2, C.ld, C.dp1, C.dp2, C.c, C.dc, C.pd, C.p1, C.p2] r') : StF prog w C a b ls x y d1 o1 d2 o2 vs1 vs2 ldo r' :=
  ⟨Y.x0, Y.y0, Y.y1, Y.C1.grow hs, Y.C2.grow hs, Y.R1.mono hs, Y.R2.mono hs, Y.lo1, Y.lo2, Y.D, ap⟩
theorem st_clear {prog : Program} {w : World} {C : Cn} {bs : Ldg} {i : Nat} {a : Int → List Row} {ls : Int → Addr} {nws : Ldg} {p : Int} (h : StG prog w C bs (up a p []) (up a p []) ls nws) (hl : ∀ p, (a p).length ≤ i) (hk : ∀ p, ∀ r ∈ a p, RowOk r) : St prog w C bs (i + 1) nws := by
  refine ⟨_, ls, h, fun q => ?_, fun q => ?_⟩ <;> by_cases e : q = p
  · rw [e, up_eq]; exact Nat.zero_le _
  · rw [up_ne e]; exact Nat.le_succ_of_le (hl q)
  · rw [e, up_eq]; exact fun _ h => nomatch h
  · rw [up_ne e]; exact hk q
theorem st_row {prog : Program} {w : World} {C : Cn} {bs : Ldg} {i : Nat} {a : Int → List Row} {ls : Int → Addr} {nws : Ldg} {p : Int} {row : Row} (h : StG prog w C bs (up a p (a p ++ [row])) (up a p (a p ++ [row])) ls nws) (hl : ∀ p, (a p).length ≤ i) (hk : ∀ p, ∀ r ∈ a p, RowOk r) (hr : RowOk row) : St prog w C bs (i + 1) nws := by
  refine ⟨_, ls, h, fun q => ?_, fun q => ?_⟩ <;> by_cases e : q = p
  · rw [e, up_eq, List.length_append]; exact Nat.succ_le_succ (hl p)
  · rw [up_ne e]; exact Nat.le_succ_of_le (hl q)
  · rw [e, up_eq]; exact rows_snoc (hk p) hr
  · rw [up_ne e]; exact hk q
theorem len900 {M : Int} {rows : List Row} {i : Nat} (h : rows.length ≤ i) (hi : i < 12) : (counts M rows).length ≤ 900 := by
  have := counts_length M rows
  omega
end Mine

namespace Mine
/-! the keys of the counts -/
theorem put_all {P : Key → Prop} {al : AL} {k : Key} {v : Int} (h : ∀ x ∈ al, P x.1) (hk : P k) : ∀ x ∈ put al k v, P x.1 := by
  intro x hx
  have hm : x.1 ∈ (put al k v).map (·.1) := List.mem_map.mpr ⟨x, hx, rfl⟩
  rw [put_keys] at hm
  split at hm
  · obtain ⟨y, hy, e⟩ := List.mem_map.mp hm
    exact e ▸ h y hy
  · rcases List.mem_append.mp hm with hm | hm
    · obtain ⟨y, hy, e⟩ := List.mem_map.mp hm
      exact e ▸ h y hy
    · rw [List.mem_singleton.mp hm]; exact hk
theorem bumps_all {P : Key → Prop} {M : Int} : ∀ {ps al : AL}, (∀ x ∈ al, P x.1) → (∀ x ∈ ps, P x.1) → ∀ x ∈ bumps M al ps, P x.1
  | [], _, h, _ => h
  | p :: ps, _, h, hp => bumps_all (ps := ps) (put_all h (hp p (.head _))) fun x hx => hp x (.tail _ hx)
theorem countsFrom_all {P : Key → Prop} {M : Int} : ∀ {rows : List Row} {al : AL}, (∀ x ∈ al, P x.1) → (∀ r ∈ rows, ∀ x ∈ r.names, P x.1) → ∀ x ∈ countsFrom M al rows, P x.1
  | [], _, h, _ => h
  | r :: rows, _, h, hp => countsFrom_all (rows := rows) (bumps_all h (hp r (.head _))) fun r' hr => hp r' (.tail _ hr)
theorem counts_all {P : Key → Prop} {M : Int} {rows : List Row} (h : ∀ r ∈ rows, ∀ x ∈ r.names, P x.1) : ∀ x ∈ counts M rows, P x.1 := countsFrom_all (fun _ h => nomatch h) h
theorem counts_ne {M : Int} {rows : List Row} : ∀ x ∈ counts M rows, x.1 ≠ [] := counts_all (P := fun k => k ≠ []) fun r _ x hx => by
  cases r <;> simp only [Row.names, List.mem_cons, List.not_mem_nil, or_false] at hx
  · rcases hx with rfl | rfl <;> simp
  · rcases hx with rfl | rfl | rfl | rfl <;> simp
theorem KOk.nil : KOk [] := fun _ h => nomatch h
theorem KOk.cons {x : Str} {k : Key} (hx : PyData.strOk x = true) (h : KOk k) : KOk (x :: k) := fun y hy => by
  rcases List.mem_cons.mp hy with rfl | hy
  · exact hx
  · exact h y hy
theorem sortS_ok (x : Int) : PyData.strOk (sortS x) = true := by
  rcases sortS_cases x with h | h | h <;> rw [h] <;> decide +kernel
theorem classS_ok (x : Int) : PyData.strOk (classS x) = true := by
  rcases classS_cases x with h | h | h | h | h | h | h <;> rw [h] <;> decide +kernel
theorem row_names_ok {r : Row} (h : RowOk r) : ∀ x ∈ r.names, KOk x.1 := fun x hx => by
  cases r <;> simp only [Row.names, List.mem_cons, List.not_mem_nil, or_false] at hx
  · rcases hx with rfl | rfl
    · exact .cons h.1 (.cons (by decide +kernel) .nil)
    · exact .cons h.1 (.cons (by decide +kernel) (.cons h.2 .nil))
  · rcases hx with rfl | rfl | rfl | rfl
    · exact .cons h.1 (.cons (by decide +kernel) .nil)
    · exact .cons h.1 (.cons (by decide +kernel) .nil)
    · exact .cons h.1 (.cons (sortS_ok _) .nil)
    · exact .cons h.1 (.cons (by decide +kernel) (.cons (classS_ok _) .nil))
theorem counts_ok {M : Int} {rows : List Row} (h : ∀ r ∈ rows, RowOk r) : ∀ x ∈ counts M rows, KOk x.1 := counts_all fun r hr => row_names_ok (h r hr)
theorem told_counts_ok {M : Int} {rows : List Row} (h : ∀ r ∈ rows, RowOk r) : ∀ d ∈ told_ (counts M rows), kqdOk 8 d = true := told_ok (counts_ok h)
theorem put_length_new {al : AL} {k : Key} {v : Int} (h : has al k = false) : (put al k v).length = al.length + 1 := by
  unfold put
  rw [h]
  simp
theorem bumps_ge (M : Int) : ∀ (ps al : AL), al.length ≤ (bumps M al ps).length
  | [], _ => Nat.le_refl _
  | _ :: ps, _ => Nat.le_trans (put_length_ge _ _ _) (bumps_ge M ps _)
theorem countsFrom_ge (M : Int) : ∀ (rows : List Row) (al : AL), al.length ≤ (countsFrom M al rows).length
  | [], _ => Nat.le_refl _
  | _ :: rows, _ => Nat.le_trans (bumps_ge M _ _) (countsFrom_ge M rows _)
theorem two_new {M : Int} {k1 k2 : Key} {v1 v2 : Int} {ps : AL} (h : k1 ≠ k2) : 2 ≤ (bumps M [] ((k1, v1) :: (k2, v2) :: ps)).length := by
  refine Nat.le_trans ?_ (bumps_ge M ps _)
  have e : has (bump M [] k1 v1) k2 = false := by
    show (List.find? _ [(k1, _)]).isSome = false
    simp [h]
  show 2 ≤ (put (bump M [] k1 v1) k2 _).length
  rw [put_length_new e]
  exact Nat.le_refl 2
theorem counts_ne1 {M : Int} {rows : List Row} : (counts M rows).length ≠ 1 := by
  cases rows with
  | nil => exact Nat.zero_ne_one
  | cons r rows =>
    have h : 2 ≤ (bumps M [] r.names).length := by
      cases r
      · exact two_new (by intro e; injection e with _ e; injection e with _ e; cases e)
      · exact two_new (by intro e; injection e with _ e; injection e with e _; exact ne_str (by decide) e)
    have := Nat.le_trans h (countsFrom_ge M rows _)
    show (countsFrom M (bumps M [] r.names) rows).length ≠ 1
    omega
theorem counts_64 {M : Int} {rows : List Row} (h : rows.length ≤ 12) : (counts M rows).length < 64 := by
  have := counts_length M rows
  omega
/-! a comprehension whose element leaves things behind -/
theorem Drop3.app {I : Addr} {oI : Obj} {C : Addr} {oC : Obj} {D : Addr} {oD : Obj} {l r : Ldg} (h : Drop3 I oI C oC D oD l r) : ∀ ext : Ldg, Drop3 I oI C oC D oD (ext ++ l) (ext ++ r)
  | [] => h
  | _ :: e => .keep (Drop3.app h e)
theorem off3_new {I C D fd : Addr} {oI oC oD o' : Obj} {ext nw : Ldg} (hf : Fresh ((I, oI) :: (C, oC) :: (D, oD) :: nw) ((fd, o') :: ext)) (ho : LCg.Off3 I C D nw) : LCg.Off3 I C D ((fd, o') :: (ext ++ nw)) :=
  LCg.Off3.of fun p hp => by
    have new : ∀ q ∈ (fd, o') :: ext, q.1 ≠ I ∧ q.1 ≠ C ∧ q.1 ≠ D := fun q hq => ⟨Nat.ne_of_gt (hf q hq (I, oI) (.head _)), Nat.ne_of_gt (hf q hq (C, oC) (.tail _ (.head _))), Nat.ne_of_gt (hf q hq (D, oD) (.tail _ (.tail _ (.head _))))⟩
    rcases List.mem_cons.mp hp with e | hp
    · exact new p (e ▸ .head _)
    · rcases List.mem_append.mp hp with hp | hp
      · exact new p (.tail _ hp)
      · exact LCg.Off3.mem ho p hp
theorem sub_apr {l l' k : Ldg} (h : ∀ p ∈ l, p ∈ l') : ∀ p ∈ l, p ∈ k ++ l' := fun p hp => List.mem_append_right _ (h p hp)
theorem Tups.filter {l : Ldg} : Tups (l.filter fun p => decide (p.2.cls = .type "tuple")) := fun _ hp => of_decide_eq_true (List.mem_filter.mp hp).2
theorem compSrc_lst {prog : Program} {w : World} {A : Around} {h₀ : Heap} {L : Addr} {m : Str → Option Value} {env : Env} {elt : Expr} {x : Str} {scope : Scope} {cl : List (Str × Addr)} {Fin : Shared → List Value → Ldg → Prop} {s₁ : Shared} {r : Addr} {vs : List Value} {k n : Nat} {news : Ldg}
    (hh : A.handled = none) (F : Fr h₀ L s₁.heap m) (N : News h₀ L s₁.heap news) (hm : (r, W.listOf (List.toArray vs) k) ∈ news) (hn : vs.length = n) (hsz : n ≤ sizeLine)
    (h : ∀ g, LCg.CompRest prog w A h₀ L m env elt x scope cl { s₁ with heap := g } (LCg.SrcAt h₀ r (List.toArray vs)) (fun i v => vs[i]? = some v) (Fin { s₁ with heap := g }) n 0 [] news) : LCg.CompSrc prog w A h₀ L m env elt x scope cl Fin (.ref r) s₁ := by
  subst hn
  refine Or.inl ⟨r, List.toArray vs, news, rfl, hh, F, N, .inr ⟨_, hm, rfl, _, rfl⟩, by simpa using hsz, ?_⟩
  rintro s₂ ⟨g, rfl⟩
  have := h g
  simpa using this
theorem srcAt_mem {h₀ : Heap} {r : Addr} {vs : List Value} {k : Nat} {news : Ldg} (hm : (r, W.listOf (List.toArray vs) k) ∈ news) : LCg.SrcAt h₀ r (List.toArray vs) news := .inr ⟨_, hm, rfl, _, rfl⟩
theorem cells_lt {K : Addr} {oB oL oC : Obj} {nw : Ldg} (h : ∀ p ∈ nw, p.1 < K) : ∀ p ∈ (K + 1 + 1 + 1, oB) :: (K + 1 + 1, oL) :: (K + 1, oC) :: nw, @LT.lt Nat _ p.1 (K + 1 + 1 + 1 + 1) := fun p hp => by
  rcases List.mem_cons.mp hp with e | hp
  · rw [e]; exact Nat.lt_succ_self _
  rcases List.mem_cons.mp hp with e | hp
  · rw [e]; exact Nat.lt_succ_of_lt (Nat.lt_succ_self _)
  rcases List.mem_cons.mp hp with e | hp
  · rw [e]; exact Nat.lt_succ_of_lt (Nat.lt_succ_of_lt (Nat.lt_succ_self _))
  · exact Nat.lt_succ_of_lt (Nat.lt_succ_of_lt (Nat.lt_succ_of_lt (Nat.lt_succ_of_lt (h p hp))))
/-- the ledger behind the first comprehension of _law_is_right, sorted -/
theorem mix {h₀ h : Heap} {L ll DD fdb fda l12 cN cU cP : Addr} {ol oD ob oa o12 oN oU oP : Obj} {extb exta nwA ra rb : Ldg}
    (N : News h₀ L h ((ll, ol) :: (DD, oD) :: (fdb, ob) :: (extb ++ (fda, oa) :: (exta ++ (l12, o12) :: (cN, oN) :: (cU, oU) :: (cP, oP) :: nwA))))
    (oDD : LCg.Off1 DD ((fdb, ob) :: (extb ++ (fda, oa) :: (exta ++ (l12, o12) :: (cN, oN) :: (cU, oU) :: (cP, oP) :: nwA))))
    (HFb : Fresh rb ((fdb, ob) :: extb)) (hrb : ∀ p ∈ (cN, oN) :: (cU, oU) :: (cP, oP) :: nwA, p ∈ rb) (HFa : Fresh ra ((fda, oa) :: exta)) (hra : ∀ p ∈ (cN, oN) :: (cU, oU) :: (cP, oP) :: nwA, p ∈ ra)
    (lll : AllLt ll ((DD, oD) :: (fdb, ob) :: (extb ++ (fda, oa) :: (exta ++ (l12, o12) :: (cN, oN) :: (cU, oU) :: (cP, oP) :: nwA)))) (lA : ∀ p ∈ nwA, p.1 < cP) (hPU : cP < cU) (hUN : cU < cN) :
    ∃ nwB, News h₀ L h ((ll, ol) :: (cN, oN) :: (cU, oU) :: (cP, oP) :: nwB) ∧ (∀ p ∈ nwA, p ∈ nwB) ∧ (DD, oD) ∈ nwB ∧ (fda, oa) ∈ nwB ∧ (fdb, ob) ∈ nwB ∧ (∀ p ∈ exta, p ∈ nwB) ∧ (∀ p ∈ extb, p ∈ nwB) ∧
      (∀ p ∈ nwB, p.1 ≠ cP) ∧ (∀ p ∈ nwB, p.1 ≠ cU) ∧ (∀ p ∈ nwB, p.1 ≠ cN) ∧ cN < ll ∧ cU < ll ∧ cP < ll := by
  have hPN : cP < cN := Nat.lt_trans hPU hUN
  have inl : ∀ p ∈ (cN, oN) :: (cU, oU) :: (cP, oP) :: nwA, p ∈ (fdb, ob) :: (extb ++ (fda, oa) :: (exta ++ (l12, o12) :: (cN, oN) :: (cU, oU) :: (cP, oP) :: nwA)) := fun p hp => .tail _ (List.mem_append_right _ (.tail _ (List.mem_append_right _ (.tail _ hp))))
  have ne : ∀ (c : Addr) (o : Obj), (c, o) ∈ (cN, oN) :: (cU, oU) :: (cP, oP) :: nwA → cP ≤ c → ∀ p ∈ (DD, oD) :: (fdb, ob) :: (extb ++ (fda, oa) :: (exta ++ nwA)), p.1 ≠ c := by
    intro c o hc hle p hp
    rcases List.mem_cons.mp hp with e | hp
    · rw [e]; exact fun q => off1_mem oDD (c, o) (inl _ hc) q.symm
    rcases List.mem_cons.mp hp with e | hp
    · rw [e]; exact Nat.ne_of_gt (HFb _ (.head _) _ (hrb _ hc))
    rcases List.mem_append.mp hp with hp | hp
    · exact Nat.ne_of_gt (HFb _ (.tail _ hp) _ (hrb _ hc))
    rcases List.mem_cons.mp hp with e | hp
    · rw [e]; exact Nat.ne_of_gt (HFa _ (.head _) _ (hra _ hc))
    rcases List.mem_append.mp hp with hp | hp
    · exact Nat.ne_of_gt (HFa _ (.tail _ hp) _ (hra _ hc))
    · exact Nat.ne_of_lt (Nat.lt_of_lt_of_le (lA p hp) hle)
  have lt := lt_of_allLt lll
  refine ⟨(DD, oD) :: (fdb, ob) :: (extb ++ (fda, oa) :: (exta ++ nwA)), news_sub N fun p hp => ?_, fun p hp => .tail _ (.tail _ (List.mem_append_right _ (.tail _ (List.mem_append_right _ hp)))), .head _, .tail _ (.tail _ (List.mem_append_right _ (.head _))), .tail _ (.head _),
    fun p hp => .tail _ (.tail _ (List.mem_append_right _ (.tail _ (List.mem_append_left _ hp)))), fun p hp => .tail _ (.tail _ (List.mem_append_left _ hp)),
    ne cP oP (.tail _ (.tail _ (.head _))) (Nat.le_refl _), ne cU oU (.tail _ (.head _)) (Nat.le_of_lt hPU), ne cN oN (.head _) (Nat.le_of_lt hPN),
    lt (cN, oN) (.tail _ (inl _ (.head _))), lt (cU, oU) (.tail _ (inl _ (.tail _ (.head _)))), lt (cP, oP) (.tail _ (inl _ (.tail _ (.tail _ (.head _)))))⟩
  simp only [List.mem_cons, List.mem_append] at hp ⊢
  rcases hp with h | h | h | h | h | h | h | h | h | h <;> simp only [h, true_or, or_true]
theorem gen_led {h₀ h : Heap} {L : Addr} {l : Ldg} (N : News h₀ L h l) : ∃ nwC, News h₀ L h nwC ∧ ∀ p ∈ l, p ∈ nwC := ⟨l, N, fun _ h => h⟩
theorem same_ne {prog : Program} {w : World} {A : Around} {E : Value → Shared → Prop} {s : Shared} {h₀ : Heap} {L a b : Addr} {nw n₁ n₂ : Ldg} {xs ys : List Value} {ds : List Dat} {ka kb : Nat} {Q : Value → Shared → Prop}
    (N : News h₀ L s.heap nw) (ma : (a, W.listOf (List.toArray xs) ka) ∈ nw) (Da : DatAll n₁ xs ds) (sa : ∀ p ∈ n₁, p ∈ nw) (mb : (b, W.listOf (List.toArray ys) kb) ∈ nw) (Db : DatAll n₂ ys ds) (sb : ∀ p ∈ n₂, p ∈ nw)
    (ha : ∀ d ∈ ds, kqdOk 8 d = true) (hu : A.units + 64 < cLine) (h : Q (.bool false) s) : wpAny (model prog w) A (compareOp .NotEq (.ref a) (.ref b)) Q E s := by
  refine kqd_ne N ma rfl rfl Da sa mb rfl rfl Db sb ha ha hu ?_
  simpa using h
/-- the first loop of _law_is_right -/
def RJ1 (m0 : Str → Option Value) (ll : Addr) (ol : Obj) (cN : Addr) (oN : Obj) (cU cP : Addr) (nwB : Ldg) (_ : Nat) (m₁ : Str → Option Value) (nw₁ : Ldg) : Prop :=
  m₁ = m0 ∧ ∃ oU oP, nw₁ = (ll, ol) :: (cN, oN) :: (cU, oU) :: (cP, oP) :: nwB ∧ (∃ v, oU.data = .cell v) ∧ ∃ v, oP.data = .cell v
/-- the third: what the name is -/
def RJ2 (S : List Str) (m0 : Str → Option Value) (pre : Ldg) (cN : Addr) (nwB : Ldg) (_ : Nat) (m₁ : Str → Option Value) (nw₁ : Ldg) : Prop :=
  MapJ S m0 m₁ ∧ ∃ oN, nw₁ = pre ++ (cN, oN) :: nwB ∧ ∃ v, oN.data = .cell v
def NoneJ (nw0 : Ldg) (_ : Nat) (ys : List Value) (nws : Ldg) : Prop := ys = [] ∧ nws = nw0
/-- the ledger ahead of the last loop of _law_is_right, sorted -/
theorem mix2 {h₀ h : Heap} {L l t1 t2 t3 ll cN cU cP : Addr} {ol o1 o2 o3 oll oN oU oP : Obj} {nwB : Ldg}
    (N : News h₀ L h ((l, ol) :: (t3, o3) :: (t2, o2) :: (t1, o1) :: (ll, oll) :: (cN, oN) :: (cU, oU) :: (cP, oP) :: nwB))
    (h1 : cN < t1) (h2 : cN < t2) (h3 : cN < t3) (h4 : cN < ll) (h5 : cU < cN) (h6 : cP < cN) (hB : ∀ p ∈ nwB, p.1 ≠ cN) :
    ∃ nwE, News h₀ L h ((l, ol) :: (cN, oN) :: nwE) ∧ (∀ p ∈ nwB, p ∈ nwE) ∧ (t1, o1) ∈ nwE ∧ (t2, o2) ∈ nwE ∧ (t3, o3) ∈ nwE ∧ ∀ p ∈ nwE, p.1 ≠ cN := by
  refine ⟨(t3, o3) :: (t2, o2) :: (t1, o1) :: (ll, oll) :: (cU, oU) :: (cP, oP) :: nwB, news_sub N fun p hp => ?_, fun p hp => .tail _ (.tail _ (.tail _ (.tail _ (.tail _ (.tail _ hp))))), .tail _ (.tail _ (.head _)), .tail _ (.head _), .head _, fun p hp => ?_⟩
  · simp only [List.mem_cons] at hp ⊢
    rcases hp with h | h | h | h | h | h | h | h | h <;> simp only [h, true_or, or_true]
  · simp only [List.mem_cons] at hp
    rcases hp with e | e | e | e | e | e | e
    · rw [e]; exact Nat.ne_of_gt h3
    · rw [e]; exact Nat.ne_of_gt h2
    · rw [e]; exact Nat.ne_of_gt h1
    · rw [e]; exact Nat.ne_of_gt h4
    · rw [e]; exact Nat.ne_of_lt h5
    · rw [e]; exact Nat.ne_of_lt h6
    · exact hB p e
/-- two looks -/
theorem between {old many M : Int} (h0 : 0 ≤ many) (h1 : many < M) : (((old + many).fmod M) - old).fmod M = many := by
  have hM : 0 < M := by omega
  rw [fmod_pos hM, fmod_pos hM, Int.sub_emod, Int.emod_emod_of_dvd _ (Int.dvd_refl M), ← Int.sub_emod, show old + many - old = many by omega]
  exact Int.emod_eq_of_lt h0 h1
end Mine

namespace Mine
/-! an exception class of the text's own, over another of its own, which bears the __init__ -/
section
variable {prog : Program} {w : World} {A : Around} {h : Heap} {g : Array GenState} {d : Drawn} {t : Nat} {os : OsState}
variable {nm q : Str} {C N : Addr} {bs bm : List Value} {hdct : Bool} {sn : List Str} {sub : List Value} {ab : Bool} {col : Option Bool} {dd : Option Addr} {k0 k1 k2 k3 k5 : Option Value}
theorem own_check {M : Model} {E : Value → Shared → Prop} {rest : List Value} {Q : Unit → Shared → Prop} (b1 : bm.contains (.type "Exception") = true) (hC : h.get? C = some (excClassObj nm q C N bs bm hdct sn sub ab col dd k0 k1 k2 k3 k5 "Exception.__new__"))
    (hq : Q () ⟨h, g, d, t, os⟩) : wpAny M A (checkBuiltinCall "Exception.__new__" ⟨.ref C :: rest, []⟩) Q E ⟨h, g, d, t, os⟩ := by
  have F := PySem.F.excBase_Exception
  have hcont : (Value.ref C :: bm).contains (.type "Exception") = true := by rw [List.contains_cons, b1, Bool.or_true]
  have hstar := F.noStar
  simp only [checkBuiltinCall, F.newKind, F.newSplit, F.newRow]
  repeat (first | refine wpAny_loadPart_at hC ?_ | (refine wpAny_isSubtype_exc hC ?_; rw [hcont]) | refine wpAny_staticBase_exc hC ?_ | refine wpAny_madeBy_exc hC ?_ | simp only [bne_self_eq_false, Bool.false_eq_true, if_false] | wp_step)
  exact hq
theorem own_new {R : Result → Shared → Prop} {rest : List Value} (b1 : bm.contains (.type "Exception") = true) (b2 : bm.contains (.type "AttributeError") = false) (b3 : bm.contains (.type "NameError") = false)
    (hC : h.get? C = some (excClassObj nm q C N bs bm hdct sn sub ab col dd k0 k1 k2 k3 k5 "Exception.__new__"))
    (hq : R (.ok (.ret (.ref (h.objs.size + 1)))) ⟨(h.push { cls := .type "tuple", data := .seq rest.toArray }).push
      { cls := .ref C, data := .fields #[.ref h.objs.size, .none, .none, .none, .bool false, .none] }, g, d, t, os⟩) (hrest : rest.length ≤ sizeLine) :
    codeAny (model prog w) A (.builtin "Exception.__new__" ⟨.ref C :: rest, []⟩) R ⟨h, g, d, t, os⟩ := by
  have F := PySem.F.excBase_Exception
  have hends := F.ends
  have hcB : (Value.ref C :: bm).contains (.type "Exception") = true := by rw [List.contains_cons, b1, Bool.or_true]
  have hcA : (Value.ref C :: bm).contains (.type "AttributeError") = false := by rw [List.contains_cons, b2]; rfl
  have hcN : (Value.ref C :: bm).contains (.type "NameError") = false := by rw [List.contains_cons, b3]; rfl
  refine codeAny_builtinAt F.entry ?_
  unfold Builtin.«BaseException.__new__»
  refine PySem.wpAt_bind ?_
  show PySem.wpAt _ _ _ (stack >>= _) _ _ _
  refine PySem.wpAt_bind (PySem.wpAt_stack fun p below => PySem.wpAt_of_wpAny ?_)
  wp_walk
  refine PySem.wpAt_of_wpAny ?_
  rw [F.owner]
  repeat (first | with_reducible refine wpAny_madeHere_exc F.canon hC ?_ | with_reducible refine wpAny_loadPart_at hC ?_ | (with_reducible refine wpAny_isSubtype_exc hC ?_; first | rw [hcB] | rw [hcA] | rw [hcN]) | wp_step)
  show R _ _
  rw [Heap.size_push]
  exact hq
theorem own_type_call {E : Value → Shared → Prop} {rest : List Value} {fI : Addr} {oI : Obj} {Q : Fin → Shared → Prop} (b1 : bm.contains (.type "Exception") = true) (b2 : bm.contains (.type "AttributeError") = false) (b3 : bm.contains (.type "NameError") = false)
    (hC : h.get? C = some (excClassObj nm q C N bs bm hdct sn sub ab col dd k0 k1 k2 k3 k5 "Exception.__new__")) (hL : Looks (model prog w) h (typeLookup (.ref C) "__init__") (some (.ref fI)))
    (hfI : h.get? fI = some oI) (hfc : oI.cls = .type "function")
    (hq : ∀ h' e, Heap.MadeExcOf h h' e (.ref C) rest →
      wpAny (model prog w) A (call (.ref fI) (.ref e :: rest)) (fun r s' => r = .none ∧ Q (.done (.ret (.ref e))) s') E ⟨h', g, d, t, os⟩) (hrest : rest.length ≤ sizeLine) :
    wpAny (model prog w) A (Builtin.«type.__call__» ⟨.ref C :: rest, []⟩) Q E ⟨h, g, d, t, os⟩ := by
  have F := PySem.F.excBase_Exception
  repeat (first | with_reducible refine wpAny_loadPart_at hC ?_ | with_reducible refine wpAny_madeBy_exc hC ?_ | wp_step)
  refine codeAny_call_builtin_code (Code.quiet_builtin _ F.quiet) (own_check b1 hC ?_)
  refine own_new b1 b2 b3 hC ?_ hrest
  show wpAny _ _ _ _ _ _
  have up : ∀ b o, h.get? b = some o → ((h.push { cls := .type "tuple", data := .seq rest.toArray }).push { cls := .ref C, data := .fields #[.ref h.objs.size, .none, .none, .none, .bool false, .none] }).get? b = some o := fun b o e => Heap.get?_push_of_some _ (Heap.get?_push_of_some _ e)
  have hC₁ := up _ _ hC
  have hfI₁ := up _ _ hfI
  have hget : ((h.push { cls := .type "tuple", data := .seq rest.toArray }).push
      { cls := .ref C, data := .fields #[.ref h.objs.size, .none, .none, .none, .bool false, .none] }).get? (h.objs.size + 1) = some
      { cls := .ref C, data := .fields #[.ref h.objs.size, .none, .none, .none, .bool false, .none] } := by heap_get
  have hcC : (Value.ref C :: bm).contains (.ref C) = true := by simp
  have hL₁ := hL.keeps up
  unfold isInstance
  repeat (first | with_reducible refine wpAny_loadPart_at hget ?_ | (with_reducible refine wpAny_isSubtype_exc hC₁ ?_; rw [hcC]) | wp_step)
  show wpAny _ _ (typeLookup (.ref C) _) _ _ _
  refine hL₁.at ?_
  refine wpAny_holding (wpAny_bind ?_)
  unfold bindSpecial
  refine wpAny_bind (wpAny_typeOf (T := "function") ⟨_, hfI₁, hfc⟩ ?_)
  rw [if_pos (by decide)]
  refine wpAny_pure (wpAny_bind (wpAny_mono (hq _ (h.objs.size + 1) ⟨up, Heap.get?_none_of_le (Nat.le_succ _), h.objs.size, hget, Heap.get?_none_of_le (Nat.le_refl _), ?_⟩) (fun r s' hr => ?_) fun _ _ x => x))
  · exact Heap.get?_push_of_some _ (Heap.get?_push_at rfl rfl)
  · obtain ⟨rfl, hQ⟩ := hr
    wp_walk
    exact hQ
theorem own_call {E : Value → Shared → Prop} {rest : List Value} {fI : Addr} {oI : Obj} {Q : Value → Shared → Prop} (b1 : bm.contains (.type "Exception") = true) (b2 : bm.contains (.type "AttributeError") = false) (b3 : bm.contains (.type "NameError") = false)
    (hC : h.get? C = some (excClassObj nm q C N bs bm hdct sn sub ab col dd k0 k1 k2 k3 k5 "Exception.__new__")) (hL : Looks (model prog w) h (typeLookup (.ref C) "__init__") (some (.ref fI)))
    (hfI : h.get? fI = some oI) (hfc : oI.cls = .type "function")
    (hq : ∀ h' e, Heap.MadeExcOf h h' e (.ref C) rest →
      wpAny (model prog w) (A.under (.builtin "type.__call__" ⟨.ref C :: rest, []⟩)) (call (.ref fI) (.ref e :: rest)) (fun r s' => r = .none ∧ Q (.ref e) s') E ⟨h', g, d, t, os⟩) (hrest : rest.length ≤ sizeLine) :
    wpAny (model prog w) A (call (.ref C) rest) Q E ⟨h, g, d, t, os⟩ := by
  have f1 := tc_lookup
  have f2 := tc_bind (.ref C)
  have hT : (⟨h, g, d, t, os⟩ : Shared).TypeIs (.ref C) "type" := ⟨_, hC, rfl⟩
  refine wpAny_call (codeAny_of_tree ?_)
  show wpAny _ _ (callAny (.ref C) _) _ _ _
  repeat (any_goals (first | assumption | with_reducible refine wpAny_loadPart_at hC ?_ | wp_step))
  refine ⟨rfl, ?_⟩
  refine codeAny_call_builtin_at (Code.quiet_builtin _ (by decide +kernel)) entry_typeCall (wpAny_check_type_call_sub hC (own_type_call b1 b2 b3 hC hL hfI hfc (fun h' e hm => ?_) hrest))
  exact hq h' e hm
end
end Mine

namespace Mine
def exO (C : Addr) (dct : Option Addr) (t : Addr) : Obj := { cls := .ref C, dict := dct, data := .fields #[.ref t, .none, .none, .none, .bool false, .none] }
theorem updNews {d : Addr} {o o' : Obj} {nw : Ldg} {g : Obj → Ldg} {h₀ h h' : Heap} {L : Addr} {m : Str → Option Value} (U : UpdF d o nw g) (F : Fr h₀ L h m) (N : News h₀ L h nw) (hd : h'.get? d = some o') (hs : ∀ b x, b ≠ d → h.get? b = some x → h'.get? b = some x) (hns : h'.Ns L m) :
    Fr h₀ L h' m ∧ News h₀ L h' (g o') := by
  obtain ⟨pre, post, rfl, hg, h1, h2⟩ := U.split
  have z := N (d, o) (List.mem_append_right _ (.head _))
  refine ⟨⟨hns, fun b x e => hs b x (fun q => by rw [q, z.2.2] at e; cases e) (F.keep b x e), F.above⟩, ?_⟩
  rw [hg]
  intro p hp
  rcases List.mem_append.mp hp with q | q
  · have P := N p (List.mem_append_left _ q)
    exact ⟨hs _ _ (h1 p q) P.1, P.2⟩
  · rcases List.mem_cons.mp q with rfl | q
    · exact ⟨hd, z.2⟩
    · have P := N p (List.mem_append_right _ (.tail _ q))
      exact ⟨hs _ _ (h2 p q) P.1, P.2⟩
section
variable {prog : Program} {w : World} {A : Around} {E : Value → Shared → Prop} {s : Shared} {h₀ : Heap} {L e C : Addr} {m : Str → Option Value} {nw : Ldg} {g : Obj → Ldg} {t : Addr} {dct : Option Addr} {K : Frag} {cd : ClassData}
theorem frNsUp {h : Heap} {d : Addr} {f : Obj → Obj} (F : Fr h₀ L h m) (hd : d ≠ L) : (h.update d f).Ns L m := by
  obtain ⟨o, es, ep, a, b, c, e⟩ := F.ns
  exact ⟨o, es, ep, (Heap.get?_update_ne _ _ _ _ (Ne.symm hd)).trans a, b, c, e⟩
variable {nm q : Str} {NS : Addr} {bs bm : List Value} {hdct : Bool} {sn : List Str} {sub : List Value} {ab : Bool} {col : Option Bool} {dd : Option Addr} {k0 k1 k2 k3 k5 : Option Value} {newId : String}
theorem own_init_check {M : Model} {oe : Obj} {rest : List Value} {Q : Unit → Shared → Prop} {h : Heap} {gs : Array GenState} {dr : Drawn} {tn : Nat} {os : OsState} (b1 : bm.contains (.type "Exception") = true)
    (hC : h.get? C = some (excClassObj nm q C NS bs bm hdct sn sub ab col dd k0 k1 k2 k3 k5 newId)) (he : h.get? e = some oe) (hcls : oe.cls = .ref C) (hq : Q () ⟨h, gs, dr, tn, os⟩) :
    wpAny M A (checkBuiltinCall "Exception.__init__" ⟨.ref e :: rest, []⟩) Q E ⟨h, gs, dr, tn, os⟩ := by
  have F := PySem.F.excBase_Exception
  have hcB : (Value.ref C :: bm).contains (.type "Exception") = true := by rw [List.contains_cons, b1, Bool.or_true]
  have hshort := F.noStar
  simp only [checkBuiltinCall, F.initKind, F.initSplit, F.initRow]
  repeat (first | (with_reducible refine wpAny_loadPart_at he ?_; rw [hcls]) | with_reducible refine wpAny_loadPart_at hC ?_ | (with_reducible refine wpAny_isSubtype_exc hC ?_; rw [hcB]) | wp_step)
  refine wpAny_onRaise ?_
  rw [show ∀ (a b : String) (n : Nat), Bind.check ⟨.positional, "*", "Exception", .self, [⟨"args", .varPos, false⟩]⟩ a b n (List.map (fun x => x.fst) ({ pos := Value.ref e :: rest } : Args).kw) = pure () from
    fun a b n => check_star_args _ _ _ _ _ _]
  exact wpAny_pure hq
theorem init_base {ob : Obj} {vs : Array Value} {t0 : Addr} {v : Value} {Q : Fin → Shared → Prop} (he : s.heap.get? e = some ob) (hd : ob.data = .fields vs) (h0 : vs[0]? = some (.ref t0))
    (h : Q (.done (.ret .none)) { s with heap := (s.heap.push { cls := .type "tuple", data := .seq #[v] }).update e (Obj.mapFields (·.setIfInBounds 0 (.ref s.heap.objs.size))) }) :
    wpAny (model prog w) A (Builtin.«BaseException.__init__» ⟨[.ref e, v], []⟩) Q E s := by
  unfold Builtin.«BaseException.__init__»
  dsimp only
  rw [if_neg (by simp)]
  unfold newTuple Builtin.BaseException.bexcPut
  have hsz : 0 < vs.size := (Array.getElem?_eq_some_iff.mp h0).1
  have he₁ := Heap.get?_push_of_some (h := s.heap) { cls := .type "tuple", data := .seq #[v] } he
  refine wpAny_bind (wpAny_newObj_type (wpAny_bind (wpAny_bind (wpAny_field he₁ hd h0 (wpAny_bind (wpAny_setField he₁ hd hsz ?_))))) (by size_fits))
  exact wpAny_letGo (wpAny_pure h)
/-- Exception.__init__ at an exception of an own class -/
theorem exc_init {v : Value} {Q : Value → Shared → Prop} (b1 : bm.contains (.type "Exception") = true) (hC : h₀.get? C = some (excClassObj nm q C NS bs bm hdct sn sub ab col dd k0 k1 k2 k3 k5 newId)) (F : Fr h₀ L s.heap m) (N : News h₀ L s.heap nw) (U : UpdF e (exO C dct t) nw g)
    (h : ∀ h' t', Fr h₀ L h' m → News h₀ L h' (g (exO C dct t')) → Q .none { s with heap := h' }) :
    wpAny (model prog w) A (call (.builtin "Exception.__init__") [.ref e, v]) Q E s := by
  have FF := PySem.F.excBase_Exception
  have hm := (N (e, exO C dct t) (by obtain ⟨_, _, rfl, _⟩ := U.split; exact List.mem_append_right _ (.head _)))
  obtain ⟨hp, gs, dr, tn, os⟩ := s
  refine wpAny_call (codeAny_call_builtin FF.init.plain FF.initEntry (own_init_check b1 (F.keep _ _ hC) hm.1 rfl ?_))
  refine init_base hm.1 rfl rfl ?_
  have g1 : ((hp.push { cls := .type "tuple", data := .seq #[v] }).update e (Obj.mapFields (·.setIfInBounds 0 (.ref hp.objs.size)))).get? e = some (exO C dct hp.objs.size) := by
    rw [Heap.get?_update_self _ (Heap.get?_push_of_some _ hm.1) (by cases dct <;> rfl)]; rfl
  obtain ⟨F1, N1⟩ := updNews U F N g1 (fun b x hb hx => by rw [Heap.get?_update_other _ _ (Ne.symm hb)]; exact Heap.get?_push_of_some _ hx) (frNsUp (F.push _) hm.2.1)
  exact h _ _ F1 N1
/-- an attribute set at an exception of an own class over another own, without a dict yet -/
theorem exc_set {K : Frag} {cd : ClassData} {C1 : Addr} {name : Str} {v : Value} {Q : Unit → Shared → Prop} (X : K.In h₀) (hc : clsIn K C = some cd) (hm : cd.mro = [.ref C, .ref C1, .type "Exception", .type "BaseException", .type "object"]) (hd : cd.hasDict = true)
    (hs : findIn K (.ref C) "__setattr__" = some (some (.builtin "object.__setattr__"))) (hf : findIn K (.ref C) name = some none) (F : Fr h₀ L s.heap m) (N : News h₀ L s.heap nw) (U : UpdF e (exO C none t) nw g)
    (h : ∀ h' D tk', Fr h₀ L h' m → News h₀ L h' (g (exO C (some D) t)) → Q () { s with heap := h', toks := tk' }) :
    wpAny (model prog w) A (setAttr (.ref e) name v) Q E s := by
  have SF := PySem.F.store_object
  have Y := X.keeps F.keep
  have z := (N (e, exO C none t) (by obtain ⟨_, _, rfl, _⟩ := U.split; exact List.mem_append_right _ (.head _)))
  have I : PySem.W.InstAt s.heap e (exO C none t) C none := ⟨z.1, rfl, rfl, True.intro⟩
  refine set_plain Y I hs ?_
  have L1 : Looks (model prog w) s.heap (isInstance (.ref e) (.type "object")) true := I.type.andThen (looks_mroIn Y (by unfold mroIn; rw [hc, Option.bind_some, hm]; rfl))
  have L2 : Looks (model prog w) s.heap (mroOf (.ref C)) cd.mro := (looks_clsIn Y hc).andThen .now
  refine codeAny_call_builtin SF.slot.plain SF.entry (@check_slot (model prog w) _ _ _ "object.__setattr__" "object" "__setattr__" (.ref e) [.str name s.toks, v] [] _ SF.kind SF.split L1 (SF.args (.ref e) (.str name s.toks) v) ?_)
  rw [osa_eq, refuse_eq]
  refine wpAny_bind (wpAny_bind (I.type _ _ _ _ (fun _ _ e => e) (wpAny_bind (L2 _ _ _ _ (fun _ _ e => e) ?_))))
  rw [hm, refuseLoop_ref, refuseLoop_ref, PySem.F.store_Exception.passes]
  refine wpAny_pure (wpAny_bind (I.type _ _ _ _ (fun _ _ e => e) (wpAny_bind (looks_findIn Y hf _ _ _ _ (fun _ _ e => e) (wpAny_bind (wpAny_pure ?_))))))
  show wpAny _ _ (Builtin.ObjectAttr.storeInOwnDict (.ref e) (.ref C) _ _ _ _) _ _ _
  have hz := z.1
  have he1 : (s.heap.push { cls := .type "dict", data := .dict #[] }).get? e = some (exO C none t) := Heap.get?_push_of_some _ hz
  have hes : e ≠ s.heap.objs.size := Nat.ne_of_lt (Heap.lt_size hz)
  refine wpAny_bind (wpAny_pure (wpAny_bind (wpAny_bind (wpAny_loadPart hz (wpAny_bind (looks_clsIn Y hc _ _ _ _ (fun _ _ e => e) ?_))))))
  rw [hd]
  refine wpAny_bind (wpAny_alloc' ?_)
  refine wpAny_bind (wpAny_update' he1 ?_)
  refine wpAny_pure ?_
  have hgd : ((s.heap.push { cls := .type "dict", data := .dict #[] }).update e fun o => { cls := o.cls, dict := some s.heap.objs.size, data := o.data, slots := o.slots }).get? s.heap.objs.size
      = some { cls := .type "dict", data := .dict #[] } :=
    (Heap.get?_update_ne _ _ _ _ hes.symm).trans (Heap.get?_push_at rfl rfl)
  have hnd : ((s.heap.push { cls := .type "dict", data := .dict #[] }).update e fun o => { cls := o.cls, dict := some s.heap.objs.size, data := o.data, slots := o.slots }).Ns s.heap.objs.size (fun _ => none) :=
    ⟨_, #[], _, hgd, rfl, fun e he => absurd he (by simp), fun _ => rfl⟩
  show wpAny _ _ (Builtin.ObjectAttr.storeInDict s.heap.objs.size (.str name s.toks) name v) _ _ _
  unfold Builtin.ObjectAttr.storeInDict Builtin.ObjectAttr.newKeyGuard
  refine wpAny_bind (wpAny_pure (wpAny_bind (wpAny_nsSet1 (Heap.Ns1.of_empty hnd) fun h' hn' hs => ?_)))
  obtain ⟨oD, esD, epD, hoD, hdD, hcD⟩ := hn'.count (Within.cons name v Within.nil)
  refine wpAny_bind (wpAny_lookBehind hoD (by rw [hdD]; exact pastItsLine_dict (Nat.le_trans hcD (by rw [List.length_cons, List.length_nil, sizeLine_eq]; omega))) ?_)
  have hx' : h'.get? e = some (exO C (some s.heap.objs.size) t) := (hs.2 e hes).trans (by rw [Heap.get?_update_self _ he1 rfl]; rfl)
  have hkeep : ∀ b x, b ≠ e → s.heap.get? b = some x → h'.get? b = some x := fun b x hb hx => (hs.2 b (Nat.ne_of_lt (Heap.lt_size hx))).trans ((Heap.get?_update_ne _ _ _ _ hb).trans (Heap.get?_push_of_some _ hx))
  obtain ⟨F1, N1⟩ := updNews U F N hx' hkeep (by
    obtain ⟨o, es, ep, a, b, c, d⟩ := F.ns
    exact ⟨o, es, ep, hkeep _ _ z.2.1.symm a, b, c, d⟩)
  exact wpAny_pure (h _ _ _ F1 N1)
end
end Mine

namespace Mine
section
variable {M : Model} {A : Around} {E : Value → Shared → Prop} {s : Shared} {base g : Heap} {outer : List Env} {L a e t C : Addr} {dct : Option Addr} {m : Str → Option Value} {name : Str} {scope : Scope} {cd : Value} {Q : Unit → Shared → Prop} {news : List (Addr × Obj)}
/-- an exception of an own class leaves the frame that raised it -/
theorem leave_E (K : Below A base outer g) (F : Fr g L s.heap m) (N : News g L s.heap ((e, exO C dct t) :: news)) (hne : ∀ q ∈ news, q.1 ≠ e)
    (hQ : ∀ h', RaisedN base outer e (.ref C) news h' → g.UpToSlots h' → Q () { s with heap := h' }) (hk : scope.kind = .function := by rfl) :
    wpAny M (A.deeper (envOf name scope L a cd)) (leaving (envOf name scope L a cd) (.ref e)) Q E s := by
  have K' := K.push (name := name) (a := a) (cd := cd) F hk
  have Ne := N (e, exO C dct t) (.head _)
  have hin : ∀ env ∈ (envOf name scope L a cd :: outer), ∀ b, env.frame = some b → b ∈ e :: (envOf name scope L a cd :: outer).filterMap (·.frame) := fun env he b hb => .tail _ (List.mem_filterMap.mpr ⟨env, he, hb⟩)
  have st : base.StaysIn (hideAll s.heap (e :: (envOf name scope L a cd :: outer).filterMap (·.frame))) := fun b o q => hideAll_get _ (K'.stays b o q) fun hm => by
    rcases List.mem_cons.mp hm with rfl | hm
    · rw [fresh_of_stays K.stays Ne.2.2] at q; cases q
    · rw [(K'.frames.mem hm).1] at q; cases q
  have hl : ∀ q ∈ news, (hideAll s.heap (e :: (envOf name scope L a cd :: outer).filterMap (·.frame))).get? q.1 = some q.2 ∧ base.get? q.1 = none := fun q hq => by
    refine ⟨hideAll_get _ (N q (.tail _ hq)).1 fun hm => ?_, fresh_of_stays K.stays (N q (.tail _ hq)).2.2⟩
    rcases List.mem_cons.mp hm with h1 | hm
    · exact hne q hq h1
    · obtain ⟨env, he, hf⟩ := List.mem_filterMap.mp hm
      rcases List.mem_cons.mp he with rfl | he
      · exact (N q (.tail _ hq)).2.1 (Option.some.inj hf).symm
      · obtain ⟨o, ho, _⟩ := (K.frames.mem (List.mem_filterMap.mpr ⟨env, he, hf⟩)).2
        rw [(N q (.tail _ hq)).2.2] at ho; cases ho
  have hen : (hideAll s.heap (e :: (envOf name scope L a cd :: outer).filterMap (·.frame))).get? e = none := hideAll_none _ (.head _)
  refine wpAny_leaving_firstW (a0 := .ref t) K'.stack (funFrames_hide K'.frames hin) rfl Ne.1 (fun b o hb => of_hideAll _ hb) hen rfl rfl rfl fun h' hL => ?_
  obtain ⟨k1, ⟨_, _, k2⟩, k3, k4⟩ := hL
  exact hQ h' ⟨_, .ref t, st, hl, k1, hen, k2, k3⟩ ((Heap.UpToSlots.of_keeps F.keep).trans k4)
end
section
variable {M : Model} {A : Around} {E : Value → Shared → Prop} {env : Env} {s : Shared}
variable {nm q : Str} {C N : Addr} {bs bm : List Value} {hdct : Bool} {sn : List Str} {sub : List Value} {ab : Bool} {col : Option Bool} {dd : Option Addr} {k0 k1 k2 k3 k5 : Option Value} {newId : String}
theorem raiseStmt_E {x : Sem Value} {Q : Flow → Shared → Prop} (hbase : bm.contains (.type "BaseException") = true) (hh : A.handled = none)
    (h : wpAny M A x (fun v s₁ => ∃ e D t, v = .ref e ∧ s₁.heap.get? C = some (excClassObj nm q C N bs bm hdct sn sub ab col dd k0 k1 k2 k3 k5 newId) ∧
      s₁.heap.get? e = some (exO C D t) ∧ E (.ref e) s₁) E s) :
    wpAny M A (raiseStmt env (some x) none) Q E s := by
  have hcB : (Value.ref C :: bm).contains (.type "BaseException") = true := by rw [List.contains_cons, hbase, Bool.or_true]
  unfold raiseStmt
  refine wpAny_bind (wpAny_mono h (fun v s₁ h₁ => ?_) fun _ _ x => x)
  obtain ⟨e, D, t, rfl, hC, he, hE⟩ := h₁
  unfold exO at he
  obtain ⟨hp, g, d, tk, os⟩ := s₁
  repeat (first | with_reducible refine wpAny_loadPart_at he ?_ | with_reducible refine wpAny_loadPart_at hC ?_ | (with_reducible refine wpAny_isSubtype_exc hC ?_; rw [hcB]) | wp_step)
  exact wpAny_raiseNew_none hh hE
/-- raise of a value that is an exception of an own class -/
theorem Raise_E {ex : Expr} {pos : Pos} {Q : Flow → Shared → Prop} (hbase : bm.contains (.type "BaseException") = true) (hh : A.handled = none)
    (h : wpAny M A (eval ex env) (fun v s₁ => ∃ e D t, v = .ref e ∧ s₁.heap.get? C = some (excClassObj nm q C N bs bm hdct sn sub ab col dd k0 k1 k2 k3 k5 newId) ∧
      s₁.heap.get? e = some (exO C D t) ∧ E (.ref e) s₁) E s) : wpAny M A (exec (.Raise (some ex) none pos) env) Q E s := by
  show wpAny M A (do standAt pos; raiseStmt env (some (do let v ← eval ex env; standAt pos; pure v)) none) Q E s
  refine wpAny_bind (wpAny_standAt (raiseStmt_E hbase hh (wpAny_bind (wpAny_mono h (fun v s₁ h₁ => wpAny_bind (wpAny_standAt (wpAny_pure h₁))) fun _ _ x => x))))
end
theorem tcx {dp un : Nat} {gd : Option (List Code)} {cn : Str} {cs : Scope} {L a : Addr} {ccd : Value} {cl : List (Str × Addr)} {outer : List Env} (c : Addr) (rest : List Value) : (ktrTop dp un gd cn cs L a ccd cl outer).under (.builtin "type.__call__" ⟨.ref c :: rest, []⟩) = ktrTop (dp + 1) (un + 1) gd cn cs L a ccd cl outer := by kernel_rfl
def MadeT (C : Addr) (h₀ : Heap) (E : Value → Shared → Prop) (v : Value) (s : Shared) : Prop :=
  ∃ e D t, v = .ref e ∧ (∀ b o, h₀.get? b = some o → s.heap.get? b = some o) ∧ s.heap.get? e = some (exO C D t) ∧ E (.ref e) s
theorem madeT {C e t L : Addr} {D : Option Addr} {h₀ : Heap} {E : Value → Shared → Prop} {s : Shared} {m : Str → Option Value} {nw : Ldg} (F : Fr h₀ L s.heap m) (N : News h₀ L s.heap ((e, exO C D t) :: nw)) (h : E (.ref e) s) : MadeT C h₀ E (.ref e) s :=
  ⟨e, D, t, rfl, F.keep, (N _ (.head _)).1, h⟩
theorem Raise_M {M : Model} {A : Around} {E : Value → Shared → Prop} {env : Env} {s : Shared} {h₀ : Heap} {nm q : Str} {C N : Addr} {bs bm : List Value} {hdct : Bool} {sn : List Str} {sub : List Value} {ab : Bool} {col : Option Bool} {dd : Option Addr} {k0 k1 k2 k3 k5 : Option Value} {newId : String} {ex : Expr} {pos : Pos} {Q : Flow → Shared → Prop}
    (hC : h₀.get? C = some (excClassObj nm q C N bs bm hdct sn sub ab col dd k0 k1 k2 k3 k5 newId)) (hbase : bm.contains (.type "BaseException") = true) (hh : A.handled = none)
    (h : wpAny M A (eval ex env) (MadeT C h₀ E) E s) : wpAny M A (exec (.Raise (some ex) none pos) env) Q E s :=
  Raise_E (C := C) (nm := nm) (q := q) (N := N) (bs := bs) (bm := bm) (hdct := hdct) (sn := sn) (sub := sub) (ab := ab) (col := col) (dd := dd) (k0 := k0) (k1 := k1) (k2 := k2) (k3 := k3) (k5 := k5) (newId := newId) hbase hh (wpAny_mono h (fun v s₁ z => by
    obtain ⟨e, D, t, rfl, k, he, hE⟩ := z
    exact ⟨e, D, t, rfl, k _ _ hC, he, hE⟩) fun _ _ x => x)
end Mine

namespace Mine
section
variable {M : Model} {A : Around} {E : Value → Shared → Prop} {s : Shared} {base g g₂ : Heap} {outer : List Env} {L a e : Addr} {m : Str → Option Value} {cn : Str} {cs : Scope} {cd : Value} {cl : List (Str × Addr)} {Q : Unit → Shared → Prop} {news : Ldg}
theorem leave_onX {cls : Value} (K : Below A base outer g) (F : Fr g L g₂ m) (R : RaisedN base (envX cn cs L a cd cl :: outer) e cls news s.heap) (hsm : g₂.UpToSlots s.heap)
    (hQ : ∀ h', RaisedN base outer e cls news h' → g.UpToSlots h' → Q () { s with heap := h' }) :
    wpAny M (A.deeper (envX cn cs L a cd cl)) (leaving (envX cn cs L a cd cl) (.ref e)) Q E s := by
  obtain ⟨B, a0, hB, hl, hfl⟩ := R
  exact wpAny_leaves_onW (Around.frames_deeper K.stack) rfl hfl fun h' x1 x2 => hQ h' ⟨B, a0, hB, hl, x1⟩ ((Heap.UpToSlots.of_keeps F.keep).trans (hsm.trans x2))
end
section
variable {prog : Program} {w : World} {A A₀ : Around} {s : Shared} {K : Frag} {L : Addr} {h₀ base : Heap} {m mg mb : Str → Option Value} {news : Ldg} {p : Program} {loose : List Str} {mean : ExcName → Option Value}
/-- a call of a function of the text's, its ends left raw -/
theorem code_defR {env : Env} {outer : List Env} {R : Result → Shared → Prop} {name qual : Str} {params : Arguments} {body : List Stmt} {scope : Scope} {dV kV doc pm cdv ct oc : Value} {an od : Option Addr} {osl : Array (Option Value)} {f : Addr} {args : Args} {binds : List (Str × Value)}
    (B : Below A₀ base outer h₀) (F : Fr h₀ L s.heap m) (X₀ : K.In h₀) (N : News h₀ L s.heap news) (T : Top p loose mean mg mb h₀) (hA : A.frames = some (env :: outer)) (hf : env.frame = some L) (hke : env.scope.kind = .function)
    (ho : K.lookup f = some ⟨oc, od, .func (fnOf name qual params body scope dV kV doc pm an cdv ct), osl⟩) (hcd : codeIn K cdv qual = true) (hroom : A.depth < recursionLimit)
    (hbind : BindsTo s (fnOf name qual params body scope dV kV doc pm an cdv ct) args binds) (hloc : ∀ y ∈ binds, scope.names.lookup y.1 = some .local)
    (h : ∀ g L' h₁, Fr h₀ L g m → Fr g L' h₁ (fun y => binds.reverse.lookup y) → News g L' h₁ news → Below A base (env :: outer) g → K.In g → Top p loose mean mg mb g →
      wpAny (model prog w) (A.deeper (envOf qual scope L' f cdv)) (execs body (envOf qual scope L' f cdv))
        (fun fl s' => R (.ok (.ret (match fl with | .ret v => v | _ => .none))) s')
        (fun e s' => wpAny (model prog w) (A.deeper (envOf qual scope L' f cdv)) (leaving (envOf qual scope L' f cdv) e) (fun _ s'' => R (.error e) s'') (fun e' s'' => R (.error e') s'') s')
        { s with heap := h₁, toks := s.toks + binds.length })
    (hco : scope.isCoroutine = false) (hgen : scope.isGenerator = false) (hk : scope.kind = .function)
    (hcell : ∀ x ∈ scope.names, x.2 ≠ .cell) : codeAny (model prog w) A (.call (.ref f) args) R s := by
  have X := X₀.keeps F.keep
  refine codeAny_call_def (fd := fnOf name qual params body scope dV kV doc pm an cdv ct) (body := body) (binds := binds) hroom (X _ _ ho) rfl (T.nolimit.keeps F.keep) (codeRec_of X hcd) rfl hbind hcell hloc (fun h₁ hns hk₁ => ?_) hco hgen hk
  obtain ⟨FG, BG, st, lv⟩ := groundX (R := R) B F N hA hf hke
  exact wpAny_mono (h _ s.heap.objs.size h₁ FG ⟨hns, fun b o e => hk₁ b o (of_hideAll _ e), Nat.le_of_eq (hideAll_size _ _)⟩
    (fun p hp => ⟨hk₁ _ _ (N p hp).1, Nat.ne_of_lt (Heap.lt_size (N p hp).1), hideAll_none _ (List.mem_map_of_mem hp)⟩) BG (X₀.keeps st) (T.keeps st)) (fun fl s' hl => hl) fun _ _ y => y
end
section
variable {prog : Program} {w : World} {A₀ : Around} {E : Value → Shared → Prop} {s : Shared} {base g g₂ : Heap} {outer : List Env} {L L' a e C : Addr} {m m' mg mb : Str → Option Value} {name : Str} {scope : Scope} {cd : Value} {news : Ldg} {KF : Frag}
  {b₀ : Stmt} {suite : List Stmt} {pos np : Pos} {rest : List ExceptHandler} {Q : Flow → Shared → Prop} {p : Program} {loose : List Str} {mean : ExcName → Option Value} {x : Str}
variable {nm q : Str} {NS : Addr} {bs bm : List Value} {hdct : Bool} {sn : List Str} {sub : List Value} {ab : Bool} {col : Option Bool} {dd : Option Addr} {k0 k1 k2 k3 k5 : Option Value} {newId : String}
/-- an exception of an own class is caught by its own name, one frame over the ground -/
theorem caught_R (R : RaisedN base (envOf name scope L' a cd :: outer) e (.ref C) news s.heap) (FG : Fr base L g m) (F2 : Fr g L' g₂ m') (hsm : g₂.UpToSlots s.heap) (K : Below A₀ base outer g)
    (XB : KF.In base) (TB : TopRead p loose mg mb base) (hC : base.get? C = some (excClassObj nm q C NS bs bm hdct sn sub ab col dd k0 k1 k2 k3 k5 newId)) (hb : bm.contains (.type "BaseException") = true)
    (ex : nsIn KF mainGlobals x = some (some (.ref C)))
    (hL : ∀ q ∈ news, q.1 ≠ L)
    (k : ∀ h', Fr base L h' m → News base L h' news →
      wpAny (model prog w) ((A₀.deeper (envOf name scope L' a cd)).mark (some (.ref e))) (execs (b₀ :: suite) (envOf name scope L' a cd)) Q E { s with heap := h' })
    (hk : scope.kind = .function := by rfl) (hx : (envOf name scope L' a cd).kindOf x = some .globalImplicit := by rfl) (hd : (x == ("__debug__" : Str)) = false := by decide)
    (hE : PassesOwnAt (model prog w) ((A₀.deeper (envOf name scope L' a cd)).mark (some (.ref e))) (A₀.deeper (envOf name scope L' a cd)) (envOf name scope L' a cd) E := by passes_own) :
    wpAny (model prog w) (A₀.deeper (envOf name scope L' a cd)) (noteFrame (.ref e) (envOf name scope L' a cd))
      (fun _ s₂ => wpAny (model prog w) (A₀.deeper (envOf name scope L' a cd)) (setFlight (.ref e) none) (fun _ s₃ =>
        wpAny (model prog w) (A₀.deeper (envOf name scope L' a cd)) (handleBy (.ref e) (envOf name scope L' a cd) (.ExceptHandler (some (.Name x np)) none (b₀ :: suite) pos :: rest)) Q E s₃) E s₂) E s := by
  obtain ⟨B, a0, hB, hl, hfl⟩ := R
  have FB : Fr base L g₂ m := ⟨FG.ns.keeps F2.keep, fun b o z => F2.keep b o (FG.keep b o z), FG.above⟩
  have FB' : Fr base L' g₂ m' := ⟨F2.ns, FB.keep, Nat.le_trans (Nat.le_of_lt (Nat.lt_of_le_of_lt FG.above FG.ns.lt)) F2.above⟩
  refine wpAny_looks_onW (Around.frames_deeper K.stack) rfl hfl fun h₄ hheld₄ hsm₄ => ?_
  refine wpAny_landsW hheld₄ fun h₅ hheld hsm₅' => ?_
  have hsm₅ := hsm₄.trans hsm₅'
  have hheld' := flyingW_base hB hheld
  have F₅ := FB'.of_stays hheld'.1 (hsm.trans hsm₅)
  obtain ⟨ob, hob, hobc⟩ := hheld'.there
  refine wpAny_handleBy_cons (codeAny_handlers_test (name_K F₅ XB TB ex ?_ hk hx hd)) (by intro q; cases q)
  refine wpAny_excMatches_sub_self (F₅.keep _ _ hC) hob hobc hb (codeAny_handlers_suite ?_)
  refine lands_againW hheld fun h₆ hfl₆ hsm₆ => ?_
  have hfl₆' := flyingW_base hB hfl₆
  have F₆ := FB.of_stays hfl₆'.1 ((hsm.trans hsm₅).trans hsm₆)
  exact wpAny_passesOwnAt hE (k h₆ F₆ fun q hq => ⟨hfl₆.1 _ _ (hl q hq).1, hL q hq, (hl q hq).2⟩)
end
end Mine

namespace Mine
/-! the table of the codes of the inner functions of one function, known up to what it holds -/
theorem codeAmong_app {pos pos' : Pos} {c cv : Value} (l : List Value) (h : TriplesOk l) (e : codeAmong pos' (l ++ [rawInt pos.line, rawInt pos.col, c]) = some cv) : codeAmong pos' l = some cv ∨ cv = c := by
  fun_induction TriplesOk l with
  | case1 =>
    simp only [List.nil_append, rawInt, codeAmong] at e
    split at e
    · exact .inr (Option.some.inj e).symm
    · cases e
  | case2 a t b u x rest ih =>
    simp only [List.cons_append, codeAmong] at e ⊢
    split at e
    · rename_i q; rw [if_pos q]; exact .inl e
    · rename_i q; rw [if_neg q]; exact ih h e
  | case3 => exact h.elim
def TabG (qual : Str) (ps : Array Value) (nw : Ldg) : Prop := TriplesOk ps.toList ∧ ∀ pos cv, codeAmong pos ps.toList = some cv → ∃ c' oc vs t, cv = .ref c' ∧ (c', oc) ∈ nw ∧ oc.data = .fields vs ∧ vs[1]? = some (.str qual t)
theorem TabG.empty {qual : Str} {nw : Ldg} : TabG qual #[] nw := ⟨trivial, fun _ _ h => by cases h⟩
end Mine

namespace Mine
/-! the law's outer loop -/
theorem range_bb {h : Heap} {r : Addr} {n : Int} {t u v : Tok} (hn : 0 ≤ n) (hr : IsRange h r 0 (if (if n < 2 then n else 2) > 1 then (if n < 2 then n else 2) else 1) 1 t u v) : ∃ bb : Int, (bb = 1 ∨ bb = 2) ∧ IsRange h r 0 bb 1 t u v := by
  refine ⟨_, ?_, hr⟩
  by_cases h1 : n < 2
  · rw [if_pos h1]
    by_cases h2 : n > 1
    · exact absurd h1 (by omega)
    · rw [if_neg h2]; exact .inl rfl
  · rw [if_neg h1]; exact .inr rfl
def lawVars : List Str := [Str.ofString "k", Str.ofString "source", Str.ofString "bits", Str.ofString "lists", Str.ofString "turn", Str.ofString "old", Str.ofString "many"]
def lamQual : Str := Str.ofString "law.<locals>.<lambda>"
def LawJ (m0 : Str → Option Value) (cell : Addr) (_i : Nat) (m : Str → Option Value) (nw : Ldg) : Prop :=
  MapJ lawVars m0 m ∧ ∃ oC ps ext, nw = (cell, oC) :: (281, tabObj ps) :: ext ∧ (∃ v, oC.data = .cell v) ∧ TabG lamQual ps ext ∧ (∀ p ∈ ext, p.1 ≠ cell) ∧ (∀ p ∈ ext, p.1 ≠ 281)
theorem lawJ_zero {m0 : Str → Option Value} {cell : Addr} {oC : Obj} {v : Option Value} (h : oC.data = .cell v) : LawJ m0 cell 0 m0 [(cell, oC), (281, tabObj #[])] :=
  ⟨MapJ.refl, oC, #[], [], rfl, ⟨v, h⟩, TabG.empty, fun _ h => (nomatch h), fun _ h => (nomatch h)⟩
theorem rangeSize_small {bb : Int} (h : bb = 1 ∨ bb = 2) : Builtin.Range.rangeSize 0 bb 1 = ((bb.toNat : Nat) : Int) := by
  rcases h with rfl | rfl <;> decide +kernel
theorem rangeSmall_small {bb : Int} (h : bb = 1 ∨ bb = 2) : Builtin.Range.small 0 bb 1 = true := by
  rcases h with rfl | rfl <;> decide +kernel
end Mine

namespace Mine
/-! the law's inner loop and its start -/
theorem range_inner {b : Int} (h0 : 3 ≤ b) (h1 : b < 13) : ∃ n : Nat, n ≤ 12 ∧ (n : Int) = b ∧ Builtin.Range.rangeSize 0 b 1 = ((n : Nat) : Int) ∧ Builtin.Range.small 0 b 1 = true := by
  obtain rfl | rfl | rfl | rfl | rfl | rfl | rfl | rfl | rfl | rfl : b = 3 ∨ b = 4 ∨ b = 5 ∨ b = 6 ∨ b = 7 ∨ b = 8 ∨ b = 9 ∨ b = 10 ∨ b = 11 ∨ b = 12 := by omega
  · exact ⟨3, by omega, rfl, by decide +kernel, by decide +kernel⟩
  · exact ⟨4, by omega, rfl, by decide +kernel, by decide +kernel⟩
  · exact ⟨5, by omega, rfl, by decide +kernel, by decide +kernel⟩
  · exact ⟨6, by omega, rfl, by decide +kernel, by decide +kernel⟩
  · exact ⟨7, by omega, rfl, by decide +kernel, by decide +kernel⟩
  · exact ⟨8, by omega, rfl, by decide +kernel, by decide +kernel⟩
  · exact ⟨9, by omega, rfl, by decide +kernel, by decide +kernel⟩
  · exact ⟨10, by omega, rfl, by decide +kernel, by decide +kernel⟩
  · exact ⟨11, by omega, rfl, by decide +kernel, by decide +kernel⟩
  · exact ⟨12, by omega, rfl, by decide +kernel, by decide +kernel⟩
theorem pow_b {b : Int} (h0 : 0 ≤ b) (h1 : b ≤ 32) : (1 : Int) ≤ 2 ^ b.toNat ∧ (2 : Int) ^ b.toNat ≤ 4294967296 := by
  have h : b.toNat ≤ 32 := by omega
  generalize b.toNat = n at h
  have e : ∀ n : Nat, n ≤ 32 → (1 : Int) ≤ 2 ^ n ∧ (2 : Int) ^ n ≤ 4294967296 := by decide +kernel
  exact e n h
end Mine
namespace Mine
/-- the ledger behind a lambda's making, the new codes put to the tail -/
theorem lam_led {h₀ h : Heap} {L : Addr} {x P : Addr × Obj} {e H r : Ldg} (N : News h₀ L h (x :: (e ++ (H ++ P :: r)))) : News h₀ L h (x :: (H ++ P :: (e ++ r))) := news_sub N fun p hp => by
  simp only [List.mem_cons, List.mem_append] at hp ⊢
  rcases hp with h | h | h | h | h <;> simp only [h, true_or, or_true]
theorem ne_app {a : Addr} {e r : Ldg} (h : ∀ p ∈ e, a < p.1) (h' : ∀ p ∈ r, p.1 ≠ a) : ∀ p ∈ e ++ r, p.1 ≠ a := fun p hp => (List.mem_append.mp hp).elim (fun q => Nat.ne_of_gt (h p q)) (h' p)
end Mine
namespace Mine
section
variable {M : Model} {A : Around} {E : Value → Shared → Prop} {s : Shared} {h₀ : Heap} {L a c P : Addr} {m mg mb : Str → Option Value} {cn : Str} {cs : Scope} {ccd : Value} {cl : List (Str × Addr)} {nw r : Ldg} {g : Obj → Ldg}
  {p : Program} {loose : List Str} {mean : ExcName → Option Value} {name qual : Str} {params : Arguments} {body : Expr} {scope : Scope} {ps : Array Value} {pos : Pos} {firstLine : Nat} {clos : List (Str × Addr)}
theorem lam_law {Q : Value → Shared → Prop} (hq : qual = lamQual) (F : Fr h₀ L s.heap m) (N : News h₀ L s.heap nw) (T : Top p loose mean mg mb h₀) (C : CodeHd h₀ c P) (hcd : ccd = .ref c) (U : UpdF P (tabObj ps) nw g) (G : TabG lamQual ps r)
    (hcl : closureFor scope (envX cn cs L a ccd cl) = pure clos)
    (h : ∀ f c' oc vs t ctv ps' ext h' tk, Fr h₀ L h' m → News h₀ L h' ((f, kla_obj name lamQual params body scope clos ((mg "__name__").getD .none) c' ctv) :: (ext ++ g (tabObj ps'))) → (c', oc) ∈ ext ++ r → oc.data = .fields vs → vs[1]? = some (.str lamQual t) →
      TabG lamQual ps' (ext ++ r) → (∀ q ∈ nw, q.1 < f) → (∀ q ∈ nw, ∀ p ∈ ext, q.1 < p.1) → (∀ p ∈ ext, p.1 < f) → Q (.ref f) { s with heap := h', toks := tk }) :
    wpAny M A (makeFunction name qual params (.expr body) scope (envX cn cs L a ccd cl) [] [] [] pos firstLine) Q E s := by
  subst hq
  obtain ⟨pre, post, rfl, hg, _⟩ := U.split
  cases hf : codeAmong pos ps.toList with
  | none =>
    refine kla_nest F N T C hcd U G.1 hf hcl fun f c' oc vs t ctv h' tk F' N' d1 d2 l1 l2 => ?_
    refine h f c' oc vs t ctv (ps ++ #[rawInt pos.line, rawInt pos.col, .ref c']) [(c', oc)] h' tk F' N' (.head _) d1 d2 ⟨?_, fun pos' cv e => ?_⟩ (fun q hq => Nat.lt_trans (l1 q hq) l2) (fun q hq p hp => by rw [List.mem_singleton.mp hp]; exact l1 q hq) (fun p hp => by rw [List.mem_singleton.mp hp]; exact l2)
    · rw [Array.toList_append]; exact TriplesOk_snoc _ _ _ _ G.1
    · rw [Array.toList_append] at e
      rcases codeAmong_app _ G.1 e with e | e
      · obtain ⟨c2, oc2, vs2, t2, e1, e2, e3, e4⟩ := G.2 pos' cv e
        exact ⟨c2, oc2, vs2, t2, e1, .tail _ e2, e3, e4⟩
      · exact ⟨c', oc, vs, t, e, .head _, d1, d2⟩
  | some cv =>
    obtain ⟨c', oc, vs, t, rfl, hc, d1, d2⟩ := G.2 pos cv hf
    refine kla_hit F N T C hcd (List.mem_append_right _ (.head _)) G.1 hf hcl fun f ctv h' tk F' N' l1 => ?_
    exact h f c' oc vs t ctv ps [] h' tk F' (by rw [List.nil_append, hg]; exact N') hc d1 d2 G l1 (fun _ _ _ hp => nomatch hp) (fun _ hp => nomatch hp)
end
/-! from the law's ledger to the steps' state -/
theorem mono_of_step {g : Nat → Nat} {n : Nat} (h : ∀ i, i < n → g i < g (i + 1)) (i : Nat) : ∀ j, i < j → j ≤ n → g i < g j
  | 0, hij, _ => absurd hij (Nat.not_lt_zero _)
  | j + 1, hij, hj => (Nat.lt_or_eq_of_le (Nat.le_of_lt_succ hij)).elim (fun q => Nat.lt_trans (mono_of_step h i j q (Nat.le_of_succ_le hj)) (h j hj)) fun q => q ▸ h j hj
theorem nodup13 {a0 a1 a2 a3 a4 a5 a6 a7 a8 a9 a10 a11 a12 : Nat} (h0 : a0 < a9) (h1 : a9 < a8) (h2 : a8 < a10) (h3 : a10 < a5) (h4 : a5 < a3) (h5 : a3 < a4) (h6 : a4 < a6) (h7 : a6 < a11) (h8 : a11 < a1) (h9 : a1 < a7) (h10 : a7 < a12) (h11 : a12 < a2) :
    List.Nodup [a0, a1, a2, a3, a4, a5, a6, a7, a8, a9, a10, a11, a12] := by
  let g : Nat → Nat := fun i => [a0, a9, a8, a10, a5, a3, a4, a6, a11, a1, a7, a12, a2].getD i 0
  have st : ∀ i, i < 12 → g i < g (i + 1) := fun i hi => match i, hi with
    | 0, _ => h0 | 1, _ => h1 | 2, _ => h2 | 3, _ => h3 | 4, _ => h4 | 5, _ => h5 | 6, _ => h6 | 7, _ => h7 | 8, _ => h8 | 9, _ => h9 | 10, _ => h10 | 11, _ => h11
    | n + 12, h => absurd h (Nat.not_lt.mpr (Nat.le_add_left _ _))
  have nd : List.Pairwise (fun i j : Nat => i ≠ j ∧ i ≤ 12 ∧ j ≤ 12) [0, 9, 12, 5, 6, 4, 7, 10, 2, 1, 3, 8, 11] := by decide
  show List.Pairwise (· ≠ ·) (List.map g [0, 9, 12, 5, 6, 4, 7, 10, 2, 1, 3, 8, 11])
  refine List.pairwise_map.mpr (nd.imp fun {i j} h e => ?_)
  rcases Nat.lt_or_gt_of_ne h.1 with q | q
  · exact Nat.lt_irrefl _ (e ▸ mono_of_step st i j q h.2.2)
  · exact Nat.lt_irrefl _ (e ▸ mono_of_step st j i q h.2.1)
def sysA (C : Cn) (os : Obj) (d1 : Addr) (o1 : Obj) (d2 : Addr) (o2 : Obj) (L1 : Addr) (l1 : Obj) (L2 : Addr) (l2 : Obj) (ldo : Obj) : Ldg :=
  [(C.src, os), (d1, o1), (d2, o2), (L1, l1), (L2, l2), (C.ld, ldo),
  (C.dp1, dictOf [⟨C.hb1, .str "bits" C.tb1, .int C.b C.tk1⟩, ⟨C.hc1, .str "counts" C.tc1, .ref d1⟩] 2),
  (C.dp2, dictOf [⟨C.hb2, .str "bits" C.tb2, .int C.b C.tk2⟩, ⟨C.hc2, .str "counts" C.tc2, .ref d2⟩] 2)]
def sysB (C : Cn) : Ldg := [(C.c, instObj 202 C.dc), (C.dc, dictOf [⟨C.hb, .str "bits" C.tb, .int C.b C.tkc⟩, ⟨C.hp, .str "ports" C.tp, .ref C.pd⟩] 2), (C.pd, C.po), (C.p1, instObj 123 C.dp1), (C.p2, instObj 123 C.dp2)]
theorem sysL_eq {C : Cn} {os : Obj} {d1 : Addr} {o1 : Obj} {d2 : Addr} {o2 : Obj} {L1 : Addr} {l1 : Obj} {L2 : Addr} {l2 : Obj} {ldo : Obj} {r : Ldg} : sysL C os d1 o1 d2 o2 L1 l1 L2 l2 ldo r = sysA C os d1 o1 d2 o2 L1 l1 L2 l2 ldo ++ (sysB C ++ r) := rfl
theorem st_bs {prog : Program} {w : World} {C : Cn} {bs nws : Ldg} {i : Nat} (h : St prog w C bs i nws) : ∀ p ∈ bs, p ∈ nws := by
  obtain ⟨a, ls, ⟨x, y, tx, ty, n, d1, o1, d2, o2, vs1, n1, vs2, n2, ldo, ext, rfl, Y⟩, _⟩ := h
  rw [sysL_eq]
  exact fun p hp => List.mem_append_right _ (List.mem_append_right _ (List.mem_append_right _ hp))
theorem st_start {prog : Program} {w : World} {h₀ h : Heap} {L src c dc pd p1 dp1 d1 p2 dp2 d2 L1 L2 ld : Addr} {x y b hb hp hb1 hc1 hb2 hc2 : Int} {tx ty tb tkc tp tb1 tk1 tc1 tb2 tk2 tc2 : Tok} {n n1 n2 : Nat} {o1 o2 po ldo : Obj} {bs nw : Ldg}
    (N : News h₀ L h nw)
    (hsub : ∀ p ∈ (src, listOf (List.toArray [Value.int x tx, Value.int y ty]) n) :: (d1, o1) :: (d2, o2) :: (L1, listOf (List.toArray []) n1) :: (L2, listOf (List.toArray []) n2) :: (ld, ldo) ::
      (dp1, dictOf [⟨hb1, .str "bits" tb1, .int b tk1⟩, ⟨hc1, .str "counts" tc1, .ref d1⟩] 2) :: (dp2, dictOf [⟨hb2, .str "bits" tb2, .int b tk2⟩, ⟨hc2, .str "counts" tc2, .ref d2⟩] 2) ::
      (c, instObj 202 dc) :: (dc, dictOf [⟨hb, .str "bits" tb, .int b tkc⟩, ⟨hp, .str "ports" tp, .ref pd⟩] 2) :: (pd, po) :: (p1, instObj 123 dp1) :: (p2, instObj 123 dp2) :: bs, p ∈ nw)
    (P : po.IsDictOf (PySem.intKind prog w) [(1, .ref p1), (2, .ref p2)]) (D : ldo.IsDictOf (PySem.intKind prog w) [(1, .ref L1), (2, .ref L2)])
    (D1 : o1.IsDictOf (PySem.strKind prog w) []) (D2 : o2.IsDictOf (PySem.strKind prog w) []) (lo : (pd == sysModules) = false) (lol : (ld == sysModules) = false) (lo1 : (d1 == sysModules) = false) (lo2 : (d2 == sysModules) = false)
    (b0 : 0 ≤ b) (b1 : b ≤ 32) (x0 : 0 ≤ x) (y0 : 0 ≤ y) (y1 : y < 2147483647) (nd : List.Nodup [src, d1, d2, L1, L2, ld, dp1, dp2, c, dc, pd, p1, p2]) (off : ∀ p ∈ bs, p.1 ∉ [src, d1, d2, L1, L2, ld, dp1, dp2]) :
    ∃ C : Cn, src = C.src ∧ c = C.c ∧ ld = C.ld ∧ b = C.b ∧ CnOk prog w C ∧ ∃ nws, News h₀ L h nws ∧ St prog w C bs 0 nws :=
  ⟨⟨src, c, dc, pd, p1, dp1, p2, dp2, ld, po, b, hb, hp, hb1, hc1, hb2, hc2, tb, tkc, tp, tb1, tk1, tc1, tb2, tk2, tc2⟩, rfl, rfl, rfl, rfl, ⟨P, lo, lol, b0, b1⟩, _, news_sub N hsub,
    fun _ => [], fun p => if p = 1 then L1 else L2, ⟨x, y, tx, ty, n, d1, o1, d2, o2, [], n1, [], n2, ldo, [], rfl, ⟨x0, y0, y1, CD.empty D1, CD.empty D2, RowRefs.empty, RowRefs.empty, lo1, lo2, D, nd, off⟩⟩, fun _ => Nat.le_refl _, fun _ _ h => nomatch h⟩
/-- the turn's end -/
theorem lawJ_more {m0 m : Str → Option Value} {cell : Addr} {oC : Obj} {v : Option Value} {ps : Array Value} {ext : Ldg} {i : Nat} (hm : MapJ lawVars m0 m) (h : oC.data = .cell v) (G : TabG lamQual ps ext) (h1 : ∀ p ∈ ext, p.1 ≠ cell) (h2 : ∀ p ∈ ext, p.1 ≠ 281) :
    LawJ m0 cell i m ((cell, oC) :: (281, tabObj ps) :: ext) := ⟨hm, oC, ps, ext, rfl, ⟨v, h⟩, G, h1, h2⟩
end Mine
namespace Mine
theorem st_off {src d1 d2 L1 L2 ld dp1 dp2 : Nat} {bs : Ldg} (h0 : src < ld) (h1 : ld < L1) (h2 : L1 < L2) (h3 : L2 < dp1) (h4 : dp1 < d1) (h5 : d1 < dp2) (h6 : dp2 < d2) (h : ∀ p ∈ bs, @LT.lt Nat _ p.1 src ∨ @LT.lt Nat _ d2 p.1) :
    ∀ p ∈ bs, p.1 ∉ [src, d1, d2, L1, L2, ld, dp1, dp2] := fun p hp hm => by
  have hh := h p hp
  simp only [List.mem_cons, List.not_mem_nil, or_false] at hm
  generalize p.1 = q at hh hm
  rcases hm with e | e | e | e | e | e | e | e <;> rw [e] at hh <;> omega
theorem off_cons {src d2 : Nat} {x : Addr × Obj} {bs : Ldg} (hx : @LT.lt Nat _ x.1 src) (h : ∀ p ∈ bs, @LT.lt Nat _ p.1 src ∨ @LT.lt Nat _ d2 p.1) : ∀ p ∈ x :: bs, @LT.lt Nat _ p.1 src ∨ @LT.lt Nat _ d2 p.1 := List.forall_mem_cons.mpr ⟨.inl hx, h⟩
theorem off_app {src d2 : Nat} {e bs : Ldg} (he : ∀ p ∈ e, @LT.lt Nat _ d2 p.1) (h : ∀ p ∈ bs, @LT.lt Nat _ p.1 src ∨ @LT.lt Nat _ d2 p.1) : ∀ p ∈ e ++ bs, @LT.lt Nat _ p.1 src ∨ @LT.lt Nat _ d2 p.1 := fun p hp => (List.mem_append.mp hp).elim (fun q => .inr (he p q)) (h p)
end Mine
namespace Mine
theorem RowRefs.tups {sg sg' : Ldg} {vs : List Value} {rs : List Row} (h : RowRefs sg vs rs) (hs : ∀ p ∈ sg, p.2.cls = .type "tuple" → p ∈ sg') : RowRefs sg' vs rs := by
  induction h with
  | nil => exact .nil
  | cons hm ho _ ih => exact .cons (hs _ hm (by cases ho <;> rfl)) ho ih
theorem st_in {prog : Program} {w : World} {C : Cn} {bs nw : Ldg} {i : Nat} {I : Addr} {oI : Obj} (h : St prog w C bs i nw) (off : LCg.Off1 I nw) : ∃ nw', (∀ p ∈ nw', p ∈ (I, oI) :: nw) ∧ St prog w C ((I, oI) :: bs) i nw' := by
  obtain ⟨a, ls, ⟨x, y, tx, ty, n, d1, o1, d2, o2, vs1, n1, vs2, n2, ldo, ext, rfl, Y⟩, hl, hk⟩ := h
  have ne := off1_mem off
  rw [sysL_eq] at ne ⊢
  refine ⟨_, ?_, a, ls, ⟨x, y, tx, ty, n, d1, o1, d2, o2, vs1, n1, vs2, n2, ldo, ext, rfl, Y.news (r' := ext ++ (I, oI) :: bs) (fun p hp => (List.mem_append.mp hp).elim (List.mem_append_left _) fun q => List.mem_append_right _ (.tail _ q)) ⟨Y.ap.1, fun p hp hm => ?_⟩⟩, hl, hk⟩
  · rw [sysL_eq]
    intro p hp
    rcases List.mem_append.mp hp with q | q
    · exact .tail _ (List.mem_append_left _ q)
    rcases List.mem_append.mp q with q | q
    · exact .tail _ (List.mem_append_right _ (List.mem_append_left _ q))
    rcases List.mem_append.mp q with q | q
    · exact .tail _ (List.mem_append_right _ (List.mem_append_right _ (List.mem_append_left _ q)))
    rcases List.mem_cons.mp q with q | q
    · exact q ▸ .head _
    · exact .tail _ (List.mem_append_right _ (List.mem_append_right _ (List.mem_append_right _ q)))
  · rcases List.mem_append.mp hp with q | q
    · exact Y.ap.2 p (List.mem_append_left _ q) hm
    rcases List.mem_cons.mp q with q | q
    · obtain ⟨e, he, e2⟩ := List.mem_map.mp (show p.1 ∈ List.map (fun p : Addr × Obj => p.1) (sysA C (listOf (List.toArray [Value.int x tx, Value.int y ty]) n) d1 o1 d2 o2 (ls 1) (listOf (List.toArray vs1) n1) (ls 2) (listOf (List.toArray vs2) n2) ldo) from hm)
      rw [q] at e2
      exact ne e (List.mem_append_left _ he) e2
    · exact Y.ap.2 p (List.mem_append_right _ q) hm
theorem st_out {prog : Program} {w : World} {h₀ h : Heap} {L : Addr} {C : Cn} {bs nw : Ldg} {i : Nat} {I : Addr} {oI : Obj} (N : News h₀ L h nw) (hS : St prog w C ((I, oI) :: bs) i nw) (hIt : ItO oI)
    (hfix : ∀ p ∈ sysB C, p.1 ≠ I) (hbs : ∀ p ∈ bs, p.1 ≠ I) : ∃ nw', (∀ p ∈ (I, oI) :: nw', p ∈ nw) ∧ LCg.Off1 I nw' ∧ St prog w C bs i nw' := by
  obtain ⟨a, ls, ⟨x, y, tx, ty, n, d1, o1, d2, o2, vs1, n1, vs2, n2, ldo, ext, rfl, Y⟩, hl, hk⟩ := hS
  rw [sysL_eq] at N ⊢
  have hI8 := Y.ap.2 (I, oI) (List.mem_append_right _ (.head _))
  have inr : ∀ p ∈ ext ++ (I, oI) :: bs, p ∈ sysA C (listOf (List.toArray [Value.int x tx, Value.int y ty]) n) d1 o1 d2 o2 (ls 1) (listOf (List.toArray vs1) n1) (ls 2) (listOf (List.toArray vs2) n2) ldo ++ (sysB C ++ (ext ++ (I, oI) :: bs)) := fun p hp => List.mem_append_right _ (List.mem_append_right _ hp)
  have one : ∀ p ∈ ext ++ (I, oI) :: bs, p.1 = I → p.2 = oI := fun p hp e => by
    have e1 := (N p (inr p hp)).1
    have e2 := (N (I, oI) (inr _ (List.mem_append_right _ (.head _)))).1
    rw [e] at e1
    exact Option.some.inj (e1.symm.trans e2)
  have tups : ∀ p ∈ ext ++ (I, oI) :: bs, p.2.cls = .type "tuple" → p ∈ (ext.filter fun p => decide (p.1 ≠ I)) ++ bs := fun p hp hcl => by
    have hn : p.1 ≠ I := fun e => hIt.1 (by rw [← one p hp e]; exact hcl)
    rcases List.mem_append.mp hp with q | q
    · exact List.mem_append_left _ (List.mem_filter.mpr ⟨q, decide_eq_true hn⟩)
    · rcases List.mem_cons.mp q with q | q
      · rw [q] at hn; exact absurd rfl hn
      · exact List.mem_append_right _ q
  have back : ∀ p ∈ (ext.filter fun p => decide (p.1 ≠ I)) ++ bs, p ∈ ext ++ (I, oI) :: bs := fun p hp => (List.mem_append.mp hp).elim (fun q => List.mem_append_left _ (List.mem_filter.mp q).1) fun q => List.mem_append_right _ (.tail _ q)
  refine ⟨_, ?_, ?_, a, ls, ⟨x, y, tx, ty, n, d1, o1, d2, o2, vs1, n1, vs2, n2, ldo, ext.filter fun p => decide (p.1 ≠ I), rfl,
    { Y with C1 := Y.C1.mono tups, C2 := Y.C2.mono tups, R1 := Y.R1.tups tups, R2 := Y.R2.tups tups, ap := ⟨Y.ap.1, fun p hp => Y.ap.2 p (back p hp)⟩ }⟩, hl, hk⟩
  · rw [sysL_eq]
    intro p hp
    rcases List.mem_cons.mp hp with e | hp
    · rw [e]; exact inr _ (List.mem_append_right _ (.head _))
    rcases List.mem_append.mp hp with q | q
    · exact List.mem_append_left _ q
    rcases List.mem_append.mp q with q | q
    · exact List.mem_append_right _ (List.mem_append_left _ q)
    · exact inr p (back p q)
  · rw [sysL_eq]
    refine off1_of fun p hp => ?_
    rcases List.mem_append.mp hp with q | q
    · intro e
      exact hI8 (e ▸ (List.mem_map_of_mem (f := fun p : Addr × Obj => p.1) q : p.1 ∈ List.map (fun p : Addr × Obj => p.1) (sysA C _ d1 o1 d2 o2 (ls 1) _ (ls 2) _ ldo)))
    rcases List.mem_append.mp q with q | q
    · exact hfix p q
    rcases List.mem_append.mp q with q | q
    · exact of_decide_eq_true (List.mem_filter.mp q).2
    · exact hbs p q
theorem st_fix {prog : Program} {w : World} {C : Cn} {bs nw : Ldg} {i : Nat} {I : Addr} (h : St prog w C bs i nw) (off : LCg.Off1 I nw) : (∀ p ∈ sysB C, p.1 ≠ I) ∧ ∀ p ∈ bs, p.1 ≠ I := by
  have hb := st_bs h
  have ne := off1_mem off
  obtain ⟨a, ls, ⟨x, y, tx, ty, n, d1, o1, d2, o2, vs1, n1, vs2, n2, ldo, ext, rfl, Y⟩, hl, hk⟩ := h
  rw [sysL_eq] at ne hb
  exact ⟨fun p hp => ne p (List.mem_append_right _ (List.mem_append_left _ hp)), fun p hp => ne p (hb p hp)⟩
end Mine
namespace Mine
theorem MapJ.mix {S S' : List Str} {m₀ m₁ u : Str → Option Value} (hs : ∀ x ∈ S', S.contains x = true) (h : MapJ S m₀ m₁) : MapJ S m₀ (fun y => if S'.contains y = true then u y else m₁ y) := by
  obtain ⟨v, rfl⟩ := h
  refine ⟨fun y => if S'.contains y = true then u y else v y, ?_⟩
  funext y
  dsimp only
  by_cases e : S'.contains y = true
  · simp only [if_pos e, if_pos (hs y (by simpa using e))]
  · simp only [if_neg e]
end Mine

namespace Mine
section
variable {prog : Program} {w : World} {A A₀ : Around} {s : Shared} {K : Frag} {L : Addr} {h₀ base : Heap} {m mg mb : Str → Option Value} {news : Ldg} {p : Program} {loose : List Str} {mean : ExcName → Option Value}
/-- a call of a function of the text's, its frame's names written out -/
theorem code_defM {env : Env} {outer : List Env} {R : Result → Shared → Prop} {name qual : Str} {params : Arguments} {body : List Stmt} {scope : Scope} {dV kV doc pm cdv ct oc : Value} {an od : Option Addr} {osl : Array (Option Value)} {f : Addr} {args : Args} {binds bl : List (Str × Value)}
    (B : Below A₀ base outer h₀) (F : Fr h₀ L s.heap m) (X₀ : K.In h₀) (N : News h₀ L s.heap news) (T : Top p loose mean mg mb h₀) (hA : A.frames = some (env :: outer)) (hf : env.frame = some L) (hke : env.scope.kind = .function)
    (ho : K.lookup f = some ⟨oc, od, .func (fnOf name qual params body scope dV kV doc pm an cdv ct), osl⟩) (hcd : codeIn K cdv qual = true) (hroom : A.depth < recursionLimit)
    (hbind : BindsTo s (fnOf name qual params body scope dV kV doc pm an cdv ct) args binds) (hloc : ∀ y ∈ binds, scope.names.lookup y.1 = some .local) (hbl : binds.reverse = bl)
    (h : ∀ g L' h₁ tk, Fr h₀ L g m → Fr g L' h₁ (fun y => bl.lookup y) → News g L' h₁ news → Below A base (env :: outer) g → K.In g → Top p loose mean mg mb g →
      wpAny (model prog w) (A.deeper (envOf qual scope L' f cdv)) (execs body (envOf qual scope L' f cdv))
        (fun fl s' => LeaveK h₀ L m g R (match fl with | .ret v => v | _ => .none) s')
        (fun e s' => wpAny (model prog w) (A.deeper (envOf qual scope L' f cdv)) (leaving (envOf qual scope L' f cdv) e) (fun _ s'' => R (.error e) s'') (fun e' s'' => R (.error e') s'') s')
        { s with heap := h₁, toks := tk })
    (hco : scope.isCoroutine = false) (hgen : scope.isGenerator = false) (hk : scope.kind = .function)
    (hcell : ∀ x ∈ scope.names, x.2 ≠ .cell) : codeAny (model prog w) A (.call (.ref f) args) R s := by
  subst hbl
  exact code_def B F X₀ N T hA hf hke ho hcd hroom hbind hloc (fun g L' h₁ a b c d e f => h g L' h₁ _ a b c d e f) hco hgen hk hcell
end
end Mine
namespace Mine
theorem room1 {dp a c lim : Nat} (h : dp + a < lim) (hk : 1 + c ≤ a) : dp + 1 + c < lim := by omega
theorem room00 {dp a lim : Nat} (h : dp + a < lim) : dp < lim := Nat.lt_of_le_of_lt (Nat.le_add_right _ _) h
theorem room0 {dp a c lim : Nat} (h : dp + a < lim) (hk : c ≤ a) : dp + c < lim := by omega
theorem roomk {dp a k c lim : Nat} (h : dp + a < lim) (hk : k + c ≤ a) : dp + k + c < lim := by omega
end Mine


namespace Mine
example : (PySem.Challenge.rw_pc0362_01, hd.heap_39) = (PySem.Challenge.rw_pc0362_01, hd.heap_39) := by
  k_fill
  rfl
section
variable {prog : Program} {w : World} {p : Program} {loose : List Str} {mean : ExcName → Option Value} {mg mb : Str → Option Value}
  {dp un : Nat} {gd : Option (List Code)} {cn : Str} {cs : Scope} {a : Addr} {ccd : Value} {cl : List (Str × Addr)} {outer : List Env} {A₀ : Around} {base h₀ : Heap} {L : Addr} {m : Str → Option Value} {s : Shared} {Q E : Value → Shared → Prop} {nw : List (Addr × Obj)}
local macro_rules | `(tactic| k_enter) => `(tactic| k_extra "k_enter")
local macro_rules | `(tactic| k_mem) => `(tactic| k_extra "k_mem")
local macro_rules | `(tactic| k_all) => `(tactic| k_extra "k_all")
local macro_rules | `(tactic| lcg_off) => `(tactic| k_extra "lcg_off")
local macro_rules | `(tactic| k_updF) => `(tactic| k_extra "k_updF")
local macro_rules | `(tactic| k_inst) => `(tactic| k_extra "k_inst")
local macro_rules | `(tactic| k_ne) => `(tactic| k_extra "k_ne")
local macro_rules | `(tactic| ktr_room) => `(tactic| k_extra "ktr_room")
local macro_rules | `(tactic| ktr_units) => `(tactic| k_extra "ktr_units")
local macro_rules | `(tactic| walk_at $s:str) => `(tactic| k_extra $s)
example : True := by
  k_with_none
  exact True.intro
example : True := by
  k_with "k_enter" => ((first | (refine' code_defM ?k1 ?k2 ?k3 ?k4 ?k5 ?kA ?kF ?kK ?k6 ?k7 ?k8 ?k9 ?kB ?kM ?_ ?c2 ?c3 ?c4 ?c5; (case kA => exact rfl); (case kF => exact rfl); (case kK => first | assumption | exact rfl); (case k1 => k_asm); (case k2 => k_asm); (case k3 => k_asm); (case k4 => k_asm); (case k5 => k_asm); (case k6 => k_is); (case k7 => k_is); (case k8 => ktr_room); (case k9 => first | exact BindsTo.of_eq rfl | exact binds_K (by k_in) rfl (by k_is) rfl rfl rfl); (case c5 => decide); (case kB => exact locs rfl); (case kM => first | exact (rfl : _ = [_]) | exact (rfl : _ = [_, _]) | exact (rfl : _ = [_, _, _]) | exact (rfl : _ = [_, _, _, _]) | exact (rfl : _ = [_, _, _, _, _]) | exact (rfl : _ = [])); (case c2 => exact rfl); (case c3 => exact rfl); (case c4 => exact rfl); k_whole; intro g' L' h' tk' FG' F' N' B' X' T'; (try dsimp only at F'); (try dsimp only); (try k_lift B'); (try k_fold)) | (refine' code_defC ?k1 ?k2 ?k3 ?k4 ?k5 ?kA ?kF ?kK ?k6 ?k7 ?k8 ?k9 ?kB ?kD ?_ ?c2 ?c3 ?c4; (case kA => exact rfl); (case kF => exact rfl); (case kK => first | assumption | exact rfl); (case k1 => k_asm); (case k2 => k_asm); (case k3 => k_asm); (case k4 => k_asm); (case k5 => k_asm); (case k6 => k_is); (case k7 => k_is); (case k8 => ktr_room); (case k9 => first | exact BindsTo.of_eq rfl | exact binds_K (by k_in) rfl (by k_is) rfl rfl rfl); (case kB => exact rfl); (case kD => decide +kernel); (case c2 => exact rfl); (case c3 => exact rfl); (case c4 => exact rfl); k_whole; intro g' L' h' tk' cells' FG' F' N' Y' B' X' T' l1; (try k_lt l1); k_cells Y'; (try simp only [List.cons_append, List.nil_append] at N'); (try dsimp only); (try k_lift B'); (try k_fold))))
  k_with "k_mem" => (assumption)
  k_with "k_all" => (first | assumption | (rename AllLt _ _ => q9; first | exact all_ne q9 (by omega) | (clear q9; rename AllLt _ _ => q9; first | exact all_ne q9 (by omega) | (clear q9; rename AllLt _ _ => q9; first | exact all_ne q9 (by omega) | (clear q9; rename AllLt _ _ => q9; exact all_ne q9 (by omega))))))
  k_with "k_all" => ((rename ∀ p : Addr × Obj, p ∈ _ → p.1 < _ => q9; first | exact all_ne' q9 (by omega) | (clear q9; rename ∀ p : Addr × Obj, p ∈ _ → p.1 < _ => q9; first | exact all_ne' q9 (by omega) | (clear q9; rename ∀ p : Addr × Obj, p ∈ _ → p.1 < _ => q9; exact all_ne' q9 (by omega)))))
  k_with "subscriptTail" => ((k_here; (with_reducible show wpAny _ _ (subscriptTail _ _ (Value.ref _) (Value.int _ _)) _ _ _); k_dflt (refine' kda_item (knd := PySem.intKind _ _) ?kN ?kM ?kC (intKind_is _ _ _ _) ?kE ?_; (case kN => k_asm); (case kM => k_mem); (case kC => assumption); (case kE => first | assumption | rfl))))
  k_with "eval ListComp" => ((k_here; k_dflt (refine ListComp_X (F₀ := by k_asm) (by with_unfolding_all rfl) (by decide) (by rfl) (by decide) (by rfl) ?_)))
  k_with "CompRest" => ((with_unfolding_all first
  | (refine LCg.CompRest.succ ?_; intro v' I' oI' C' oC' D' m' h' tk' E' hv' hC' hx' F' N' off' ne'; (have e9' := Option.some.inj (show some _ = some v' from hv')); subst e9'; (clear hv'); skip)
  | refine LCg.CompRest.zero ?_))
  k_with "lcg_off" => (first | assumption | exact True.intro | (refine off3_cons (by k_ne) (by k_ne) (by k_ne) ?_; lcg_off))
  k_with "CompEnd" => ((k_dflt (refine' compEnd ?hF ?hN ?hD ?hO ?hS ?_; (case hF => k_asm); (case hN => k_asm); (case hD => repeat (first | exact Drop3.here | apply Drop3.keep)); (case hO => lcg_off); (case hS => first | (refine Or.inr ?_; k_mem) | exact SX.ofK (by assumption) (by k_is)))))
  k_with "call ref" => (k_here; (first | (with_reducible show wpAny _ _ (call (Value.ref 53) _) _ _ _) | (with_reducible show wpAny _ _ (call (Value.ref 60) _) _ _ _) | (with_reducible show wpAny _ _ (call (Value.ref 70) _) _ _ _) | (with_reducible show wpAny _ _ (call (Value.ref 77) _) _ _ _) | (with_reducible show wpAny _ _ (call (Value.ref 84) _) _ _ _) | (with_reducible show wpAny _ _ (call (Value.ref 106) _) _ _ _) | (with_reducible show wpAny _ _ (call (Value.ref 113) _) _ _ _) | (with_reducible show wpAny _ _ (call (Value.ref 120) _) _ _ _) | (with_reducible show wpAny _ _ (call (Value.ref 149) _) _ _ _) | (with_reducible show wpAny _ _ (call (Value.ref 156) _) _ _ _) | (with_reducible show wpAny _ _ (call (Value.ref 163) _) _ _ _) | (with_reducible show wpAny _ _ (call (Value.ref 170) _) _ _ _) | (with_reducible show wpAny _ _ (call (Value.ref 177) _) _ _ _) | (with_reducible show wpAny _ _ (call (Value.ref 182) _) _ _ _) | (with_reducible show wpAny _ _ (call (Value.ref 189) _) _ _ _) | (with_reducible show wpAny _ _ (call (Value.ref 194) _) _ _ _) | (with_reducible show wpAny _ _ (call (Value.ref 199) _) _ _ _) | (with_reducible show wpAny _ _ (call (Value.ref 213) _) _ _ _) | (with_reducible show wpAny _ _ (call (Value.ref 220) _) _ _ _) | (with_reducible show wpAny _ _ (call (Value.ref 227) _) _ _ _) | (with_reducible show wpAny _ _ (call (Value.ref 234) _) _ _ _) | (with_reducible show wpAny _ _ (call (Value.ref 239) _) _ _ _) | (with_reducible show wpAny _ _ (call (Value.ref 246) _) _ _ _) | (with_reducible show wpAny _ _ (call (Value.ref 253) _) _ _ _) | (with_reducible show wpAny _ _ (call (Value.ref 260) _) _ _ _) | (with_reducible show wpAny _ _ (call (Value.ref 267) _) _ _ _) | (with_reducible show wpAny _ _ (call (Value.ref 274) _) _ _ _) | (with_reducible show wpAny _ _ (call (Value.ref 279) _) _ _ _)); refine stopHere ?_)
  k_with "k_ne" => (refine neN ?_; (try dsimp only); first | exact Nat.ne_of_lt (by simp only [*]) | exact Nat.ne_of_gt (by simp only [*]) | omega)
  k_with "ktr_room" => (first | exact room00 (by assumption) | exact room0 (by assumption) (by decide) | exact room1 (by assumption) (by decide) | exact roomk (by assumption) (by decide))
  k_with "ktr_units" => (first | exact room00 (by assumption) | exact room0 (by assumption) (by decide) | exact room1 (by assumption) (by decide) | exact roomk (by assumption) (by decide))
  exact True.intro
/-! block pure1 -/
theorem bcast_c (B : Below A₀ base outer h₀) (F : Fr h₀ L s.heap m) (X : (hd.heap_39 w.params).In h₀) (T : Top p loose mean mg mb h₀) (hk : cs.kind = .function) (hdp : dp + 5 < recursionLimit) (hun : un + 40 < cLine) (N : News h₀ L s.heap nw) {x : Int} {tx : Tok}
  (hret : ∀ h' tk', Fr h₀ L h' m → News h₀ L h' nw → Q (.bool (x == 281474976710655)) { s with heap := h', toks := tk' }) :
  wpAny (model prog w) (ktrTop dp un gd cn cs L a ccd cl outer) (call (.ref 60) [.int x tx]) Q E s := by
  refine wpAny_call ?_
  k_dflt k_enter
  k_steps
  all_goals exact hret _ _ (by assumption) (by assumption)

theorem group_c (B : Below A₀ base outer h₀) (F : Fr h₀ L s.heap m) (X : (hd.heap_39 w.params).In h₀) (T : Top p loose mean mg mb h₀) (hk : cs.kind = .function) (hdp : dp + 5 < recursionLimit) (hun : un + 40 < cLine) (N : News h₀ L s.heap nw) {x : Int} {tx : Tok} (h0 : 0 ≤ x) (h1 : x < 2 ^ 60)
  (hret : ∀ h' tk', Fr h₀ L h' m → News h₀ L h' nw → Q (.bool (Builtin.bitAnd (x.fdiv (2 ^ Int.toNat 40)) 1 == 1)) { s with heap := h', toks := tk' }) :
  wpAny (model prog w) (ktrTop dp un gd cn cs L a ccd cl outer) (call (.ref 53) [.int x tx]) Q E s := by
  refine wpAny_call ?_
  k_dflt k_enter
  k_steps
  all_goals exact hret _ _ (by assumption) (by assumption)

example : True := by
  k_with "call ref" => ((fail_if_success (k_extra "past pure1")); (k_here; (with_reducible show wpAny _ _ (call (Value.ref 60) _) _ _ _); k_dflt (refine' bcast_c ?kB ?kF ?kX ?kT ?kK ?kD ?kU ?kN ?_; (case kB => k_asm); (case kF => k_asm); (case kX => k_asm); (case kT => k_asm); (case kK => first | with_reducible assumption | exact rfl | assumption); (case kD => ktr_room); (case kU => ktr_units); (case kN => k_asm); k_whole); intro h' tk' F' N'))
  exact True.intro
example : True := by
  k_with "call ref" => ((fail_if_success (k_extra "past pure1")); (k_here; (with_reducible show wpAny _ _ (call (Value.ref 53) _) _ _ _); k_dflt (refine' group_c ?kB ?kF ?kX ?kT ?kK ?kD ?kU ?kN ?k0 ?k1 ?_; (case kB => k_asm); (case kF => k_asm); (case kX => k_asm); (case kT => k_asm); (case kK => first | with_reducible assumption | exact rfl | assumption); (case kD => ktr_room); (case kU => ktr_units); (case kN => k_asm); (case k0 => k_asm); (case k1 => k_asm); k_whole); intro h' tk' F' N'))
  exact True.intro

theorem sort_c (B : Below A₀ base outer h₀) (F : Fr h₀ L s.heap m) (X : (hd.heap_39 w.params).In h₀) (T : Top p loose mean mg mb h₀) (hk : cs.kind = .function) (hdp : dp + 10 < recursionLimit) (hun : un + 80 < cLine) (N : News h₀ L s.heap nw) {x : Int} {tx : Tok} (h0 : 0 ≤ x) (h1 : x < 2 ^ 60)
  (hret : ∀ t h' tk', Fr h₀ L h' m → News h₀ L h' nw → Q (.str (sortS x) t) { s with heap := h', toks := tk' }) :
  wpAny (model prog w) (ktrTop dp un gd cn cs L a ccd cl outer) (call (.ref 70) [.int x tx]) Q E s := by
  refine wpAny_call ?_
  k_dflt k_enter
  k_steps
  all_goals (refine cb_retS hret ?_ (by assumption) (by assumption); unfold sortS; simp_all)
example : True := by
  k_with "past pure1" => (skip)
  exact True.intro
/-! block cls -/
example : True := by
  k_with "exec For Tuple Call cons nil" => ((fail_if_success (k_extra "past cls")); (k_here; (with_reducible show wpAny _ _ (exec (Stmt.For (Expr.Tuple _ _ _) (Expr.Call (Expr.Name (Str.ofString "enumerate") _) _ _ _) _ [] _) _) _ _ _); refine wpAny_For ?_))
  exact True.intro
example : True := by
  k_with "call type:enumerate" => ((fail_if_success (k_extra "past cls")); (k_here; k_dflt (refine' for_enumT ?hh ?hl ?hF ?hN ?hE ?_; (case hh => rfl); (case hF => k_asm); (case hN => k_asm); (case hl => refine tupK (by assumption) (by k_is)); (case hE => passes_own)); intro e' it' l1 l2))
  exact True.intro
example : True := by
  k_with "ERest" => ((fail_if_success (k_extra "past cls")); first | (refine ERest.more ?_; intro T' t' h' tk' eo' io' F' N' hT') | (refine ERest.none ?_; intro h' tk' F' N'))
  exact True.intro
example : True := by
  k_with "EEnd" => ((fail_if_success (k_extra "past cls")); first | (refine EEnd.ret ?_) | (refine' EEnd.next ?F ?N ?_; (case F => k_asm); (case N => k_asm); (try k_sweep)))
  exact True.intro
theorem class_c (B : Below A₀ base outer h₀) (F : Fr h₀ L s.heap m) (X : (hd.heap_39 w.params).In h₀) (T : Top p loose mean mg mb h₀) (hk : cs.kind = .function) (hdp : dp + 10 < recursionLimit) (hun : un + 80 < cLine) (N : News h₀ L s.heap nw) {x : Int} {tx : Tok}
  (hret : ∀ t h' tk', Fr h₀ L h' m → News h₀ L h' nw → Q (.str (classS x) t) { s with heap := h', toks := tk' }) :
  wpAny (model prog w) (ktrTop dp un gd cn cs L a ccd cl outer) (call (.ref 77) [.int x tx]) Q E s := by
  refine wpAny_call ?_
  k_dflt k_enter
  k_steps
  all_goals (refine cb_retS hret ?_ (by assumption) (by first | assumption | exact news_sub (by assumption) (sub_tail (sub_tail sub_refl))); unfold classS; (repeat' split) <;> first | rfl | omega)
example : True := by
  k_with "past cls" => (skip)
  exact True.intro
example : True := by
  k_with "call ref" => ((k_here; (with_reducible show wpAny _ _ (call (Value.ref 77) _) _ _ _); k_dflt (refine' class_c ?kB ?kF ?kX ?kT ?kK ?kD ?kU ?kN ?_; (case kB => k_asm); (case kF => k_asm); (case kX => k_asm); (case kT => k_asm); (case kK => first | with_reducible assumption | exact rfl | assumption); (case kD => ktr_room); (case kU => ktr_units); (case kN => k_asm); k_whole); intro t' h' tk' F' N'))
  k_with "call ref" => ((k_here; (with_reducible show wpAny _ _ (call (Value.ref 70) _) _ _ _); k_dflt (refine' sort_c ?kB ?kF ?kX ?kT ?kK ?kD ?kU ?kN ?k0 ?k1 ?_; (case kB => k_asm); (case kF => k_asm); (case kX => k_asm); (case kT => k_asm); (case kK => first | with_reducible assumption | exact rfl | assumption); (case kD => ktr_room); (case kU => ktr_units); (case kN => k_asm); (case k0 => first | assumption | decide); (case k1 => first | assumption | decide); k_whole); intro t' h' tk' F' N'))
  exact True.intro
/-! block dmac -/
example : True := by
  k_with "getMethod ref" => ((k_here; (with_reducible show wpAny _ _ (getMethod (Value.ref _) (Str.ofString "get") _) _ _ _); k_dflt (refine' cd_method ?kN ?kM ?kC ?_; (case kN => k_asm); (case kM => k_mem); (case kC => k_asm); k_whole)))
  k_with "call builtin:dict.get" => ((k_here; (with_reducible show wpAny _ _ (call (Value.builtin _) [Value.ref _, Value.ref _, Value.int _ _]) _ _ _); k_dflt (refine' cd_get2 ?kU ?kN ?kS ?kM ?kC ?kL ?kK ?kO ?_; (case kN => k_asm); (case kC => k_asm); (case kU => ktr_units); (case kS => repeat (first | exact sub_refl | assumption | refine sub_tail ?_)); (case kM => k_mem); (case kL => k_asm); (case kO => k_asm); (case kK => first | k_mem | assumption | (repeat (first | assumption | apply List.Mem.tail))); k_whole); intro t' n'))
  k_with "k_all" => (assumption)
  k_with "setItem ref" => ((k_here; (with_reducible show wpAny _ _ (setItem (Value.ref _) (Value.ref _) (Value.int _ _)) _ _ _); k_dflt (refine' cd_setItem ?kU ?kF ?kN ?kS ?kP ?kC ?kK ?kO ?kL ?_; (case kF => k_asm); (case kN => k_asm); (case kC => k_asm); (case kU => ktr_units); (case kS => repeat (first | exact sub_refl | assumption | refine sub_tail ?_)); (case kP => k_updF); (case kL => k_asm); (case kO => k_asm); (case kK => k_asm); k_whole); intro h' o' n' F' N' C'; (try dsimp only at N'); (try k_sweep)))
  exact True.intro
/-! block count -/
theorem count_h (B : Below A₀ base outer h₀) (F : Fr h₀ L s.heap m) (X : (hd.heap_39 w.params).In h₀) (T : Top p loose mean mg mb h₀) (hk : cs.kind = .function) (hdp : dp + 10 < recursionLimit) (hun : un + 80 < cLine) {pc dpc d ka : Addr} {hb hc : Int} {tb tc tkb tm : Tok} {b many : Int} {n1 : Nat} {o ko : Obj} {al : AL} {k : Key} {sg : Ldg}
  (N : News h₀ L s.heap ((pc, instObj 123 dpc) :: (dpc, dictOf [⟨hb, .str "bits" tb, .int b tkb⟩, ⟨hc, .str "counts" tc, .ref d⟩] n1) :: (d, o) :: nw))
  (S : ∀ p ∈ sg, p ∈ (pc, instObj 123 dpc) :: (dpc, dictOf [⟨hb, .str "bits" tb, .int b tkb⟩, ⟨hc, .str "counts" tc, .ref d⟩] n1) :: (d, o) :: nw) (C : CD prog w sg o al) (hkm : (ka, ko) ∈ sg) (hko : KeyO ko k) (lo : (d == sysModules) = false)
  (hb0 : 0 ≤ b) (hb1 : b ≤ 32) (hlen : al.length ≤ 1000) (hn1 : pc ≠ d) (hn2 : dpc ≠ d) (hn3 : ∀ p ∈ nw, p.1 ≠ d)
  (hret : ∀ o' h' tk', Fr h₀ L h' m → News h₀ L h' ((pc, instObj 123 dpc) :: (dpc, dictOf [⟨hb, .str "bits" tb, .int b tkb⟩, ⟨hc, .str "counts" tc, .ref d⟩] n1) :: (d, o') :: nw) →
    CD prog w sg o' (put al k ((look al k + many).fmod (2 ^ b.toNat))) → Q .none { s with heap := h', toks := tk' }) :
  wpAny (model prog w) (ktrTop dp un gd cn cs L a ccd cl outer) (call (.ref 106) [.ref pc, .ref ka, .int many tm]) Q E s := by
  have hkn := S _ hkm
  refine wpAny_call ?_
  k_dflt k_enter
  k_steps
  all_goals exact hret _ _ _ (by assumption) (by assumption) (by assumption)
theorem count1_h (B : Below A₀ base outer h₀) (F : Fr h₀ L s.heap m) (X : (hd.heap_39 w.params).In h₀) (T : Top p loose mean mg mb h₀) (hk : cs.kind = .function) (hdp : dp + 10 < recursionLimit) (hun : un + 80 < cLine) {pc dpc d ka : Addr} {hb hc : Int} {tb tc tkb : Tok} {b : Int} {n1 : Nat} {o ko : Obj} {al : AL} {k : Key} {sg : Ldg}
  (N : News h₀ L s.heap ((pc, instObj 123 dpc) :: (dpc, dictOf [⟨hb, .str "bits" tb, .int b tkb⟩, ⟨hc, .str "counts" tc, .ref d⟩] n1) :: (d, o) :: nw))
  (S : ∀ p ∈ sg, p ∈ (pc, instObj 123 dpc) :: (dpc, dictOf [⟨hb, .str "bits" tb, .int b tkb⟩, ⟨hc, .str "counts" tc, .ref d⟩] n1) :: (d, o) :: nw) (C : CD prog w sg o al) (hkm : (ka, ko) ∈ sg) (hko : KeyO ko k) (lo : (d == sysModules) = false)
  (hb0 : 0 ≤ b) (hb1 : b ≤ 32) (hlen : al.length ≤ 1000) (hn1 : pc ≠ d) (hn2 : dpc ≠ d) (hn3 : ∀ p ∈ nw, p.1 ≠ d)
  (hret : ∀ o' h' tk', Fr h₀ L h' m → News h₀ L h' ((pc, instObj 123 dpc) :: (dpc, dictOf [⟨hb, .str "bits" tb, .int b tkb⟩, ⟨hc, .str "counts" tc, .ref d⟩] n1) :: (d, o') :: nw) →
    CD prog w sg o' (put al k ((look al k + 1).fmod (2 ^ b.toNat))) → Q .none { s with heap := h', toks := tk' }) :
  wpAny (model prog w) (ktrTop dp un gd cn cs L a ccd cl outer) (call (.ref 106) [.ref pc, .ref ka]) Q E s := by
  have hkn := S _ hkm
  refine wpAny_call ?_
  k_dflt k_enter
  k_steps
  all_goals exact hret _ _ _ (by assumption) (by assumption) (by assumption)
theorem count_parts {pc dpc d ka : Addr} {hb hc : Int} {tb tc tkb : Tok} {b : Int} {n1 : Nat} {o ko : Obj} {al : AL} {sg : Ldg} {g : Obj → Ldg}
  (N : News h₀ L s.heap nw) (hm1 : (pc, instObj 123 dpc) ∈ nw) (hm2 : (dpc, dictOf [⟨hb, .str "bits" tb, .int b tkb⟩, ⟨hc, .str "counts" tc, .ref d⟩] n1) ∈ nw) (U : UpdF d o nw g) (C : CD prog w sg o al)
  (S : ∀ p ∈ sg, p ∈ nw) (hkm : (ka, ko) ∈ nw) :
  ∃ rest, News h₀ L s.heap ((pc, instObj 123 dpc) :: (dpc, dictOf [⟨hb, .str "bits" tb, .int b tkb⟩, ⟨hc, .str "counts" tc, .ref d⟩] n1) :: (d, o) :: rest) ∧
    (∀ p ∈ (ka, ko) :: sg, p ∈ (pc, instObj 123 dpc) :: (dpc, dictOf [⟨hb, .str "bits" tb, .int b tkb⟩, ⟨hc, .str "counts" tc, .ref d⟩] n1) :: (d, o) :: rest) ∧ pc ≠ d ∧ dpc ≠ d ∧ (∀ p ∈ rest, p.1 ≠ d) ∧
    ∀ o' h', News h₀ L h' ((pc, instObj 123 dpc) :: (dpc, dictOf [⟨hb, .str "bits" tb, .int b tkb⟩, ⟨hc, .str "counts" tc, .ref d⟩] n1) :: (d, o') :: rest) → News h₀ L h' (g o') := by
  obtain ⟨rest, s1, s2, s3, s4, hr⟩ := updF_perm U
  have hc := C.cls
  refine ⟨rest, news_sub N (sub_cons hm1 (sub_cons hm2 s2)), sub_cons (.tail _ (.tail _ (s1 _ hkm))) fun p hp => .tail _ (.tail _ (s1 _ (S p hp))), ?_, ?_, hr, fun o' h' N' => news_sub N' fun p hp => .tail _ (.tail _ (s3 o' p hp))⟩
  · rcases List.mem_cons.mp (s1 _ hm1) with e | e
    · cases e; cases hc
    · exact hr _ e
  · rcases List.mem_cons.mp (s1 _ hm2) with e | e
    · cases e; exact C.notAttr.elim
    · exact hr _ e
theorem count_u (B : Below A₀ base outer h₀) (F : Fr h₀ L s.heap m) (X : (hd.heap_39 w.params).In h₀) (T : Top p loose mean mg mb h₀) (hk : cs.kind = .function) (hdp : dp + 10 < recursionLimit) (hun : un + 80 < cLine) {pc dpc d ka : Addr} {hb hc : Int} {tb tc tkb tm : Tok} {b many : Int} {n1 : Nat} {o ko : Obj} {al : AL} {k : Key} {sg : Ldg} {g : Obj → Ldg}
  (N : News h₀ L s.heap nw) (hm1 : (pc, instObj 123 dpc) ∈ nw) (hm2 : (dpc, dictOf [⟨hb, .str "bits" tb, .int b tkb⟩, ⟨hc, .str "counts" tc, .ref d⟩] n1) ∈ nw) (U : UpdF d o nw g) (C : CD prog w sg o al)
  (S : ∀ p ∈ sg, p ∈ nw) (hkm : (ka, ko) ∈ nw) (hko : KeyO ko k) (lo : (d == sysModules) = false) (hb0 : 0 ≤ b) (hb1 : b ≤ 32) (hlen : al.length ≤ 1000)
  (hret : ∀ o' h' tk', Fr h₀ L h' m → News h₀ L h' (g o') → CD prog w ((ka, ko) :: sg) o' (put al k ((look al k + many).fmod (2 ^ b.toNat))) → Q .none { s with heap := h', toks := tk' }) :
  wpAny (model prog w) (ktrTop dp un gd cn cs L a ccd cl outer) (call (.ref 106) [.ref pc, .ref ka, .int many tm]) Q E s := by
  obtain ⟨rest, N', S', a1, a2, a3, back⟩ := count_parts (s := s) N hm1 hm2 U C S hkm
  exact count_h B F X T hk hdp hun N' S' (C.grow sub_tail') (.head _) hko lo hb0 hb1 hlen a1 a2 a3 fun o' h' tk' F' N' C' => hret o' h' tk' F' (back _ _ N') C'
theorem count1_u (B : Below A₀ base outer h₀) (F : Fr h₀ L s.heap m) (X : (hd.heap_39 w.params).In h₀) (T : Top p loose mean mg mb h₀) (hk : cs.kind = .function) (hdp : dp + 10 < recursionLimit) (hun : un + 80 < cLine) {pc dpc d ka : Addr} {hb hc : Int} {tb tc tkb : Tok} {b : Int} {n1 : Nat} {o ko : Obj} {al : AL} {k : Key} {sg : Ldg} {g : Obj → Ldg}
  (N : News h₀ L s.heap nw) (hm1 : (pc, instObj 123 dpc) ∈ nw) (hm2 : (dpc, dictOf [⟨hb, .str "bits" tb, .int b tkb⟩, ⟨hc, .str "counts" tc, .ref d⟩] n1) ∈ nw) (U : UpdF d o nw g) (C : CD prog w sg o al)
  (S : ∀ p ∈ sg, p ∈ nw) (hkm : (ka, ko) ∈ nw) (hko : KeyO ko k) (lo : (d == sysModules) = false) (hb0 : 0 ≤ b) (hb1 : b ≤ 32) (hlen : al.length ≤ 1000)
  (hret : ∀ o' h' tk', Fr h₀ L h' m → News h₀ L h' (g o') → CD prog w ((ka, ko) :: sg) o' (put al k ((look al k + 1).fmod (2 ^ b.toNat))) → Q .none { s with heap := h', toks := tk' }) :
  wpAny (model prog w) (ktrTop dp un gd cn cs L a ccd cl outer) (call (.ref 106) [.ref pc, .ref ka]) Q E s := by
  obtain ⟨rest, N', S', a1, a2, a3, back⟩ := count_parts (s := s) N hm1 hm2 U C S hkm
  exact count1_h B F X T hk hdp hun N' S' (C.grow sub_tail') (.head _) hko lo hb0 hb1 hlen a1 a2 a3 fun o' h' tk' F' N' C' => hret o' h' tk' F' (back _ _ N') C'
example : True := by
  k_with "call ref" => ((k_here; (with_reducible show wpAny _ _ (call (Value.ref 106) [_, _, _]) _ _ _); k_dflt (refine' count_u ?kB ?kF ?kX ?kT ?kK ?kD ?kU ?kN ?m1 ?m2 ?kP ?kC ?kS ?m3 ?kO ?kL ?b0 ?b1 ?kZ ?_; (case kB => k_asm); (case kF => k_asm); (case kX => k_asm); (case kT => k_asm); (case kK => first | with_reducible assumption | exact rfl | assumption); (case kD => ktr_room); (case kU => ktr_units); (case kN => k_asm); (case m1 => k_mem); (case m2 => k_mem); (case kP => k_updF); (case kC => k_asm); (case kS => (repeat (first | exact sub_refl | assumption | exact sub_appl | exact sub_nil | (refine sub_cons ?_ ?_; k_mem) | refine sub_tail ?_ | refine sub_apr ?_))); (case m3 => k_mem); (case kO => (first | assumption | exact strs_key (StrsAre.cons (StrsAre.cons StrsAre.nil)) | exact strs_key (StrsAre.cons (StrsAre.cons (StrsAre.cons StrsAre.nil))))); (case kL => k_asm); (case b0 => k_asm); (case b1 => k_asm); (case kZ => (repeat refine put_len ?_); omega); k_whole); intro o' h' tk' F' N' C'; (try dsimp only at N')))
  k_with "call ref" => ((k_here; (with_reducible show wpAny _ _ (call (Value.ref 106) [_, _]) _ _ _); k_dflt (refine' count1_u ?kB ?kF ?kX ?kT ?kK ?kD ?kU ?kN ?m1 ?m2 ?kP ?kC ?kS ?m3 ?kO ?kL ?b0 ?b1 ?kZ ?_; (case kB => k_asm); (case kF => k_asm); (case kX => k_asm); (case kT => k_asm); (case kK => first | with_reducible assumption | exact rfl | assumption); (case kD => ktr_room); (case kU => ktr_units); (case kN => k_asm); (case m1 => k_mem); (case m2 => k_mem); (case kP => k_updF); (case kC => k_asm); (case kS => (repeat (first | exact sub_refl | assumption | exact sub_appl | exact sub_nil | (refine sub_cons ?_ ?_; k_mem) | refine sub_tail ?_ | refine sub_apr ?_))); (case m3 => k_mem); (case kO => (first | assumption | exact strs_key (StrsAre.cons (StrsAre.cons StrsAre.nil)) | exact strs_key (StrsAre.cons (StrsAre.cons (StrsAre.cons StrsAre.nil))))); (case kL => k_asm); (case b0 => k_asm); (case b1 => k_asm); (case kZ => (repeat refine put_len ?_); omega); k_whole); intro o' h' tk' F' N' C'; (try dsimp only at N')))
  exact True.intro
/-! block ctr1 -/
example : True := by
  k_with "compareOp NotIn int ref" => ((fail_if_success (k_extra "past ctr1")); (k_here; k_dflt (refine' kdg_notin (knd := PySem.intKind _ _) ?kN ?kM ?kC ?kL (intKind_is _ _ _ _) true ?kE ?_; (case kN => k_asm); (case kC => k_asm); (case kM => k_mem); (case kL => k_asm); (case kE => first | rfl | (simp only [*]; rfl))); (try dsimp only [Bool.not_true, Bool.not_false])))
  exact True.intro
example : True := by
  k_with "subscriptTail" => ((fail_if_success (k_extra "past ctr1")); (k_here; (with_reducible show wpAny _ _ (subscriptTail _ _ (Value.ref _) (Value.int _ _)) _ _ _); k_dflt (refine' kda_item (knd := PySem.intKind _ _) ?kN ?kM ?kC (intKind_is _ _ _ _) ?kE ?_; (case kN => k_asm); (case kC => k_asm); (case kM => k_mem); (case kE => k_asm))))
  exact True.intro
theorem value_c (B : Below A₀ base outer h₀) (F : Fr h₀ L s.heap m) (X : (hd.heap_39 w.params).In h₀) (T : Top p loose mean mg mb h₀) (hk : cs.kind = .function) (hdp : dp + 10 < recursionLimit) (hun : un + 80 < cLine) {pc dpc d ka : Addr} {hb hc : Int} {tb tc : Tok} {bv : Value} {n1 : Nat} {o ko : Obj} {al : AL} {k : Key} {sg : Ldg}
  (N : News h₀ L s.heap nw) (hm1 : (pc, instObj 123 dpc) ∈ nw) (hm2 : (dpc, dictOf [⟨hb, .str "bits" tb, bv⟩, ⟨hc, .str "counts" tc, .ref d⟩] n1) ∈ nw) (hm3 : (d, o) ∈ nw)
  (S : ∀ p ∈ sg, p ∈ nw) (C : CD prog w sg o al) (hkm : (ka, ko) ∈ nw) (hko : KeyO ko k) (lo : (d == sysModules) = false)
  (hret : ∀ t h' tk', Fr h₀ L h' m → News h₀ L h' nw → Q (.int (look al k) t) { s with heap := h', toks := tk' }) :
  wpAny (model prog w) (ktrTop dp un gd cn cs L a ccd cl outer) (call (.ref 113) [.ref pc, .ref ka]) Q E s := by
  refine wpAny_call ?_
  k_dflt k_enter
  k_steps
  all_goals exact hret _ _ _ (by assumption) (by assumption)
theorem row_c (B : Below A₀ base outer h₀) (F : Fr h₀ L s.heap m) (X : (hd.heap_39 w.params).In h₀) (T : Top p loose mean mg mb h₀) (hk : cs.kind = .function) (hdp : dp + 10 < recursionLimit) (hun : un + 80 < cLine) {c dc pd pc : Addr} {hb hp : Int} {tb tp : Tok} {bv : Value} {n1 : Nat} {po : Obj} {port : Int} {tk : Tok} {kvs : List (Int × Value)}
  (N : News h₀ L s.heap nw) (hm1 : (c, instObj 202 dc) ∈ nw) (hm2 : (dc, dictOf [⟨hb, .str "bits" tb, bv⟩, ⟨hp, .str "ports" tp, .ref pd⟩] n1) ∈ nw) (hm3 : (pd, po) ∈ nw)
  (P : po.IsDictOf (PySem.intKind prog w) kvs) (hv : valueAt kvs port = some (.ref pc)) (lo : (pd == sysModules) = false)
  (hret : ∀ h' tk', Fr h₀ L h' m → News h₀ L h' nw → Q (.ref pc) { s with heap := h', toks := tk' }) :
  wpAny (model prog w) (ktrTop dp un gd cn cs L a ccd cl outer) (call (.ref 156) [.ref c, .int port tk]) Q E s := by
  refine wpAny_call ?_
  k_dflt k_enter
  k_steps
  all_goals exact hret _ _ (by assumption) (by assumption)
example : True := by
  k_with "past ctr1" => (skip)
  exact True.intro
example : True := by
  k_with "call ref" => ((k_here; (with_reducible show wpAny _ _ (call (Value.ref 156) _) _ _ _); k_dflt (refine' row_c ?kB ?kF ?kX ?kT ?kK ?kD ?kU ?kN ?m1 ?m2 ?m3 ?kP ?kV ?kL ?_; (case kB => k_asm); (case kF => k_asm); (case kX => k_asm); (case kT => k_asm); (case kK => first | with_reducible assumption | exact rfl | assumption); (case kD => ktr_room); (case kU => ktr_units); (case kN => k_asm); (case m1 => k_mem); (case m2 => k_mem); (case m3 => k_mem); (case kP => k_asm); (case kV => k_asm); (case kL => k_asm); k_whole); intro h' tk' F' N'))
  k_with "call ref" => ((k_here; (with_reducible show wpAny _ _ (call (Value.ref 113) _) _ _ _); k_dflt (refine' value_c ?kB ?kF ?kX ?kT ?kK ?kD ?kU ?kN ?m1 ?m2 ?m3 ?kS ?kC ?m4 ?kO ?kL ?_; (case kB => k_asm); (case kF => k_asm); (case kX => k_asm); (case kT => k_asm); (case kK => first | with_reducible assumption | exact rfl | assumption); (case kD => ktr_room); (case kU => ktr_units); (case kN => k_asm); (case m1 => k_mem); (case m2 => k_mem); (case m3 => k_mem); (case kC => k_asm); (case kS => (repeat (first | exact sub_refl | assumption | exact sub_appl | exact sub_nil | (refine sub_cons ?_ ?_; k_mem) | refine sub_tail ?_ | refine sub_apr ?_))); (case m4 => k_mem); (case kO => (first | assumption | exact strs_key (StrsAre.cons (StrsAre.cons StrsAre.nil)) | exact strs_key (StrsAre.cons (StrsAre.cons (StrsAre.cons StrsAre.nil))))); (case kL => k_asm); k_whole); intro t' h' tk' F' N'))
  exact True.intro
/-! block passed -/
theorem passed_h (B : Below A₀ base outer h₀) (F : Fr h₀ L s.heap m) (X : (hd.heap_39 w.params).In h₀) (T : Top p loose mean mg mb h₀) (hk : cs.kind = .function) (hdp : dp + 20 < recursionLimit) (hun : un + 160 < cLine) {c dc pd pc dpc d : Addr} {hb hp hb2 hc : Int} {tb tp tb2 tc tkb : Tok} {bv : Value} {b : Int} {n1 n2 : Nat} {po o : Obj} {port target size : Int} {tk tk2 tk3 tw : Tok} {way : Str} {kvs : List (Int × Value)} {al : AL} {sg : Ldg}
  (N : News h₀ L s.heap ((c, instObj 202 dc) :: (dc, dictOf [⟨hb, .str "bits" tb, bv⟩, ⟨hp, .str "ports" tp, .ref pd⟩] n1) :: (pd, po) :: (pc, instObj 123 dpc) :: (dpc, dictOf [⟨hb2, .str "bits" tb2, .int b tkb⟩, ⟨hc, .str "counts" tc, .ref d⟩] n2) :: (d, o) :: nw))
  (P : po.IsDictOf (PySem.intKind prog w) kvs) (hv : valueAt kvs port = some (.ref pc)) (lo : (pd == sysModules) = false)
  (S : ∀ p ∈ sg, p ∈ nw) (C : CD prog w sg o al) (lo2 : (d == sysModules) = false) (hb0 : 0 ≤ b) (hb1 : b ≤ 32) (hlen : al.length ≤ 900)
  (hn1 : c ≠ d) (hn2 : dc ≠ d) (hn3 : pd ≠ d) (hn4 : pc ≠ d) (hn5 : dpc ≠ d) (hn : ∀ p ∈ nw, p.1 ≠ d)
  (ht0 : 0 ≤ target) (ht1 : target < 2 ^ 60)
  (hret : ∀ ext o' h' tk', Tups ext → Fr h₀ L h' m → News h₀ L h' (ext ++ ((c, instObj 202 dc) :: (dc, dictOf [⟨hb, .str "bits" tb, bv⟩, ⟨hp, .str "ports" tp, .ref pd⟩] n1) :: (pd, po) :: (pc, instObj 123 dpc) :: (dpc, dictOf [⟨hb2, .str "bits" tb2, .int b tkb⟩, ⟨hc, .str "counts" tc, .ref d⟩] n2) :: (d, o') :: nw)) →
    CD prog w (ext ++ sg) o' (bumps (2 ^ b.toNat) al (Row.frame way target size).names) → Q .none { s with heap := h', toks := tk' }) :
  wpAny (model prog w) (ktrTop dp un gd cn cs L a ccd cl outer) (call (.ref 163) [.ref c, .int port tk, .str way tw, .int target tk2, .int size tk3]) Q E s := by
  refine wpAny_call ?_
  k_dflt k_enter
  k_steps
  all_goals exact hret [_, _, _, _] _ _ _ (Tups.cons rfl (Tups.cons rfl (Tups.cons rfl (Tups.cons rfl Tups.nil)))) (by assumption) (by assumption) (by assumption)
theorem dropped_h (B : Below A₀ base outer h₀) (F : Fr h₀ L s.heap m) (X : (hd.heap_39 w.params).In h₀) (T : Top p loose mean mg mb h₀) (hk : cs.kind = .function) (hdp : dp + 20 < recursionLimit) (hun : un + 160 < cLine) {c dc pd pc dpc d : Addr} {hb hp hb2 hc : Int} {tb tp tb2 tc tkb : Tok} {bv : Value} {b : Int} {n1 n2 : Nat} {po o : Obj} {port : Int} {tk tw ty : Tok} {way why : Str} {kvs : List (Int × Value)} {al : AL} {sg : Ldg}
  (N : News h₀ L s.heap ((c, instObj 202 dc) :: (dc, dictOf [⟨hb, .str "bits" tb, bv⟩, ⟨hp, .str "ports" tp, .ref pd⟩] n1) :: (pd, po) :: (pc, instObj 123 dpc) :: (dpc, dictOf [⟨hb2, .str "bits" tb2, .int b tkb⟩, ⟨hc, .str "counts" tc, .ref d⟩] n2) :: (d, o) :: nw))
  (P : po.IsDictOf (PySem.intKind prog w) kvs) (hv : valueAt kvs port = some (.ref pc)) (lo : (pd == sysModules) = false)
  (S : ∀ p ∈ sg, p ∈ nw) (C : CD prog w sg o al) (lo2 : (d == sysModules) = false) (hb0 : 0 ≤ b) (hb1 : b ≤ 32) (hlen : al.length ≤ 900)
  (hn1 : c ≠ d) (hn2 : dc ≠ d) (hn3 : pd ≠ d) (hn4 : pc ≠ d) (hn5 : dpc ≠ d) (hn : ∀ p ∈ nw, p.1 ≠ d)
  (hret : ∀ ext o' h' tk', Tups ext → Fr h₀ L h' m → News h₀ L h' (ext ++ ((c, instObj 202 dc) :: (dc, dictOf [⟨hb, .str "bits" tb, bv⟩, ⟨hp, .str "ports" tp, .ref pd⟩] n1) :: (pd, po) :: (pc, instObj 123 dpc) :: (dpc, dictOf [⟨hb2, .str "bits" tb2, .int b tkb⟩, ⟨hc, .str "counts" tc, .ref d⟩] n2) :: (d, o') :: nw)) →
    CD prog w (ext ++ sg) o' (bumps (2 ^ b.toNat) al (Row.drop way why).names) → Q .none { s with heap := h', toks := tk' }) :
  wpAny (model prog w) (ktrTop dp un gd cn cs L a ccd cl outer) (call (.ref 170) [.ref c, .int port tk, .str way tw, .str why ty]) Q E s := by
  refine wpAny_call ?_
  k_dflt k_enter
  k_steps
  all_goals exact hret [_, _] _ _ _ (Tups.cons rfl (Tups.cons rfl Tups.nil)) (by assumption) (by assumption) (by assumption)
/-! block ctr2 -/
theorem cvalue_c (B : Below A₀ base outer h₀) (F : Fr h₀ L s.heap m) (X : (hd.heap_39 w.params).In h₀) (T : Top p loose mean mg mb h₀) (hk : cs.kind = .function) (hdp : dp + 20 < recursionLimit) (hun : un + 160 < cLine) {c dc pd pc dpc d ka : Addr} {hb hp hb2 hc : Int} {tb tp tb2 tc : Tok} {bv bv2 : Value} {n1 n2 : Nat} {po o ko : Obj} {port : Int} {tk : Tok} {kvs : List (Int × Value)} {al : AL} {k : Key} {sg : Ldg}
  (N : News h₀ L s.heap nw) (hm1 : (c, instObj 202 dc) ∈ nw) (hm2 : (dc, dictOf [⟨hb, .str "bits" tb, bv⟩, ⟨hp, .str "ports" tp, .ref pd⟩] n1) ∈ nw) (hm3 : (pd, po) ∈ nw)
  (P : po.IsDictOf (PySem.intKind prog w) kvs) (hv : valueAt kvs port = some (.ref pc)) (lo : (pd == sysModules) = false)
  (hm4 : (pc, instObj 123 dpc) ∈ nw) (hm5 : (dpc, dictOf [⟨hb2, .str "bits" tb2, bv2⟩, ⟨hc, .str "counts" tc, .ref d⟩] n2) ∈ nw) (hm6 : (d, o) ∈ nw)
  (S : ∀ p ∈ sg, p ∈ nw) (C : CD prog w sg o al) (hkm : (ka, ko) ∈ nw) (hko : KeyO ko k) (lo2 : (d == sysModules) = false)
  (hret : ∀ t h' tk', Fr h₀ L h' m → News h₀ L h' nw → Q (.int (look al k) t) { s with heap := h', toks := tk' }) :
  wpAny (model prog w) (ktrTop dp un gd cn cs L a ccd cl outer) (call (.ref 177) [.ref c, .int port tk, .ref ka]) Q E s := by
  refine wpAny_call ?_
  k_dflt k_enter
  k_steps
  all_goals exact hret _ _ _ (by assumption) (by assumption)
theorem clear_h (B : Below A₀ base outer h₀) (F : Fr h₀ L s.heap m) (X : (hd.heap_39 w.params).In h₀) (T : Top p loose mean mg mb h₀) (hk : cs.kind = .function) (hdp : dp + 10 < recursionLimit) (hun : un + 80 < cLine) {pc dpc d : Addr} {hb hc : Int} {tb tc : Tok} {bv : Value}
  (N : News h₀ L s.heap ((pc, instObj 123 dpc) :: (dpc, dictOf [⟨hb, .str "bits" tb, bv⟩, ⟨hc, .str "counts" tc, .ref d⟩] 2) :: nw))
  (hn1 : pc ≠ dpc) (hn2 : ∀ p ∈ nw, p.1 ≠ dpc)
  (hret : ∀ d' o' h' tk', Fr h₀ L h' m → News h₀ L h' ((d', o') :: (pc, instObj 123 dpc) :: (dpc, dictOf [⟨hb, .str "bits" tb, bv⟩, ⟨hc, .str "counts" tc, .ref d'⟩] 2) :: nw) → (d' == sysModules) = false → (∀ sg, CD prog w sg o' []) → (AllLt d' ((pc, instObj 123 dpc) :: (dpc, dictOf [⟨hb, .str "bits" tb, bv⟩, ⟨hc, .str "counts" tc, .ref d⟩] 2) :: nw)) → Q .none { s with heap := h', toks := tk' }) :
  wpAny (model prog w) (ktrTop dp un gd cn cs L a ccd cl outer) (call (.ref 120) [.ref pc]) Q E s := by
  refine wpAny_call ?_
  k_dflt k_enter
  k_steps
  all_goals exact hret _ _ _ _ (by assumption) (by assumption) (by assumption) (fun _ => CD.empty (by assumption)) (by assumption)
theorem clear_u (B : Below A₀ base outer h₀) (F : Fr h₀ L s.heap m) (X : (hd.heap_39 w.params).In h₀) (T : Top p loose mean mg mb h₀) (hk : cs.kind = .function) (hdp : dp + 10 < recursionLimit) (hun : un + 80 < cLine) {pc dpc d : Addr} {hb hc : Int} {tb tc : Tok} {bv : Value} {g : Obj → Ldg}
  (N : News h₀ L s.heap nw) (hm1 : (pc, instObj 123 dpc) ∈ nw) (U : UpdF dpc (dictOf [⟨hb, .str "bits" tb, bv⟩, ⟨hc, .str "counts" tc, .ref d⟩] 2) nw g)
  (hret : ∀ d' o' h' tk', Fr h₀ L h' m → News h₀ L h' ((d', o') :: g (dictOf [⟨hb, .str "bits" tb, bv⟩, ⟨hc, .str "counts" tc, .ref d'⟩] 2)) → (d' == sysModules) = false → (∀ sg, CD prog w sg o' []) → (∀ p ∈ nw, p.1 < d') → Q .none { s with heap := h', toks := tk' }) :
  wpAny (model prog w) (ktrTop dp un gd cn cs L a ccd cl outer) (call (.ref 120) [.ref pc]) Q E s := by
  obtain ⟨rest, s1, s2, s3, s4, hr⟩ := updF_perm U
  have hn : pc ≠ dpc := ne_of_obj N hm1 (s2 _ (.head _)) (by intro e; cases e)
  refine clear_h B F X T hk hdp hun (news_sub N (sub_cons hm1 s2)) hn hr fun d' o' h' tk' F' N' lo C lt => ?_
  refine hret d' o' h' tk' F' (news_sub N' (sub_cons (.head _) fun p hp => .tail _ (.tail _ (s3 _ p hp)))) lo C fun p hp => ?_
  have q := lt_of_allLt lt
  exact q p (.tail _ (s1 p hp))
example : True := by
  k_with "call ref" => ((k_here; (with_reducible show wpAny _ _ (call (Value.ref 120) _) _ _ _); k_dflt (refine' clear_u ?kB ?kF ?kX ?kT ?kK ?kD ?kU ?kN ?m1 ?kP ?_; (case kB => k_asm); (case kF => k_asm); (case kX => k_asm); (case kT => k_asm); (case kK => first | with_reducible assumption | exact rfl | assumption); (case kD => ktr_room); (case kU => ktr_units); (case kN => k_asm); (case m1 => k_mem); (case kP => k_updF); k_whole); intro d' o' h' tk' F' N' lo' C' l1; (try k_lt l1); (try dsimp only at N')))
  k_with "call ref" => ((k_here; (with_reducible show wpAny _ _ (call (Value.ref 177) _) _ _ _); k_dflt (refine' cvalue_c ?kB ?kF ?kX ?kT ?kK ?kD ?kU ?kN ?m1 ?m2 ?m3 ?kR ?kV ?kL ?m4 ?m5 ?m6 ?kS ?kC ?m7 ?kO ?kG ?_; (case kB => k_asm); (case kF => k_asm); (case kX => k_asm); (case kT => k_asm); (case kK => first | with_reducible assumption | exact rfl | assumption); (case kD => ktr_room); (case kU => ktr_units); (case kN => k_asm); (case m1 => k_mem); (case m2 => k_mem); (case m3 => k_mem); (case kR => k_asm); (case kV => first | with_reducible assumption | rfl | assumption); (case kL => k_asm); (case m4 => k_mem); (case m5 => k_mem); (case m6 => k_mem); (case kC => k_asm); (case kS => (repeat (first | exact sub_refl | assumption | exact sub_appl | exact sub_nil | (refine sub_cons ?_ ?_; k_mem) | refine sub_tail ?_ | refine sub_apr ?_))); (case m7 => k_mem); (case kO => (first | assumption | exact strs_key (StrsAre.cons (StrsAre.cons StrsAre.nil)) | exact strs_key (StrsAre.cons (StrsAre.cons (StrsAre.cons StrsAre.nil))))); (case kG => k_asm); k_whole); intro t' h' tk' F' N'))
  exact True.intro
/-! block ctr3 -/
theorem cclear_h (B : Below A₀ base outer h₀) (F : Fr h₀ L s.heap m) (X : (hd.heap_39 w.params).In h₀) (T : Top p loose mean mg mb h₀) (hk : cs.kind = .function) (hdp : dp + 20 < recursionLimit) (hun : un + 160 < cLine) {c dc pd pc dpc d : Addr} {hb hp hb2 hc : Int} {tb tp tb2 tc : Tok} {bv bv2 : Value} {n1 : Nat} {po : Obj} {port : Int} {tk : Tok} {kvs : List (Int × Value)}
  (N : News h₀ L s.heap ((c, instObj 202 dc) :: (dc, dictOf [⟨hb, .str "bits" tb, bv⟩, ⟨hp, .str "ports" tp, .ref pd⟩] n1) :: (pd, po) :: (pc, instObj 123 dpc) :: (dpc, dictOf [⟨hb2, .str "bits" tb2, bv2⟩, ⟨hc, .str "counts" tc, .ref d⟩] 2) :: nw))
  (P : po.IsDictOf (PySem.intKind prog w) kvs) (hv : valueAt kvs port = some (.ref pc)) (lo : (pd == sysModules) = false)
  (hn1 : c ≠ dpc) (hn2 : dc ≠ dpc) (hn3 : pd ≠ dpc) (hn4 : pc ≠ dpc) (hn : ∀ p ∈ nw, p.1 ≠ dpc)
  (hret : ∀ d' o' h' tk', Fr h₀ L h' m → News h₀ L h' ((d', o') :: (c, instObj 202 dc) :: (dc, dictOf [⟨hb, .str "bits" tb, bv⟩, ⟨hp, .str "ports" tp, .ref pd⟩] n1) :: (pd, po) :: (pc, instObj 123 dpc) :: (dpc, dictOf [⟨hb2, .str "bits" tb2, bv2⟩, ⟨hc, .str "counts" tc, .ref d'⟩] 2) :: nw) →
    (d' == sysModules) = false → (∀ sg, CD prog w sg o' []) → (c < d' ∧ dc < d' ∧ pd < d' ∧ pc < d' ∧ dpc < d' ∧ AllLt d' nw) → Q .none { s with heap := h', toks := tk' }) :
  wpAny (model prog w) (ktrTop dp un gd cn cs L a ccd cl outer) (call (.ref 189) [.ref c, .int port tk]) Q E s := by
  refine wpAny_call ?_
  k_dflt k_enter
  k_steps
  all_goals exact hret _ _ _ _ (by assumption) (by assumption) (by assumption) (by assumption) (by assumption)
example : True := by
  k_with "CompX" => ((fail_if_success (k_extra "past ctr3")); (k_dflt (refine' CompX.two ?hh ?hF ?hN ?lo ?ok ?hS ?_; (case hh => rfl); (case hF => k_asm); (case hN => k_asm); (case ok => k_asm); (case lo => k_asm); (case hS => exact Or.inr (by k_mem))); intro g'))
  exact True.intro
theorem total_c (B : Below A₀ base outer h₀) (F : Fr h₀ L s.heap m) (X : (hd.heap_39 w.params).In h₀) (T : Top p loose mean mg mb h₀) (hk : cs.kind = .function) (hdp : dp + 30 < recursionLimit) (hun : un + 260 < cLine) {c dc pd p1 dp1 d1 p2 dp2 d2 ka : Addr} {hb hp hb2 hc hb3 hc3 : Int} {tb tp tb2 tc tb3 tc3 : Tok} {bv bv2 bv3 : Value} {n1 n2 n3 : Nat} {po o1 o2 ko : Obj} {al1 al2 : AL} {k : Key} {sg : Ldg}
  (N : News h₀ L s.heap nw) (hm1 : (c, instObj 202 dc) ∈ nw) (hm2 : (dc, dictOf [⟨hb, .str "bits" tb, bv⟩, ⟨hp, .str "ports" tp, .ref pd⟩] n1) ∈ nw) (hm3 : (pd, po) ∈ nw)
  (P : po.IsDictOf (PySem.intKind prog w) [(1, .ref p1), (2, .ref p2)]) (lo : (pd == sysModules) = false)
  (hm4 : (p1, instObj 123 dp1) ∈ nw) (hm5 : (dp1, dictOf [⟨hb2, .str "bits" tb2, bv2⟩, ⟨hc, .str "counts" tc, .ref d1⟩] n2) ∈ nw) (hm6 : (d1, o1) ∈ nw)
  (hm7 : (p2, instObj 123 dp2) ∈ nw) (hm8 : (dp2, dictOf [⟨hb3, .str "bits" tb3, bv3⟩, ⟨hc3, .str "counts" tc3, .ref d2⟩] n3) ∈ nw) (hm9 : (d2, o2) ∈ nw)
  (S : ∀ p ∈ sg, p ∈ nw) (C1 : CD prog w sg o1 al1) (C2 : CD prog w sg o2 al2) (lo1 : (d1 == sysModules) = false) (lo2 : (d2 == sysModules) = false) (hkm : (ka, ko) ∈ nw) (hko : KeyO ko k)
  (hret : ∀ t h' tk', Fr h₀ L h' m → News h₀ L h' nw → Q (.int (look al1 k + look al2 k) t) { s with heap := h', toks := tk' }) :
  wpAny (model prog w) (ktrTop dp un gd cn cs L a ccd cl outer) (call (.ref 182) [.ref c, .ref ka]) Q E s := by
  obtain ⟨t1, t2, ep, hAD⟩ := dict2 P
  have hAD := fun h => hAD h pd
  refine wpAny_call ?_
  k_dflt k_enter
  k_steps
  all_goals (rw [Int.add_zero]; exact hret _ _ _ (by assumption) (news_sub (by assumption) (by (repeat (first | exact sub_refl | assumption | exact sub_appl | exact sub_nil | (refine sub_cons ?_ ?_; k_mem) | refine sub_tail ?_ | refine sub_apr ?_)))))
example : True := by
  k_with "past ctr3" => (skip)
  exact True.intro
example : True := by
  k_with "call ref" => ((k_here; (with_reducible show wpAny _ _ (call (Value.ref 182) _) _ _ _); k_dflt (refine' total_c ?kB ?kF ?kX ?kT ?kK ?kD ?kU ?kN ?m1 ?m2 ?m3 ?kR ?kL ?m4 ?m5 ?m6 ?m7 ?m8 ?m9 ?kS ?kC ?kC2 ?kG ?kH ?mK ?kO ?_; (case kB => k_asm); (case kF => k_asm); (case kX => k_asm); (case kT => k_asm); (case kK => first | with_reducible assumption | exact rfl | assumption); (case kD => ktr_room); (case kU => ktr_units); (case kN => k_asm); (case m1 => k_mem); (case m2 => k_mem); (case m3 => k_mem); (case kR => k_asm); (case kL => k_asm); (case m4 => k_mem); (case m5 => k_mem); (case m6 => k_mem); (case m7 => k_mem); (case m8 => k_mem); (case m9 => k_mem); (case kC => k_asm); (case kC2 => k_asm); (case kS => (repeat (first | exact sub_refl | assumption | exact sub_appl | exact sub_nil | (refine sub_cons ?_ ?_; k_mem) | refine sub_tail ?_ | refine sub_apr ?_))); (case mK => k_mem); (case kO => (first | assumption | exact strs_key (StrsAre.cons (StrsAre.cons StrsAre.nil)) | exact strs_key (StrsAre.cons (StrsAre.cons (StrsAre.cons StrsAre.nil))))); (case kG => k_asm); (case kH => k_asm); k_whole); intro t' h' tk' F' N'))
  exact True.intro
/-! block adds -/
example : True := by
  k_with "call ref" => ((fail_if_success (k_extra "past adds")); (k_here; (with_reducible show wpAny _ _ (call (Value.ref 113) _) _ _ _); k_dflt (refine' value_c ?kB ?kF ?kX ?kT ?kK ?kD ?kU ?kN ?m1 ?m2 ?m3 ?kS ?kC ?m4 ?kO ?kL ?_; (case kB => k_asm); (case kF => k_asm); (case kX => k_asm); (case kT => k_asm); (case kK => first | with_reducible assumption | exact rfl | assumption); (case kD => ktr_room); (case kU => ktr_units); (case kN => k_asm); (case m1 => k_mem); (case m2 => k_mem); (case m3 => k_mem); (case kC => k_asm); (case kS => (repeat (first | exact sub_refl | assumption | exact sub_appl | exact sub_nil | (refine sub_cons ?_ ?_; k_mem) | refine sub_tail ?_ | refine sub_apr ?_))); (case m4 => k_mem); (case kO => (first | assumption | exact strs_key (StrsAre.cons (StrsAre.cons StrsAre.nil)) | exact strs_key (StrsAre.cons (StrsAre.cons (StrsAre.cons StrsAre.nil))))); (case kL => k_asm); k_whole); intro t' h' tk' F' N'; (replace N' := news_sub N' sub_tail'); (try dsimp only at N')))
  exact True.intro
example : True := by
  k_with "CompX" => ((fail_if_success (k_extra "past adds")); (k_dflt (refine' CompX.tup ?hh ?hF ?hN ?hX ?hr ?hn ?sz ?_; (case hh => rfl); (case hF => k_asm); (case hN => k_asm); (case hX => k_asm); (case hr => k_is); (case hn => first | (show _ = 3; rfl) | (show _ = 7; rfl)); (case sz => decide)); intro g'))
  exact True.intro
theorem adds_c (B : Below A₀ base outer h₀) (F : Fr h₀ L s.heap m) (X : (hd.heap_39 w.params).In h₀) (T : Top p loose mean mg mb h₀) (hk : cs.kind = .function) (hdp : dp + 30 < recursionLimit) (hun : un + 260 < cLine) {c dc pd pc dpc d : Addr} {hb hp hb2 hc : Int} {tb tp tb2 tc tkb tkc : Tok} {b : Int} {n1 n2 : Nat} {po o : Obj} {port : Int} {tk tw : Tok} {way : Str} {kvs : List (Int × Value)} {al : AL} {sg : Ldg} {rows : List Row}
  (N : News h₀ L s.heap nw) (hm1 : (c, instObj 202 dc) ∈ nw) (hm2 : (dc, dictOf [⟨hb, .str "bits" tb, .int b tkc⟩, ⟨hp, .str "ports" tp, .ref pd⟩] n1) ∈ nw) (hm3 : (pd, po) ∈ nw)
  (P : po.IsDictOf (PySem.intKind prog w) kvs) (hv : valueAt kvs port = some (.ref pc)) (lo : (pd == sysModules) = false)
  (hm4 : (pc, instObj 123 dpc) ∈ nw) (hm5 : (dpc, dictOf [⟨hb2, .str "bits" tb2, .int b tkb⟩, ⟨hc, .str "counts" tc, .ref d⟩] n2) ∈ nw) (hm6 : (d, o) ∈ nw)
  (S : ∀ p ∈ sg, p ∈ nw) (C : CD prog w sg o al) (lo2 : (d == sysModules) = false) (hb0 : 0 ≤ b) (hb1 : b ≤ 32) (hal : al = counts (2 ^ b.toNat) rows)
  (hret : ∀ h' tk', Fr h₀ L h' m → News h₀ L h' nw → Q (.bool true) { s with heap := h', toks := tk' }) :
  wpAny (model prog w) (ktrTop dp un gd cn cs L a ccd cl outer) (call (.ref 199) [.ref c, .int port tk, .str way tw]) Q E s := by
  refine wpAny_call ?_
  k_dflt k_enter
  k_steps
  all_goals (subst hal; (first | rw [sizes_add] | rw [sorts_add]); exact hret _ _ (by assumption) (news_sub (by assumption) (by (repeat (first | exact sub_refl | assumption | exact sub_appl | exact sub_nil | (refine sub_cons ?_ ?_; k_mem) | refine sub_tail ?_ | refine sub_apr ?_)))))
example : True := by
  k_with "past adds" => (skip)
  exact True.intro
example : True := by
  k_with "call ref" => ((k_here; (with_reducible show wpAny _ _ (call (Value.ref 199) _) _ _ _); k_dflt (refine' adds_c ?kB ?kF ?kX ?kT ?kK ?kD ?kU ?kN ?m1 ?m2 ?m3 ?kR ?kV ?kL ?m4 ?m5 ?m6 ?kS ?kC ?kG ?b0 ?b1 ?kA ?_; (case kB => k_asm); (case kF => k_asm); (case kX => k_asm); (case kT => k_asm); (case kK => first | with_reducible assumption | exact rfl | assumption); (case kD => ktr_room); (case kU => ktr_units); (case kN => k_asm); (case m1 => k_mem); (case m2 => k_mem); (case m3 => k_mem); (case kR => k_asm); (case kV => first | with_reducible assumption | rfl | assumption); (case kL => k_asm); (case m4 => k_mem); (case m5 => k_mem); (case m6 => k_mem); (case kC => k_asm); (case kS => (repeat (first | exact sub_refl | assumption | exact sub_appl | exact sub_nil | (refine sub_cons ?_ ?_; k_mem) | refine sub_tail ?_ | refine sub_apr ?_))); (case kG => k_asm); (case b0 => k_asm); (case b1 => k_asm); (case kA => first | rfl | assumption); k_whole); intro h' tk' F' N'))
  exact True.intro
/-! block told -/
example : True := by
  k_with "eval ListComp" => ((fail_if_success (k_extra "past told")); (k_here; k_dflt (refine ListComp_XT (F₀ := by k_asm) (by with_unfolding_all rfl) (by decide) (by rfl) (by decide) (by rfl) ?_)))
  exact True.intro
example : True := by
  k_with "call builtin:sorted" => ((fail_if_success (k_extra "past told")); (k_here; (with_reducible show wpAny _ _ (call (Value.builtin "sorted") [Value.ref _]) _ _ _); k_dflt (refine' cd_sorted ?kH ?kF ?kN ?kS ?kM ?kC ?kL ?k6 ?k1 ?kE ?_; (case kH => rfl); (case kF => k_asm); (case kN => k_asm); (case kC => k_asm); (case kS => (repeat (first | exact sub_refl | assumption | exact sub_appl | exact sub_nil | (refine sub_cons ?_ ?_; k_mem) | refine sub_tail ?_ | refine sub_apr ?_))); (case kM => k_mem); (case kL => k_asm); (case k6 => k_asm); (case k1 => k_asm); (case kE => k_asm)); intro D' vs' c' h' tk' F' N' l1 H'; (try k_lt l1)))
  exact True.intro
example : True := by
  k_with "CompX" => ((fail_if_success (k_extra "past told")); (refine stopHere ?_))
  exact True.intro
example : True := by
  k_with "subscriptTail" => ((fail_if_success (k_extra "past told")); (k_here; (with_reducible show wpAny _ _ (subscriptTail _ _ (Value.ref _) (Value.ref _)) _ _ _); k_dflt (refine' cd_item ?kU ?kN ?kS ?kM ?kC ?kK ?kO ?kI ?_; (case kN => k_asm); (case kC => k_asm); (case kU => ktr_units); (case kS => (repeat (first | exact sub_refl | assumption | exact sub_appl | exact sub_nil | (refine sub_cons ?_ ?_; k_mem) | refine sub_tail ?_ | refine sub_apr ?_))); (case kM => k_mem); (case kO => k_asm); (case kK => k_mem); (case kI => k_asm); k_whole); intro t' n'))
  exact True.intro
theorem told_c (B : Below A₀ base outer h₀) (F : Fr h₀ L s.heap m) (X : (hd.heap_39 w.params).In h₀) (T : Top p loose mean mg mb h₀) (hk : cs.kind = .function) (hdp : dp + 30 < recursionLimit) (hun : un + 260 < cLine) {c dc pd pc dpc d : Addr} {hb hp hb2 hc : Int} {tb tp tb2 tc : Tok} {bv bv2 : Value} {n1 n2 : Nat} {po o : Obj} {port : Int} {tk : Tok} {kvs : List (Int × Value)} {al : AL} {sg : Ldg}
  (N : News h₀ L s.heap nw) (hm1 : (c, instObj 202 dc) ∈ nw) (hm2 : (dc, dictOf [⟨hb, .str "bits" tb, bv⟩, ⟨hp, .str "ports" tp, .ref pd⟩] n1) ∈ nw) (hm3 : (pd, po) ∈ nw)
  (P : po.IsDictOf (PySem.intKind prog w) kvs) (hv : valueAt kvs port = some (.ref pc)) (lo : (pd == sysModules) = false)
  (hm4 : (pc, instObj 123 dpc) ∈ nw) (hm5 : (dpc, dictOf [⟨hb2, .str "bits" tb2, bv2⟩, ⟨hc, .str "counts" tc, .ref d⟩] n2) ∈ nw) (hm6 : (d, o) ∈ nw)
  (S : ∀ p ∈ sg, p ∈ nw) (C : CD prog w sg o al) (lo2 : (d == sysModules) = false) (h64 : al.length < 64) (hl1 : al.length ≠ 1) (hne : ∀ x ∈ al, x.1 ≠ [])
  (hret : ∀ D ys n ext h' tk', Fr h₀ L h' m → News h₀ L h' ((D, listOf (List.toArray ys) n) :: (ext ++ nw)) → Tups ext → DatAll (ext ++ sg) ys (told_ al) → Q (.ref D) { s with heap := h', toks := tk' }) :
  wpAny (model prog w) (ktrTop dp un gd cn cs L a ccd cl outer) (call (.ref 194) [.ref c, .int port tk]) Q E s := by
  refine wpAny_call ?_
  k_dflt k_enter
  k_steps
  (skip; have l1 := True.intro; have H' := True.intro; have N' := True.intro; have F' := True.intro; have tk' := True.intro; have h' := True.intro; have c' := True.intro; have vs' := True.intro; have D' := True.intro; have T' := True.intro; have X' := True.intro; have B' := True.intro; have FG' := True.intro; have L' := True.intro; have g' := True.intro)
  rename_i D vs c1 h1 tk1 F1 N1 H1 l1
  clear l1 H' N' F' tk' h' c' vs' D' T' X' B' FG' L' g'
  unfold Stopped
  have hlen : vs.length = al.length := by rw [H1.length, sorted_length]; simp
  refine CompX.lst (n := vs.length) rfl F1 N1 (.head _) rfl (by rw [hlen, sizeLine_eq]; omega) ?_
  intro g'
  refine restT_inv (ToldJ al (sortedKeys (al.map (·.1))) sg _) toldJ_zero ?_ ?_
  · intro i ys nws v I oI C2 oC D2 m2 h2 tk2 E' hi hJ hv hC hx F2 N2 off ne
    obtain ⟨ext, rfl, hT, hD⟩ := hJ
    obtain ⟨hik, ka, ko, rfl, hmk, hko⟩ := H1.at (.inr hv)
    have hin := has_of_mem (sorted_mem i hik)
    have S2 := led_sub off S
    have hcell := led_b off
    have hsx := led_a off
    have hdm := led_l off hm6
    have hkm := S2 _ hmk
    k_steps
    all_goals first | exact toldJ_more hT hD hik hmk hko (by first | assumption | omega | simp_all) | exact toldJ_skip hT hD hik (by first | assumption | omega | simp_all)
  · intro ys nws hJ
    obtain ⟨ext, rfl, hT, hD⟩ := hJ
    rw [hlen, show al.length = (sortedKeys (al.map (·.1))).length by rw [sorted_length]; simp, List.take_length] at hD
    k_steps
    all_goals exact hret _ ys ys.length ext _ _ (by assumption) (news_sub (by assumption) (sub_cons (.head _) fun p hp => .tail _ ((List.mem_append.mp hp).elim (List.mem_append_left _) fun q => List.mem_append_right _ (.tail _ (.tail _ q))))) hT hD
example : True := by
  k_with "past told" => (skip)
  exact True.intro
example : True := by
  k_with "call ref" => ((k_here; (with_reducible show wpAny _ _ (call (Value.ref 194) _) _ _ _); k_dflt (refine' told_c ?kB ?kF ?kX ?kT ?kK ?kD ?kU ?kN ?m1 ?m2 ?m3 ?kR ?kV ?kL ?m4 ?m5 ?m6 ?kS ?kC ?kG ?h64 ?hl1 ?hne ?_; (case kB => k_asm); (case kF => k_asm); (case kX => k_asm); (case kT => k_asm); (case kK => first | with_reducible assumption | exact rfl | assumption); (case kD => ktr_room); (case kU => ktr_units); (case kN => k_asm); (case m1 => k_mem); (case m2 => k_mem); (case m3 => k_mem); (case kR => k_asm); (case kV => first | with_reducible assumption | rfl | assumption); (case kL => k_asm); (case m4 => k_mem); (case m5 => k_mem); (case m6 => k_mem); (case kC => k_asm); (case kS => (repeat (first | exact sub_refl | assumption | exact sub_appl | exact sub_nil | (refine sub_cons ?_ ?_; k_mem) | refine sub_tail ?_ | refine sub_apr ?_))); (case kG => k_asm); (case h64 => k_asm); (case hl1 => k_asm); (case hne => k_asm); k_whole); intro D' ys' n' ext' h' tk' F' N' hT' hD'))
  exact True.intro
/-! block take -/
example : True := by
  k_with "subscriptTail Name Constant ref int" => ((fail_if_success (k_extra "past take")); (k_here; (with_reducible show wpAny _ _ (subscriptTail _ _ (Value.ref _) (Value.int _ _)) _ _ _); k_dflt (refine' li_item ?kN ?kM ?k0 ?k1 ?kX ?_; (case kN => k_asm); (case kM => k_mem); (case k0 => decide); (case k1 => decide); (case kX => exact rfl))))
  exact True.intro
example : True := by
  k_with "binaryOp FloorDiv int int" => ((fail_if_success (k_extra "past take")); (k_here; (with_reducible refine floordiv_int ?kbe ?_ (Or.inl (PyProof.noPylong_of_log2 (log2_small ?k1 ?k2)))); (case kbe => omega); (case k1 => omega); (case k2 => omega)))
  exact True.intro
theorem take_h (B : Below A₀ base outer h₀) (F : Fr h₀ L s.heap m) (X : (hd.heap_39 w.params).In h₀) (T : Top p loose mean mg mb h₀) (hk : cs.kind = .function) (hdp : dp + 10 < recursionLimit) (hun : un + 80 < cLine) {src : Addr} {x y top : Int} {ta tb tt : Tok} {n : Nat}
  (N : News h₀ L s.heap ((src, listOf (List.toArray [Value.int x ta, Value.int y tb]) n) :: nw)) (hn : ∀ p ∈ nw, p.1 ≠ src)
  (ha : 0 ≤ x) (hb : 0 ≤ y) (hb' : y < 2147483647) (ht : 1 ≤ top) (ht' : top ≤ 4294967296)
  (hret : ∀ r t x' y' ta' tb' n' h' tk', Fr h₀ L h' m → News h₀ L h' ((src, listOf (List.toArray [Value.int x' ta', Value.int y' tb']) n') :: nw) → 0 ≤ r → r < top → 0 ≤ x' → 0 ≤ y' → y' < 2147483647 → Q (.int r t) { s with heap := h', toks := tk' }) :
  wpAny (model prog w) (ktrTop dp un gd cn cs L a ccd cl outer) (call (.ref 220) [.ref src, .int top tt]) Q E s := by
  refine wpAny_call ?_
  k_dflt k_enter
  k_steps
  · exact hret _ _ _ _ _ _ _ _ _ (by assumption) (by assumption) (Int.fmod_nonneg_of_pos _ (by omega)) (Int.fmod_lt_of_pos _ (by omega)) (Int.fdiv_nonneg ha (by omega)) hb hb'
  · exact hret _ _ _ _ _ _ _ _ _ (by assumption) (by assumption) (Int.fmod_nonneg_of_pos _ (by omega)) (Int.fmod_lt_of_pos _ (by omega)) ha (Int.fmod_nonneg_of_pos _ (by omega)) (Int.fmod_lt_of_pos _ (by omega))
theorem take_u (B : Below A₀ base outer h₀) (F : Fr h₀ L s.heap m) (X : (hd.heap_39 w.params).In h₀) (T : Top p loose mean mg mb h₀) (hk : cs.kind = .function) (hdp : dp + 10 < recursionLimit) (hun : un + 80 < cLine) {src : Addr} {x y top : Int} {ta tb tt : Tok} {n : Nat} {g : Obj → Ldg}
  (N : News h₀ L s.heap nw) (U : UpdF src (listOf (List.toArray [Value.int x ta, Value.int y tb]) n) nw g)
  (ha : 0 ≤ x) (hb : 0 ≤ y) (hb' : y < 2147483647) (ht : 1 ≤ top) (ht' : top ≤ 4294967296)
  (hret : ∀ r t x' y' ta' tb' n' h' tk', Fr h₀ L h' m → News h₀ L h' (g (listOf (List.toArray [Value.int x' ta', Value.int y' tb']) n')) → 0 ≤ r → r < top → 0 ≤ x' → 0 ≤ y' → y' < 2147483647 → Q (.int r t) { s with heap := h', toks := tk' }) :
  wpAny (model prog w) (ktrTop dp un gd cn cs L a ccd cl outer) (call (.ref 220) [.ref src, .int top tt]) Q E s := by
  obtain ⟨rest, s1, s2, s3, s4, hr⟩ := updF_perm U
  exact take_h B F X T hk hdp hun (news_sub N s2) hr ha hb hb' ht ht' fun r t x' y' ta' tb' n' h' tk' F' N' a1 a2 a3 a4 a5 => hret r t x' y' ta' tb' n' h' tk' F' (news_sub N' (s3 _)) a1 a2 a3 a4 a5
example : True := by
  k_with "past take" => (skip)
  exact True.intro
example : True := by
  k_with "call ref" => ((k_here; (with_reducible show wpAny _ _ (call (Value.ref 220) _) _ _ _); k_dflt (refine' take_u ?kB ?kF ?kX ?kT ?kK ?kD ?kU ?kN ?kP ?h0 ?h1 ?h2 ?h3 ?h4 ?_; (case kB => k_asm); (case kF => k_asm); (case kX => k_asm); (case kT => k_asm); (case kK => first | with_reducible assumption | exact rfl | assumption); (case kD => ktr_room); (case kU => ktr_units); (case kN => k_asm); (case kP => k_updF); (case h0 => first | assumption | omega); (case h1 => first | assumption | omega); (case h2 => first | assumption | omega); (case h3 => first | assumption | omega | decide); (case h4 => first | assumption | omega | decide); k_whole); intro r' t' x' y' ta' tb' n' h' tk' F' N' r0 r1 x0 y0 y1; (try dsimp only at N')))
  exact True.intro
/-! block one -/
example : True := by
  k_with "call builtin:len" => ((fail_if_success (k_extra "past one")); (k_here; (with_reducible show wpAny _ _ (call (Value.builtin "len") [Value.ref _]) _ _ _); k_dflt (refine' li_len ?kN ?kM ?kV ?_; (case kN => k_asm); (case kM => k_mem); (case kV => k_asm))))
  exact True.intro
example : True := by
  k_with "subscriptTail" => ((fail_if_success (k_extra "past one")); (k_here; (with_reducible show wpAny _ _ (subscriptTail _ _ (Value.ref _) (Value.int _ _)) _ _ _); k_dflt (refine' li_any ?kN ?kM ?k0 ?k1 ?k2 ?_; (case kN => k_asm); (case kM => k_mem); (case k0 => k_asm); (case k1 => k_asm); (case k2 => omega)); intro v' hv'))
  exact True.intro
theorem one_h (B : Below A₀ base outer h₀) (F : Fr h₀ L s.heap m) (X : (hd.heap_39 w.params).In h₀) (T : Top p loose mean mg mb h₀) (hk : cs.kind = .function) (hdp : dp + 20 < recursionLimit) (hun : un + 160 < cLine) {src l : Addr} {x y : Int} {ta tb : Tok} {n n2 : Nat} {vs : List Value}
  (N : News h₀ L s.heap ((src, listOf (List.toArray [Value.int x ta, Value.int y tb]) n) :: (l, listOf (List.toArray vs) n2) :: nw)) (hn : ∀ p ∈ nw, p.1 ≠ src) (hls : l ≠ src)
  (ha : 0 ≤ x) (hb : 0 ≤ y) (hb' : y < 2147483647) (hv : 1 ≤ vs.length) (hv' : vs.length ≤ 64)
  (hret : ∀ v x' y' ta' tb' n' h' tk', v ∈ vs → Fr h₀ L h' m → News h₀ L h' ((src, listOf (List.toArray [Value.int x' ta', Value.int y' tb']) n') :: (l, listOf (List.toArray vs) n2) :: nw) → 0 ≤ x' → 0 ≤ y' → y' < 2147483647 → Q v { s with heap := h', toks := tk' }) :
  wpAny (model prog w) (ktrTop dp un gd cn cs L a ccd cl outer) (call (.ref 227) [.ref src, .ref l]) Q E s := by
  refine wpAny_call ?_
  k_dflt k_enter
  k_steps
  all_goals exact hret _ _ _ _ _ _ _ _ (by assumption) (by assumption) (by assumption) (by assumption) (by assumption) (by assumption)
theorem one_str (B : Below A₀ base outer h₀) (F : Fr h₀ L s.heap m) (X : (hd.heap_39 w.params).In h₀) (T : Top p loose mean mg mb h₀) (hk : cs.kind = .function) (hdp : dp + 20 < recursionLimit) (hun : un + 160 < cLine) {src l : Addr} {x y : Int} {ta tb : Tok} {n n2 : Nat} {vs : List Value} {xs : List Str} {g : Obj → Ldg}
  (N : News h₀ L s.heap nw) (U : UpdF src (listOf (List.toArray [Value.int x ta, Value.int y tb]) n) nw g) (hm : (l, listOf (List.toArray vs) n2) ∈ nw) (hls : l ≠ src)
  (ha : 0 ≤ x) (hb : 0 ≤ y) (hb' : y < 2147483647) (H : StrsAre vs xs) (hv : 1 ≤ xs.length) (hv' : xs.length ≤ 64) (hok : ∀ x ∈ xs, PyData.strOk x = true)
  (hret : ∀ z t x' y' ta' tb' n' h' tk', PyData.strOk z = true → Fr h₀ L h' m → News h₀ L h' (g (listOf (List.toArray [Value.int x' ta', Value.int y' tb']) n')) → 0 ≤ x' → 0 ≤ y' → y' < 2147483647 → Q (.str z t) { s with heap := h', toks := tk' }) :
  wpAny (model prog w) (ktrTop dp un gd cn cs L a ccd cl outer) (call (.ref 227) [.ref src, .ref l]) Q E s := by
  obtain ⟨rest, s1, s2, s3, s4, hr⟩ := updF_perm U
  have hl : (l, listOf (List.toArray vs) n2) ∈ rest := by
    rcases List.mem_cons.mp (s1 _ hm) with e | e
    · exact absurd (congrArg Prod.fst e) hls
    · exact e
  have hlen := H.length
  refine one_h (vs := vs) (l := l) (n2 := n2) (nw := rest) B F X T hk hdp hun (news_sub N (sub_cons (s2 _ (.head _)) (sub_cons hm fun p hp => s2 p (.tail _ hp)))) hr hls ha hb hb' (by omega) (by omega) fun v x' y' ta' tb' n' h' tk' hv F' N' a1 a2 a3 => ?_
  obtain ⟨z, t, rfl, hz⟩ := H.mem v hv
  exact hret z t x' y' ta' tb' n' h' tk' (hok z hz) F' (news_sub N' fun p hp => by
    rcases List.mem_cons.mp (s3 _ p hp) with h | h
    · exact h ▸ .head _
    · exact .tail _ (.tail _ h)) a1 a2 a3
theorem one_int (B : Below A₀ base outer h₀) (F : Fr h₀ L s.heap m) (X : (hd.heap_39 w.params).In h₀) (T : Top p loose mean mg mb h₀) (hk : cs.kind = .function) (hdp : dp + 20 < recursionLimit) (hun : un + 160 < cLine) {src l : Addr} {x y : Int} {ta tb : Tok} {n n2 : Nat} {vs : List Value} {ns : List Int} (hi : Int) {g : Obj → Ldg}
  (N : News h₀ L s.heap nw) (U : UpdF src (listOf (List.toArray [Value.int x ta, Value.int y tb]) n) nw g) (hm : (l, listOf (List.toArray vs) n2) ∈ nw) (hls : l ≠ src)
  (ha : 0 ≤ x) (hb : 0 ≤ y) (hb' : y < 2147483647) (H : IntsAre vs ns) (hv : 1 ≤ ns.length) (hv' : ns.length ≤ 64) (hok : ∀ i ∈ ns, 0 ≤ i ∧ i ≤ hi)
  (hret : ∀ z t x' y' ta' tb' n' h' tk', 0 ≤ z → z ≤ hi → Fr h₀ L h' m → News h₀ L h' (g (listOf (List.toArray [Value.int x' ta', Value.int y' tb']) n')) → 0 ≤ x' → 0 ≤ y' → y' < 2147483647 → Q (.int z t) { s with heap := h', toks := tk' }) :
  wpAny (model prog w) (ktrTop dp un gd cn cs L a ccd cl outer) (call (.ref 227) [.ref src, .ref l]) Q E s := by
  obtain ⟨rest, s1, s2, s3, s4, hr⟩ := updF_perm U
  have hl : (l, listOf (List.toArray vs) n2) ∈ rest := by
    rcases List.mem_cons.mp (s1 _ hm) with e | e
    · exact absurd (congrArg Prod.fst e) hls
    · exact e
  have hlen := H.length
  refine one_h (vs := vs) (l := l) (n2 := n2) (nw := rest) B F X T hk hdp hun (news_sub N (sub_cons (s2 _ (.head _)) (sub_cons hm fun p hp => s2 p (.tail _ hp)))) hr hls ha hb hb' (by omega) (by omega) fun v x' y' ta' tb' n' h' tk' hv F' N' a1 a2 a3 => ?_
  obtain ⟨z, t, rfl, hz⟩ := intsAre_mem H v hv
  exact hret z t x' y' ta' tb' n' h' tk' (hok z hz).1 (hok z hz).2 F' (news_sub N' fun p hp => by
    rcases List.mem_cons.mp (s3 _ p hp) with h | h
    · exact h ▸ .head _
    · exact .tail _ (.tail _ h)) a1 a2 a3
example : True := by
  k_with "past one" => (skip)
  exact True.intro
example : True := by
  k_with "call ref" => ((k_here; (with_reducible show wpAny _ _ (call (Value.ref 227) _) _ _ _); k_dflt (refine' one_str ?kB ?kF ?kX ?kT ?kK ?kD ?kU ?kN ?kP ?kM ?kS ?h0 ?h1 ?h2 ?kA ?k1 ?k2 ?k3 ?_; (case kB => k_asm); (case kF => k_asm); (case kX => k_asm); (case kT => k_asm); (case kK => first | with_reducible assumption | exact rfl | assumption); (case kD => ktr_room); (case kU => ktr_units); (case kN => k_asm); (case kP => k_updF); (case kM => k_mem); (case kS => k_ne); (case h0 => k_asm); (case h1 => k_asm); (case h2 => k_asm); (case kA => repeat (first | exact StrsAre.nil | apply StrsAre.cons)); (case k1 => exact Nat.le_of_ble_eq_true rfl); (case k2 => exact Nat.le_of_ble_eq_true rfl); (case k3 => decide +kernel); k_whole); intro z' t' x' y' ta' tb' n' h' tk' ok' F' N' x0 y0 y1; (try dsimp only at N')))
  k_with "call ref" => ((k_here; (with_reducible show wpAny _ _ (call (Value.ref 227) _) _ _ _); k_dflt ((first | refine' one_int (hi := 32) ?kB ?kF ?kX ?kT ?kK ?kD ?kU ?kN ?kP ?kM ?kS ?h0 ?h1 ?h2 ?kA ?k1 ?k2 ?k3 ?_; (case kB => k_asm); (case kF => k_asm); (case kX => k_asm); (case kT => k_asm); (case kK => first | with_reducible assumption | exact rfl | assumption); (case kD => ktr_room); (case kU => ktr_units); (case kN => k_asm); (case kP => k_updF); (case kM => k_mem); (case kS => k_ne); (case h0 => k_asm); (case h1 => k_asm); (case h2 => k_asm); (case kA => repeat (first | exact IntsAre.nil | apply IntsAre.cons)); (case k1 => exact Nat.le_of_ble_eq_true rfl); (case k2 => exact Nat.le_of_ble_eq_true rfl); (case k3 => intro i9 hi9; simp only [List.mem_cons, List.not_mem_nil, or_false] at hi9; omega) | refine' one_int (hi := 1000000) ?kB ?kF ?kX ?kT ?kK ?kD ?kU ?kN ?kP ?kM ?kS ?h0 ?h1 ?h2 ?kA ?k1 ?k2 ?k3 ?_; (case kB => k_asm); (case kF => k_asm); (case kX => k_asm); (case kT => k_asm); (case kK => first | with_reducible assumption | exact rfl | assumption); (case kD => ktr_room); (case kU => ktr_units); (case kN => k_asm); (case kP => k_updF); (case kM => k_mem); (case kS => k_ne); (case h0 => k_asm); (case h1 => k_asm); (case h2 => k_asm); (case kA => repeat (first | exact IntsAre.nil | apply IntsAre.cons)); (case k1 => exact Nat.le_of_ble_eq_true rfl); (case k2 => exact Nat.le_of_ble_eq_true rfl); (case k3 => intro i9 hi9; simp only [List.mem_cons, List.not_mem_nil, or_false] at hi9; omega) | refine' one_int (hi := 281474976710655) ?kB ?kF ?kX ?kT ?kK ?kD ?kU ?kN ?kP ?kM ?kS ?h0 ?h1 ?h2 ?kA ?k1 ?k2 ?k3 ?_; (case kB => k_asm); (case kF => k_asm); (case kX => k_asm); (case kT => k_asm); (case kK => first | with_reducible assumption | exact rfl | assumption); (case kD => ktr_room); (case kU => ktr_units); (case kN => k_asm); (case kP => k_updF); (case kM => k_mem); (case kS => k_ne); (case h0 => k_asm); (case h1 => k_asm); (case h2 => k_asm); (case kA => repeat (first | exact IntsAre.nil | apply IntsAre.cons)); (case k1 => exact Nat.le_of_ble_eq_true rfl); (case k2 => exact Nat.le_of_ble_eq_true rfl); (case k3 => intro i9 hi9; simp only [List.mem_cons, List.not_mem_nil, or_false, show Int.toNat 48 = 48 from rfl] at hi9; omega)); k_whole); intro z' t' x' y' ta' tb' n' h' tk' z0 z1 F' N' x0 y0 y1; (try dsimp only at N')))
  exact True.intro
/-! block pool -/
theorem pool_c (B : Below A₀ base outer h₀) (F : Fr h₀ L s.heap m) (X : (hd.heap_39 w.params).In h₀) (T : Top p loose mean mg mb h₀) (hk : cs.kind = .function) (hdp : dp + 10 < recursionLimit) (hun : un + 80 < cLine) {sc : Addr} {vs : List Value} {ns : List Int} {k : Int} {tk : Tok}
  (N : News h₀ L s.heap nw) (hl : base.IsList sc vs.toArray) (hi : IntsAre vs ns) (hlen : ns.length ≤ 63) (hk0 : 0 ≤ k) (hk1 : k ≤ 1)
  (hret : ∀ src x y ta tb n h' tk', 0 ≤ x → 0 ≤ y → y < 2147483647 → Fr h₀ L h' m → News h₀ L h' ((src, listOf (List.toArray [Value.int x ta, Value.int y tb]) n) :: nw) → (∀ p ∈ nw, p.1 < src) → Q (.ref src) { s with heap := h', toks := tk' }) :
  wpAny (model prog w) (ktrTop dp un gd cn cs L a ccd cl outer) (call (.ref 213) [.ref sc, .int k tk]) Q E s := by
  have hk2 : k = 0 ∨ k = 1 := by omega
  refine wpAny_call ?_
  k_dflt k_enter
  k_steps
  all_goals exact hret _ _ _ _ _ _ _ _ (pool_nonneg _ _) (Int.fmod_nonneg_of_pos _ (by omega)) (Int.fmod_lt_of_pos _ (by omega)) (by assumption) (by assumption) (by assumption)
example : True := by
  k_with "call ref" => ((k_here; (with_reducible show wpAny _ _ (call (Value.ref 213) _) _ _ _); k_dflt (refine' pool_c ?kB ?kF ?kX ?kT ?kK ?kD ?kU ?kN ?kH ?kI ?kZ ?k0 ?k1 ?_; (case kB => k_asm); (case kF => k_asm); (case kX => k_asm); (case kT => k_asm); (case kK => first | with_reducible assumption | exact rfl | assumption); (case kD => ktr_room); (case kU => ktr_units); (case kN => k_asm); (case kH => k_asm); (case kI => k_asm); (case kZ => k_asm); (case k0 => omega); (case k1 => omega); k_whole); intro src' x' y' ta' tb' n' h' tk' x0 y0 y1 F' N' l1; (try k_lt l1)))
  exact True.intro
/-! block lawa -/
theorem lsort_c (B : Below A₀ base outer h₀) (F : Fr h₀ L s.heap m) (X : (hd.heap_39 w.params).In h₀) (T : Top p loose mean mg mb h₀) (hk : cs.kind = .function) (hdp : dp + 10 < recursionLimit) (hun : un + 80 < cLine) (N : News h₀ L s.heap nw) {x : Int} {tx : Tok} (h0 : 0 ≤ x) (h1 : x < 2 ^ 60)
  (hret : ∀ t h' tk', Fr h₀ L h' m → News h₀ L h' nw → Q (.str (sortS x) t) { s with heap := h', toks := tk' }) :
  wpAny (model prog w) (ktrTop dp un gd cn cs L a ccd cl outer) (call (.ref 246) [.int x tx]) Q E s := by
  refine wpAny_call ?_
  k_dflt k_enter
  k_steps
  all_goals (refine cb_retS hret ?_ (by assumption) (by assumption); rw [sortS_law]; simp_all)
theorem lsizes_c (B : Below A₀ base outer h₀) (F : Fr h₀ L s.heap m) (X : (hd.heap_39 w.params).In h₀) (T : Top p loose mean mg mb h₀) (hk : cs.kind = .function) (hdp : dp + 10 < recursionLimit) (hun : un + 80 < cLine) (N : News h₀ L s.heap nw)
  (hret : ∀ D vs n ext h' tk', Fr h₀ L h' m → News h₀ L h' ((D, listOf (List.toArray vs) n) :: (ext ++ nw)) → TabAre ext vs sizes7 → Q (.ref D) { s with heap := h', toks := tk' }) :
  wpAny (model prog w) (ktrTop dp un gd cn cs L a ccd cl outer) (call (.ref 234) []) Q E s := by
  refine wpAny_call ?_
  k_dflt k_enter
  k_steps
  all_goals exact hret _ _ _ [_, _, _, _, _, _, _] _ _ (by assumption) (by assumption) (.cons (by k_mem) (.cons (by k_mem) (.cons (by k_mem) (.cons (by k_mem) (.cons (by k_mem) (.cons (by k_mem) (.cons (by k_mem) .nil)))))))
example : True := by
  k_with "call ref" => ((fail_if_success (k_extra "past lawa")); (k_here; (with_reducible show wpAny _ _ (call (Value.ref 234) _) _ _ _); k_dflt (refine' lsizes_c ?kB ?kF ?kX ?kT ?kK ?kD ?kU ?kN ?_; (case kB => k_asm); (case kF => k_asm); (case kX => k_asm); (case kT => k_asm); (case kK => first | with_reducible assumption | exact rfl | assumption); (case kD => ktr_room); (case kU => ktr_units); (case kN => k_asm); k_whole); intro D' vs' n' ext' h' tk' F' N' HT'))
  exact True.intro
example : True := by
  k_with "eval ListComp" => ((fail_if_success (k_extra "past lawa")); (k_here; k_dflt (refine ListComp_XT (F₀ := by k_asm) (by with_unfolding_all rfl) (by decide) (by rfl) (by decide) (by rfl) ?_)))
  exact True.intro
example : True := by
  k_with "CompX" => ((fail_if_success (k_extra "past lawa")); (refine stopHere ?_))
  exact True.intro
example : True := by
  k_with "subscriptTail Name Constant ref int" => ((fail_if_success (k_extra "past lawa")); (k_here; (with_reducible show wpAny _ _ (subscriptTail _ _ (Value.ref _) (Value.int _ _)) _ _ _); k_dflt (refine' li_item ?kN ?kM ?k0 ?k1 ?kX ?_; (case kN => k_asm); (case kM => k_mem); (case k0 => decide); (case k1 => decide); (case kX => exact rfl))))
  exact True.intro
example : True := by
  k_with "subscriptTail" => ((fail_if_success (k_extra "past lawa")); (k_here; (with_reducible show wpAny _ _ (subscriptTail _ _ (Value.ref _) (Value.int _ _)) _ _ _); k_dflt (refine' li_item ?kN ?kM ?k0 ?k1 ?kX ?_; (case kN => k_asm); (case kM => k_mem); (case k0 => decide); (case k1 => decide); (case kX => exact rfl))))
  exact True.intro
theorem lclass_c (B : Below A₀ base outer h₀) (F : Fr h₀ L s.heap m) (X : (hd.heap_39 w.params).In h₀) (T : Top p loose mean mg mb h₀) (hk : cs.kind = .function) (hdp : dp + 20 < recursionLimit) (hun : un + 160 < cLine) (N : News h₀ L s.heap nw) {x : Int} {tx : Tok} (h0 : 0 ≤ x) (h1 : x ≤ 1000000)
  (hret : ∀ t h' tk', Fr h₀ L h' m → News h₀ L h' nw → Q (.str (classS x) t) { s with heap := h', toks := tk' }) :
  wpAny (model prog w) (ktrTop dp un gd cn cs L a ccd cl outer) (call (.ref 239) [.int x tx]) Q E s := by
  refine wpAny_call ?_
  k_dflt k_enter
  k_steps
  (skip; have HT' := True.intro; have N' := True.intro; have F' := True.intro; have tk' := True.intro; have h' := True.intro; have ext' := True.intro; have n' := True.intro; have vs' := True.intro; have D' := True.intro; have l1 := True.intro; have T' := True.intro; have X' := True.intro; have B' := True.intro; have FG' := True.intro; have L' := True.intro; have g' := True.intro)
  rename_i D vs n1 ext h1' tk1 F1 N1 HT
  clear HT' N' F' tk' h' ext' n' vs' D' l1 T' X' B' FG' L' g'
  unfold Stopped
  have hlen : vs.length = 7 := HT.length
  refine CompX.lst (n := vs.length) rfl F1 N1 (.head _) rfl (by rw [hlen]; decide) ?_
  intro g'
  refine restT_inv (TabJ x sizes7 _) tabJ_zero ?_ ?_
  · intro i ys nws v I oI C2 oC D2 m2 h2 tk2 E' hi hJ hv hC hx F2 N2 off ne
    obtain ⟨rfl, hy⟩ := hJ
    obtain ⟨ra, nm, lo, hi2, t, t1, t2, nn, rfl, hmr, hrs⟩ := HT.at hv
    have hmr2 := led2_e off hmr
    have hcell := led2_b off
    k_steps
    all_goals first | exact tabJ_more hy hrs (by assumption) (by assumption) | exact tabJ_skip hy hrs (by omega)
  · intro ys nws hJ
    obtain ⟨rfl, ty, rfl⟩ := tabJ_all h0 h1 HT hJ
    k_steps
    all_goals exact hret _ _ _ (by assumption) (news_sub (by assumption) fun p hp => .tail _ (.tail _ (List.mem_append_right _ (.tail _ hp))))
example : True := by
  k_with "past lawa" => (skip)
  exact True.intro
example : True := by
  k_with "call ref" => ((k_here; (with_reducible show wpAny _ _ (call (Value.ref 246) _) _ _ _); k_dflt (refine' lsort_c ?kB ?kF ?kX ?kT ?kK ?kD ?kU ?kN ?k0 ?k1 ?_; (case kB => k_asm); (case kF => k_asm); (case kX => k_asm); (case kT => k_asm); (case kK => first | with_reducible assumption | exact rfl | assumption); (case kD => ktr_room); (case kU => ktr_units); (case kN => k_asm); (case k0 => first | assumption | omega); (case k1 => first | assumption | omega); k_whole); intro t' h' tk' F' N'))
  k_with "call ref" => ((k_here; (with_reducible show wpAny _ _ (call (Value.ref 239) _) _ _ _); k_dflt (refine' lclass_c ?kB ?kF ?kX ?kT ?kK ?kD ?kU ?kN ?k0 ?k1 ?_; (case kB => k_asm); (case kF => k_asm); (case kX => k_asm); (case kT => k_asm); (case kK => first | with_reducible assumption | exact rfl | assumption); (case kD => ktr_room); (case kU => ktr_units); (case kN => k_asm); (case k0 => first | assumption | omega); (case k1 => first | assumption | omega); k_whole); intro t' h' tk' F' N'))
  exact True.intro
/-! block names -/
example : True := by
  k_with "subscriptTail Name Slice ref ref" => ((fail_if_success (k_extra "past names")); (k_here; (with_reducible show wpAny _ _ (subscriptTail _ (PySem.Expr.Slice _ _ none _) (Value.ref _) (Value.ref _)) _ _ _); k_dflt (refine' tup_from2 ?kF ?kN ?kM ?kZ ?_; (case kF => k_asm); (case kN => k_asm); (case kM => k_mem); (case kZ => exact Nat.le_of_ble_eq_true rfl)); intro D' h' F' N' l1; (try k_lt l1)))
  exact True.intro
theorem lnames_drop (B : Below A₀ base outer h₀) (F : Fr h₀ L s.heap m) (X : (hd.heap_39 w.params).In h₀) (T : Top p loose mean mg mb h₀) (hk : cs.kind = .function) (hdp : dp + 30 < recursionLimit) (hun : un + 240 < cLine) (N : News h₀ L s.heap nw) {ra : Addr} {way why : Str} {t1 t2 t3 : Tok} {n : Nat}
  (hm : (ra, ({ cls := .type "tuple", data := .seq (List.toArray [Value.str way t1, .str (Str.ofString "drop") t2, .str why t3]) n } : Obj)) ∈ nw)
  (hret : ∀ D vs n ext h' tk', Fr h₀ L h' m → News h₀ L h' ((D, listOf (List.toArray vs) n) :: (ext ++ nw)) → Seqs ext → Fresh nw ((D, listOf (List.toArray vs) n) :: ext) → PairsAre ext vs (Row.drop way why).names → Q (.ref D) { s with heap := h', toks := tk' }) :
  wpAny (model prog w) (ktrTop dp un gd cn cs L a ccd cl outer) (call (.ref 253) [.ref ra]) Q E s := by
  refine wpAny_call ?_
  k_dflt k_enter
  k_steps
  all_goals (repeat (rename _ ∧ _ => h9; obtain ⟨a9, b9⟩ := h9))
  all_goals exact hret _ _ _ [_, _, _, _, _, _] _ _ (by assumption) (by assumption) (by repeat (first | exact Seqs.nil | refine Seqs.tup rfl ?_ | refine Seqs.lst rfl ?_)) (by repeat (first | exact Fresh.nil | refine Fresh.cons (by assumption) ?_ | refine Fresh.cons' (by assumption) ?_)) (.cons (by k_mem) (by k_mem) (strs_key (.cons (.cons .nil))) (.cons (by k_mem) (by k_mem) (strs_key (.cons (.cons (.cons .nil)))) .nil))
theorem lnames_frame (B : Below A₀ base outer h₀) (F : Fr h₀ L s.heap m) (X : (hd.heap_39 w.params).In h₀) (T : Top p loose mean mg mb h₀) (hk : cs.kind = .function) (hdp : dp + 30 < recursionLimit) (hun : un + 240 < cLine) (N : News h₀ L s.heap nw) {ra : Addr} {way : Str} {target size : Int} {t1 t2 t3 t4 : Tok} {n : Nat}
  (hm : (ra, ({ cls := .type "tuple", data := .seq (List.toArray [Value.str way t1, .str (Str.ofString "frame") t2, .int target t3, .int size t4]) n } : Obj)) ∈ nw)
  (ht0 : 0 ≤ target) (ht1 : target < 2 ^ 60) (hz0 : 0 ≤ size) (hz1 : size ≤ 1000000)
  (hret : ∀ D vs n ext h' tk', Fr h₀ L h' m → News h₀ L h' ((D, listOf (List.toArray vs) n) :: (ext ++ nw)) → Seqs ext → Fresh nw ((D, listOf (List.toArray vs) n) :: ext) → PairsAre ext vs (Row.frame way target size).names → Q (.ref D) { s with heap := h', toks := tk' }) :
  wpAny (model prog w) (ktrTop dp un gd cn cs L a ccd cl outer) (call (.ref 253) [.ref ra]) Q E s := by
  refine wpAny_call ?_
  k_dflt k_enter
  k_steps
  all_goals (repeat (rename _ ∧ _ => h9; obtain ⟨a9, b9⟩ := h9))
  all_goals exact hret _ _ _ [_, _, _, _, _, _, _, _, _, _, _, _] _ _ (by assumption) (by assumption) (by repeat (first | exact Seqs.nil | refine Seqs.tup rfl ?_ | refine Seqs.lst rfl ?_)) (by repeat (first | exact Fresh.nil | refine Fresh.cons (by assumption) ?_ | refine Fresh.cons' (by assumption) ?_)) (.cons (by k_mem) (by k_mem) (strs_key (.cons (.cons .nil))) (.cons (by k_mem) (by k_mem) (strs_key (.cons (.cons .nil))) (.cons (by k_mem) (by k_mem) (strs_key (.cons (.cons .nil))) (.cons (by k_mem) (by k_mem) (strs_key (.cons (.cons (.cons .nil)))) .nil))))
example : True := by
  k_with "past names" => (skip)
  exact True.intro
/-! block counts -/
example : True := by
  k_with "call ref" => ((fail_if_success (k_extra "past counts")); (k_here; (with_reducible show wpAny _ _ (call (Value.ref 253) _) _ _ _); k_dflt (refine' lnames_drop ?kB ?kF ?kX ?kT ?kK ?kD ?kU ?kN ?kM ?_; (case kB => k_asm); (case kF => k_asm); (case kX => k_asm); (case kT => k_asm); (case kK => first | with_reducible assumption | exact rfl | assumption); (case kD => ktr_room); (case kU => ktr_units); (case kN => k_asm); (case kM => k_mem); k_whole); intro D' vs' n' ext' h' tk' F' N' HS' HF' HP'))
  exact True.intro
example : True := by
  k_with "call ref" => ((fail_if_success (k_extra "past counts")); (k_here; (with_reducible show wpAny _ _ (call (Value.ref 253) _) _ _ _); k_dflt (refine' lnames_frame ?kB ?kF ?kX ?kT ?kK ?kD ?kU ?kN ?kM ?k0 ?k1 ?k2 ?k3 ?_; (case kB => k_asm); (case kF => k_asm); (case kX => k_asm); (case kT => k_asm); (case kK => first | with_reducible assumption | exact rfl | assumption); (case kD => ktr_room); (case kU => ktr_units); (case kN => k_asm); (case kM => k_mem); (case k0 => k_asm); (case k1 => k_asm); (case k2 => k_asm); (case k3 => k_asm); k_whole); intro D' vs' n' ext' h' tk' F' N' HS' HF' HP'))
  exact True.intro
example : True := by
  k_with "exec For Name Name cons nil" => ((fail_if_success (k_extra "past counts")); (k_here; (with_reducible show wpAny _ _ (exec (Stmt.For _ _ _ [] _) _) _ _ _); refine for_at ?_))
  exact True.intro
example : True := by
  k_with "exec For Tuple Call cons nil" => ((fail_if_success (k_extra "past counts")); (k_here; (with_reducible show wpAny _ _ (exec (Stmt.For _ _ _ [] _) _) _ _ _); refine for_at ?_))
  exact True.intro
example : True := by
  k_with "k_updF" => ((fail_if_success (k_extra "past counts")); (refine' updF_app ?a ?b; (case a => k_asm); (case b => k_updF)))
  exact True.intro
example : True := by
  k_with "FEnd" => ((fail_if_success (k_extra "past counts")); (refine stopHere ?_))
  exact True.intro
example : True := by
  k_with "ForAt" => ((fail_if_success (k_extra "past counts")); (refine stopHere ?_))
  exact True.intro
theorem lcounts_c (B : Below A₀ base outer h₀) (F : Fr h₀ L s.heap m) (X : (hd.heap_39 w.params).In h₀) (T : Top p loose mean mg mb h₀) (hk : cs.kind = .function) (hdp : dp + 40 < recursionLimit) (hun : un + 330 < cLine) {l : Addr} {rvs : List Value} {n : Nat} {rows : List Row} {sg : Ldg} {b : Int} {tb : Tok}
  (N : News h₀ L s.heap nw) (hm : (l, listOf (List.toArray rvs) n) ∈ nw) (HR : RowRefs sg rvs rows) (S : ∀ p ∈ sg, p ∈ nw) (hlen : rows.length ≤ 12) (hok : ∀ r ∈ rows, RowOk r) (hb0 : 0 ≤ b) (hb1 : b ≤ 32)
  (hret : ∀ fd o' ext h' tk', Fr h₀ L h' m → News h₀ L h' (ext ++ (fd, o') :: nw) → Seqs ext → Fresh nw ((fd, o') :: ext) → CD prog w ext o' (counts (2 ^ b.toNat) rows) → (fd == sysModules) = false → Q (.ref fd) { s with heap := h', toks := tk' }) :
  wpAny (model prog w) (ktrTop dp un gd cn cs L a ccd cl outer) (call (.ref 260) [.ref l, .int b tb]) Q E s := by
  refine wpAny_call ?_
  k_dflt k_enter
  k_steps
  (skip; have T' := True.intro; have X' := True.intro; have B' := True.intro; have FG' := True.intro; have tk' := True.intro; have h' := True.intro; have L' := True.intro; have g' := True.intro)
  rename_i d h1' o1 l1 lo hs fs hi fi h2' F1 N1
  clear T' X' B' FG' tk' h' L' g'
  unfold Stopped
  refine for_list (CntJ prog w d nw (2 ^ b.toNat) rows _) rfl F1 N1 (.tail _ hm) trivial (by passes_own) (cntJ_zero hs) ?_ ?_
  · intro i v m₁ nws I oI h3 tk3 hi hv hJ hml F3 N3 off hIt
    obtain ⟨ext, o2, rfl, hS, hFr, hC, ⟨u, rfl⟩⟩ := hJ
    obtain ⟨ra, ro, r, rfl, hmr, hro, hr⟩ := HR.at hv
    have hrok := hok r (List.mem_of_getElem? hr)
    have hmr2 : (ra, ro) ∈ ext ++ (d, o2) :: nw := List.mem_append_right _ (.tail _ (S _ hmr))
    have hnd : ∀ p ∈ nw, p.1 ≠ d := fun p hp => Nat.ne_of_lt (l1 p hp)
    have hed : ∀ p ∈ ext, p.1 ≠ d := seqs_ne N3 hS (fun p hp => .tail _ (List.mem_append_left _ hp)) (.tail _ (List.mem_append_right _ (.head _))) hC.cls
    have hdI : @Ne Nat d I := off1_mem off (d, o2) (List.mem_append_right _ (.head _))
    cases hro with
    | @drop way why t1 t2 t3 n3 =>
      k_steps
      (skip; have HP' := True.intro; have HF' := True.intro; have HS' := True.intro; have N' := True.intro; have F' := True.intro; have tk' := True.intro; have h' := True.intro; have ext' := True.intro; have n' := True.intro; have vs' := True.intro; have D' := True.intro; have l1 := True.intro; have T' := True.intro; have X' := True.intro; have B' := True.intro; have FG' := True.intro; have L' := True.intro; have g' := True.intro)
      rename_i D vs2 n2 ext' h4 tk4 F4 N4 HS HF HP
      clear HP' HF' HS' N' F' tk' h' ext' n' vs' D' l1 T' X' B' FG' L' g'
      unfold Stopped
      have hDd : @Ne Nat D d := ne_of_obj N4 (.head _) (.tail _ (List.mem_append_right _ (.tail _ (List.mem_append_right _ (.head _))))) (by intro e; have h9 := hC.cls; rw [← e] at h9; exact absurd (show Value.type "list" = _ from h9) (by decide))
      have he'd : ∀ p ∈ ext', p.1 ≠ d := seqs_ne N4 HS (fun p hp => .tail _ (List.mem_append_left _ hp)) (.tail _ (List.mem_append_right _ (.tail _ (List.mem_append_right _ (.head _))))) hC.cls
      have he'I : ∀ p ∈ ext', p.1 ≠ I := seqs_neI N4 HS (fun p hp => .tail _ (List.mem_append_left _ hp)) (.tail _ (List.mem_append_right _ (.head _))) hIt
      have hDI : @Ne Nat D I := ne_of_obj N4 (.head _) (.tail _ (List.mem_append_right _ (.head _))) (by intro e; exact hIt.2.1 (by rw [← e]))
      have hal : (counts (2 ^ b.toNat) (rows.take i)).length ≤ 900 := by
        have h1 := counts_length (2 ^ b.toNat) (rows.take i)
        have h2 : (rows.take i).length ≤ rows.length := by simp [List.length_take]; omega
        omega
      refine for_list (CntK prog w _ _ ext' ext d nw (2 ^ b.toNat) _ ((Row.drop way why).names) _) rfl F4 N4 (.head _) trivial (by passes_own) (cntK_zero hC (MapJ.store (by decide) MapJ.base)) ?_ ?_
      · intro j v2 m2 nws2 I2 oI2 h5 tk5 hj hv2 hJ2 hml2 F5 N5 off2 hIt2
        obtain ⟨o3, rfl, hC3, ⟨u2, rfl⟩⟩ := hJ2
        obtain ⟨pa, ka, ko, k, mny, tt, nn, rfl, hmp, hmk, hko, hps⟩ := HP.at hv2
        have mem4 : ∀ p ∈ ext' ++ ext, p ∈ (D, listOf (List.toArray vs2) n2) :: (ext' ++ (I, oI) :: (ext ++ (d, o3) :: nw)) := by
          intro p hp
          rcases List.mem_append.mp hp with h | h
          · exact .tail _ (List.mem_append_left _ h)
          · exact .tail _ (List.mem_append_right _ (.tail _ (List.mem_append_left _ h)))
        have hmp2 := mem4 _ (List.mem_append_left _ hmp)
        have hmk3 : (ka, ko) ∈ ext' ++ ext := List.mem_append_left _ hmk
        have hmk2 := mem4 _ hmk3
        have hdm : (d, o3) ∈ (D, listOf (List.toArray vs2) n2) :: (ext' ++ (I, oI) :: (ext ++ (d, o3) :: nw)) := .tail _ (List.mem_append_right _ (.tail _ (List.mem_append_right _ (.head _))))
        have hdI2 : @Ne Nat d I2 := off1_mem off2 (d, o3) hdm
        have hblen := bumps_take_length (M := 2 ^ b.toNat) (al := counts (2 ^ b.toNat) (rows.take i)) (j := j) hal (names_length (Row.drop way why))
        k_steps
        (skip; have C' := True.intro; have N' := True.intro; have F' := True.intro; have n' := True.intro; have o' := True.intro; have h' := True.intro; have t' := True.intro; have ext' := True.intro; have l1 := True.intro; have T' := True.intro; have X' := True.intro; have B' := True.intro; have FG' := True.intro; have tk' := True.intro; have L' := True.intro; have g' := True.intro)
        rename_i h9 o9 n9 F9 N9 C9
        clear C' N' F' n' o' h' t' ext' l1 T' X' B' FG' tk' L' g'
        unfold Stopped
        refine FEnd.next F9 N9 sub_refl (off1_map off2 (by simp)) (.head _) ⟨o9, rfl, ?_, ?_⟩
        · rw [bumps_take hps]
          exact C9
        · repeat (first | exact MapJ.base | refine MapJ.store (by decide) ?_)
      · intro m6 nws6 h6 tk6 hJ6 F6 N6
        obtain ⟨o4, rfl, hC4, ⟨u4, rfl⟩⟩ := hJ6
        rw [HP.length, List.take_length] at hC4
        k_steps
        unfold Stopped
        refine FEnd.next (nw' := ((D, listOf (List.toArray vs2) n2) :: (ext' ++ ext)) ++ (d, o4) :: nw) F6 N6 ?_ ?_ (List.mem_append_right _ (.tail _ hm)) ⟨_, o4, rfl, Seqs.lst rfl (Seqs.append HS hS), fresh_more HF hFr, ?_, MapJ.base⟩
        · intro p hp
          simp only [List.mem_cons, List.mem_append] at hp ⊢
          rcases hp with h | (h | h | h) | h | h <;> simp [h]
        · refine off1_of fun p hp => ?_
          simp only [List.cons_append, List.mem_cons, List.mem_append] at hp
          rcases hp with h | (h | h) | h | h
          · rw [h]; exact hDI
          · exact he'I p h
          · exact off1_mem off p (List.mem_append_left _ h)
          · rw [h]; exact hdI
          · exact off1_mem off p (List.mem_append_right _ (.tail _ h))
        · rw [counts_take hr]
          exact hC4.grow fun p hp => .tail _ hp
    | @frame way target size t1 t2 t3 t4 n3 =>
      obtain ⟨_, ht0, ht1, hz0, hz1⟩ := hrok
      k_steps
      (skip; have HP' := True.intro; have HF' := True.intro; have HS' := True.intro; have N' := True.intro; have F' := True.intro; have tk' := True.intro; have h' := True.intro; have ext' := True.intro; have n' := True.intro; have vs' := True.intro; have D' := True.intro; have l1 := True.intro; have T' := True.intro; have X' := True.intro; have B' := True.intro; have FG' := True.intro; have L' := True.intro; have g' := True.intro)
      rename_i D vs2 n2 ext' h4 tk4 F4 N4 HS HF HP
      clear HP' HF' HS' N' F' tk' h' ext' n' vs' D' l1 T' X' B' FG' L' g'
      unfold Stopped
      have hDd : @Ne Nat D d := ne_of_obj N4 (.head _) (.tail _ (List.mem_append_right _ (.tail _ (List.mem_append_right _ (.head _))))) (by intro e; have h9 := hC.cls; rw [← e] at h9; exact absurd (show Value.type "list" = _ from h9) (by decide))
      have he'd : ∀ p ∈ ext', p.1 ≠ d := seqs_ne N4 HS (fun p hp => .tail _ (List.mem_append_left _ hp)) (.tail _ (List.mem_append_right _ (.tail _ (List.mem_append_right _ (.head _))))) hC.cls
      have he'I : ∀ p ∈ ext', p.1 ≠ I := seqs_neI N4 HS (fun p hp => .tail _ (List.mem_append_left _ hp)) (.tail _ (List.mem_append_right _ (.head _))) hIt
      have hDI : @Ne Nat D I := ne_of_obj N4 (.head _) (.tail _ (List.mem_append_right _ (.head _))) (by intro e; exact hIt.2.1 (by rw [← e]))
      have hal : (counts (2 ^ b.toNat) (rows.take i)).length ≤ 900 := by
        have h1 := counts_length (2 ^ b.toNat) (rows.take i)
        have h2 : (rows.take i).length ≤ rows.length := by simp [List.length_take]; omega
        omega
      refine for_list (CntK prog w _ _ ext' ext d nw (2 ^ b.toNat) _ ((Row.frame way target size).names) _) rfl F4 N4 (.head _) trivial (by passes_own) (cntK_zero hC (MapJ.store (by decide) MapJ.base)) ?_ ?_
      · intro j v2 m2 nws2 I2 oI2 h5 tk5 hj hv2 hJ2 hml2 F5 N5 off2 hIt2
        obtain ⟨o3, rfl, hC3, ⟨u2, rfl⟩⟩ := hJ2
        obtain ⟨pa, ka, ko, k, mny, tt, nn, rfl, hmp, hmk, hko, hps⟩ := HP.at hv2
        have mem4 : ∀ p ∈ ext' ++ ext, p ∈ (D, listOf (List.toArray vs2) n2) :: (ext' ++ (I, oI) :: (ext ++ (d, o3) :: nw)) := by
          intro p hp
          rcases List.mem_append.mp hp with h | h
          · exact .tail _ (List.mem_append_left _ h)
          · exact .tail _ (List.mem_append_right _ (.tail _ (List.mem_append_left _ h)))
        have hmp2 := mem4 _ (List.mem_append_left _ hmp)
        have hmk3 : (ka, ko) ∈ ext' ++ ext := List.mem_append_left _ hmk
        have hmk2 := mem4 _ hmk3
        have hdm : (d, o3) ∈ (D, listOf (List.toArray vs2) n2) :: (ext' ++ (I, oI) :: (ext ++ (d, o3) :: nw)) := .tail _ (List.mem_append_right _ (.tail _ (List.mem_append_right _ (.head _))))
        have hdI2 : @Ne Nat d I2 := off1_mem off2 (d, o3) hdm
        have hblen := bumps_take_length (M := 2 ^ b.toNat) (al := counts (2 ^ b.toNat) (rows.take i)) (j := j) hal (names_length (Row.frame way target size))
        k_steps
        (skip; have C' := True.intro; have N' := True.intro; have F' := True.intro; have n' := True.intro; have o' := True.intro; have h' := True.intro; have t' := True.intro; have ext' := True.intro; have l1 := True.intro; have T' := True.intro; have X' := True.intro; have B' := True.intro; have FG' := True.intro; have tk' := True.intro; have L' := True.intro; have g' := True.intro)
        rename_i h9 o9 n9 F9 N9 C9
        clear C' N' F' n' o' h' t' ext' l1 T' X' B' FG' tk' L' g'
        unfold Stopped
        refine FEnd.next F9 N9 sub_refl (off1_map off2 (by simp)) (.head _) ⟨o9, rfl, ?_, ?_⟩
        · rw [bumps_take hps]
          exact C9
        · repeat (first | exact MapJ.base | refine MapJ.store (by decide) ?_)
      · intro m6 nws6 h6 tk6 hJ6 F6 N6
        obtain ⟨o4, rfl, hC4, ⟨u4, rfl⟩⟩ := hJ6
        rw [HP.length, List.take_length] at hC4
        k_steps
        unfold Stopped
        refine FEnd.next (nw' := ((D, listOf (List.toArray vs2) n2) :: (ext' ++ ext)) ++ (d, o4) :: nw) F6 N6 ?_ ?_ (List.mem_append_right _ (.tail _ hm)) ⟨_, o4, rfl, Seqs.lst rfl (Seqs.append HS hS), fresh_more HF hFr, ?_, MapJ.base⟩
        · intro p hp
          simp only [List.mem_cons, List.mem_append] at hp ⊢
          rcases hp with h | (h | h | h) | h | h <;> simp [h]
        · refine off1_of fun p hp => ?_
          simp only [List.cons_append, List.mem_cons, List.mem_append] at hp
          rcases hp with h | (h | h) | h | h
          · rw [h]; exact hDI
          · exact he'I p h
          · exact off1_mem off p (List.mem_append_left _ h)
          · rw [h]; exact hdI
          · exact off1_mem off p (List.mem_append_right _ (.tail _ h))
        · rw [counts_take hr]
          exact hC4.grow fun p hp => .tail _ hp
  · intro m6 nws6 h6 tk6 hJ6 F6 N6
    obtain ⟨ext, o4, rfl, hS, hFr, hC4, ⟨u4, rfl⟩⟩ := hJ6
    rw [HR.length, List.take_length] at hC4
    k_steps
    all_goals exact hret d o4 ext _ _ (by assumption) (by assumption) hS (Fresh.cons' l1 hFr) hC4 lo
example : True := by
  k_with "past counts" => (skip)
  exact True.intro
example : True := by
  k_with "call ref" => ((k_here; (with_reducible show wpAny _ _ (call (Value.ref 260) _) _ _ _); k_dflt (refine' lcounts_c ?kB ?kF ?kX ?kT ?kK ?kD ?kU ?kN ?kM ?kR ?kS ?k1 ?k2 ?k3 ?k4 ?_; (case kB => k_asm); (case kF => k_asm); (case kX => k_asm); (case kT => k_asm); (case kK => first | with_reducible assumption | exact rfl | assumption); (case kD => ktr_room); (case kU => ktr_units); (case kN => k_asm); (case kM => k_mem); (case kR => k_asm); (case kS => k_asm); (case k1 => k_asm); (case k2 => k_asm); (case k3 => k_asm); (case k4 => k_asm); k_whole); intro fd' o' ext' h' tk' F' N' HS' HF' C' lo'))
  exact True.intro
/-! block ops -/
theorem CD.tupsOnly {prog : Program} {w : World} {sg : Ldg} {o : Obj} {al : AL} (h : CD prog w sg o al) : CD prog w (sg.filter fun p => decide (p.2.cls = .type "tuple")) o al := h.mono fun p hp hc => List.mem_filter.mpr ⟨hp, decide_eq_true hc⟩
theorem tupsOnly_sub {d : Addr} {o : Obj} {sg nw rest : Ldg} (S : ∀ p ∈ sg, p ∈ nw) (s1 : ∀ p ∈ nw, p ∈ (d, o) :: rest) (hc : o.cls = .type "dict") : ∀ p ∈ (sg.filter fun p => decide (p.2.cls = .type "tuple")), p ∈ rest := fun p hp => by
  obtain ⟨h1, h2⟩ := List.mem_filter.mp hp
  rcases List.mem_cons.mp (s1 p (S p h1)) with e | e
  · have h3 := of_decide_eq_true h2
    rw [e] at h3
    exact absurd (hc.symm.trans h3) (by decide)
  · exact e
theorem rest_ne {d a : Addr} {o ob : Obj} {nw rest : Ldg} (s1 : ∀ p ∈ nw, p ∈ (d, o) :: rest) (hr : ∀ p ∈ rest, p.1 ≠ d) (hm : (a, ob) ∈ nw) (hne : ob ≠ o) : a ≠ d := by
  rcases List.mem_cons.mp (s1 _ hm) with e | e
  · exact absurd (congrArg Prod.snd e) hne
  · exact hr _ e
theorem CD.neInst {prog : Program} {w : World} {sg : Ldg} {o : Obj} {al : AL} (C : CD prog w sg o al) {f d : Addr} : instObj f d ≠ o := by
  intro e
  have h := C.cls
  rw [← e] at h
  cases h
theorem CD.neAttr {prog : Program} {w : World} {sg : Ldg} {al : AL} {h1 h2 : Int} {t1 t2 : Tok} {v1 v2 : Value} {x1 x2 : Str} {n : Nat} {o : Obj} (C : CD prog w sg o al) : dictOf [⟨h1, .str x1 t1, v1⟩, ⟨h2, .str x2 t2, v2⟩] n ≠ o := by
  rintro rfl
  exact C.notAttr.elim
theorem passed_u (B : Below A₀ base outer h₀) (F : Fr h₀ L s.heap m) (X : (hd.heap_39 w.params).In h₀) (T : Top p loose mean mg mb h₀) (hk : cs.kind = .function) (hdp : dp + 20 < recursionLimit) (hun : un + 160 < cLine) {c dc pd pc dpc d : Addr} {hb hp hb2 hc : Int} {tb tp tb2 tc tkb : Tok} {bv : Value} {b : Int} {n1 n2 : Nat} {po o : Obj} {port target size : Int} {tk tk2 tk3 tw : Tok} {way : Str} {kvs : List (Int × Value)} {al : AL} {sg : Ldg} {g : Obj → Ldg}
  (N : News h₀ L s.heap nw) (hm1 : (c, instObj 202 dc) ∈ nw) (hm2 : (dc, dictOf [⟨hb, .str "bits" tb, bv⟩, ⟨hp, .str "ports" tp, .ref pd⟩] n1) ∈ nw) (hm3 : (pd, po) ∈ nw)
  (P : po.IsDictOf (PySem.intKind prog w) kvs) (hv : valueAt kvs port = some (.ref pc)) (lo : (pd == sysModules) = false)
  (hm4 : (pc, instObj 123 dpc) ∈ nw) (hm5 : (dpc, dictOf [⟨hb2, .str "bits" tb2, .int b tkb⟩, ⟨hc, .str "counts" tc, .ref d⟩] n2) ∈ nw) (U : UpdF d o nw g)
  (S : ∀ p ∈ sg, p ∈ nw) (C : CD prog w sg o al) (lo2 : (d == sysModules) = false) (hb0 : 0 ≤ b) (hb1 : b ≤ 32) (hlen : al.length ≤ 900) (hn3 : pd ≠ d)
  (ht0 : 0 ≤ target) (ht1 : target < 2 ^ 60)
  (hret : ∀ ext o' h' tk', Tups ext → Fr h₀ L h' m → News h₀ L h' (ext ++ g o') →
    CD prog w (ext ++ sg) o' (bumps (2 ^ b.toNat) al (Row.frame way target size).names) → Q .none { s with heap := h', toks := tk' }) :
  wpAny (model prog w) (ktrTop dp un gd cn cs L a ccd cl outer) (call (.ref 163) [.ref c, .int port tk, .str way tw, .int target tk2, .int size tk3]) Q E s := by
  obtain ⟨rest, s1, s2, s3, s4, hr⟩ := updF_perm U
  refine passed_h B F X T hk hdp hun (news_sub N (sub_cons hm1 (sub_cons hm2 (sub_cons hm3 (sub_cons hm4 (sub_cons hm5 s2)))))) P hv lo (tupsOnly_sub S s1 C.cls) C.tupsOnly lo2 hb0 hb1 hlen
    (rest_ne s1 hr hm1 C.neInst) (rest_ne s1 hr hm2 C.neAttr) hn3 (rest_ne s1 hr hm4 C.neInst) (rest_ne s1 hr hm5 C.neAttr) hr ht0 ht1 fun ext o' h' tk' hT F' N' C' => ?_
  refine hret ext o' h' tk' hT F' (news_sub N' fun p hp => ?_) (C'.grow fun p hp => ?_)
  · rcases List.mem_append.mp hp with q | q
    · exact List.mem_append_left _ q
    · exact List.mem_append_right _ (.tail _ (.tail _ (.tail _ (.tail _ (.tail _ (s3 _ p q))))))
  · rcases List.mem_append.mp hp with q | q
    · exact List.mem_append_left _ q
    · exact List.mem_append_right _ (List.mem_filter.mp q).1
theorem dropped_u (B : Below A₀ base outer h₀) (F : Fr h₀ L s.heap m) (X : (hd.heap_39 w.params).In h₀) (T : Top p loose mean mg mb h₀) (hk : cs.kind = .function) (hdp : dp + 20 < recursionLimit) (hun : un + 160 < cLine) {c dc pd pc dpc d : Addr} {hb hp hb2 hc : Int} {tb tp tb2 tc tkb : Tok} {bv : Value} {b : Int} {n1 n2 : Nat} {po o : Obj} {port : Int} {tk tw ty : Tok} {way why : Str} {kvs : List (Int × Value)} {al : AL} {sg : Ldg} {g : Obj → Ldg}
  (N : News h₀ L s.heap nw) (hm1 : (c, instObj 202 dc) ∈ nw) (hm2 : (dc, dictOf [⟨hb, .str "bits" tb, bv⟩, ⟨hp, .str "ports" tp, .ref pd⟩] n1) ∈ nw) (hm3 : (pd, po) ∈ nw)
  (P : po.IsDictOf (PySem.intKind prog w) kvs) (hv : valueAt kvs port = some (.ref pc)) (lo : (pd == sysModules) = false)
  (hm4 : (pc, instObj 123 dpc) ∈ nw) (hm5 : (dpc, dictOf [⟨hb2, .str "bits" tb2, .int b tkb⟩, ⟨hc, .str "counts" tc, .ref d⟩] n2) ∈ nw) (U : UpdF d o nw g)
  (S : ∀ p ∈ sg, p ∈ nw) (C : CD prog w sg o al) (lo2 : (d == sysModules) = false) (hb0 : 0 ≤ b) (hb1 : b ≤ 32) (hlen : al.length ≤ 900) (hn3 : pd ≠ d)
  (hret : ∀ ext o' h' tk', Tups ext → Fr h₀ L h' m → News h₀ L h' (ext ++ g o') →
    CD prog w (ext ++ sg) o' (bumps (2 ^ b.toNat) al (Row.drop way why).names) → Q .none { s with heap := h', toks := tk' }) :
  wpAny (model prog w) (ktrTop dp un gd cn cs L a ccd cl outer) (call (.ref 170) [.ref c, .int port tk, .str way tw, .str why ty]) Q E s := by
  obtain ⟨rest, s1, s2, s3, s4, hr⟩ := updF_perm U
  refine dropped_h B F X T hk hdp hun (news_sub N (sub_cons hm1 (sub_cons hm2 (sub_cons hm3 (sub_cons hm4 (sub_cons hm5 s2)))))) P hv lo (tupsOnly_sub S s1 C.cls) C.tupsOnly lo2 hb0 hb1 hlen
    (rest_ne s1 hr hm1 C.neInst) (rest_ne s1 hr hm2 C.neAttr) hn3 (rest_ne s1 hr hm4 C.neInst) (rest_ne s1 hr hm5 C.neAttr) hr fun ext o' h' tk' hT F' N' C' => ?_
  refine hret ext o' h' tk' hT F' (news_sub N' fun p hp => ?_) (C'.grow fun p hp => ?_)
  · rcases List.mem_append.mp hp with q | q
    · exact List.mem_append_left _ q
    · exact List.mem_append_right _ (.tail _ (.tail _ (.tail _ (.tail _ (.tail _ (s3 _ p q))))))
  · rcases List.mem_append.mp hp with q | q
    · exact List.mem_append_left _ q
    · exact List.mem_append_right _ (List.mem_filter.mp q).1
theorem cclear_u (B : Below A₀ base outer h₀) (F : Fr h₀ L s.heap m) (X : (hd.heap_39 w.params).In h₀) (T : Top p loose mean mg mb h₀) (hk : cs.kind = .function) (hdp : dp + 20 < recursionLimit) (hun : un + 160 < cLine) {c dc pd pc dpc d : Addr} {hb hp hb2 hc : Int} {tb tp tb2 tc : Tok} {bv bv2 : Value} {n1 : Nat} {po : Obj} {port : Int} {tk : Tok} {kvs : List (Int × Value)} {g : Obj → Ldg}
  (N : News h₀ L s.heap nw) (hm1 : (c, instObj 202 dc) ∈ nw) (hm2 : (dc, dictOf [⟨hb, .str "bits" tb, bv⟩, ⟨hp, .str "ports" tp, .ref pd⟩] n1) ∈ nw) (hm3 : (pd, po) ∈ nw)
  (P : po.IsDictOf (PySem.intKind prog w) kvs) (hv : valueAt kvs port = some (.ref pc)) (lo : (pd == sysModules) = false)
  (hm4 : (pc, instObj 123 dpc) ∈ nw) (U : UpdF dpc (dictOf [⟨hb2, .str "bits" tb2, bv2⟩, ⟨hc, .str "counts" tc, .ref d⟩] 2) nw g)
  (hn2 : dc ≠ dpc) (hn3 : pd ≠ dpc)
  (hret : ∀ d' o' h' tk', Fr h₀ L h' m → News h₀ L h' ((d', o') :: g (dictOf [⟨hb2, .str "bits" tb2, bv2⟩, ⟨hc, .str "counts" tc, .ref d'⟩] 2)) →
    (d' == sysModules) = false → (∀ sg, CD prog w sg o' []) → (∀ p ∈ nw, p.1 < d') → Q .none { s with heap := h', toks := tk' }) :
  wpAny (model prog w) (ktrTop dp un gd cn cs L a ccd cl outer) (call (.ref 189) [.ref c, .int port tk]) Q E s := by
  obtain ⟨rest, s1, s2, s3, s4, hr⟩ := updF_perm U
  refine cclear_h B F X T hk hdp hun (news_sub N (sub_cons hm1 (sub_cons hm2 (sub_cons hm3 (sub_cons hm4 s2))))) P hv lo
    (rest_ne s1 hr hm1 (by intro e; cases e)) hn2 hn3 (rest_ne s1 hr hm4 (by intro e; cases e)) hr fun d' o' h' tk' F' N' lo' C' lt => ?_
  refine hret d' o' h' tk' F' (news_sub N' fun p hp => ?_) lo' C' fun p hp => ?_
  · rcases List.mem_cons.mp hp with q | q
    · exact q ▸ .head _
    · exact .tail _ (.tail _ (.tail _ (.tail _ (.tail _ (s3 _ p q)))))
  · rcases List.mem_cons.mp (s1 p hp) with q | q
    · rw [q]; exact lt.2.2.2.2.1
    · exact lt_of_allLt lt.2.2.2.2.2 p q
example : True := by
  k_with "call ref" => ((k_here; (with_reducible show wpAny _ _ (call (Value.ref 163) _) _ _ _); k_dflt (refine' passed_u ?kB ?kF ?kX ?kT ?kK ?kD ?kU ?kN ?m1 ?m2 ?m3 ?kR ?kV ?kL ?m4 ?m5 ?kP ?kS ?kC ?kG ?b0 ?b1 ?kZ ?kE ?t0 ?t1 ?_; (case kB => k_asm); (case kF => k_asm); (case kX => k_asm); (case kT => k_asm); (case kK => first | with_reducible assumption | exact rfl | assumption); (case kD => ktr_room); (case kU => ktr_units); (case kN => k_asm); (case m1 => k_mem); (case m2 => k_mem); (case m3 => k_mem); (case kR => k_asm); (case kV => first | with_reducible assumption | rfl | assumption); (case kL => k_asm); (case m4 => k_mem); (case m5 => k_mem); (case kP => k_updF); (case kC => k_asm); (case kS => (repeat (first | exact sub_refl | assumption | exact sub_appl | exact sub_nil | (refine sub_cons ?_ ?_; k_mem) | refine sub_tail ?_ | refine sub_apr ?_))); (case kG => k_asm); (case b0 => k_asm); (case b1 => k_asm); (case kZ => k_asm); (case kE => k_ne); (case t0 => k_asm); (case t1 => first | assumption | omega); k_whole); intro ext' o' h' tk' hT' F' N' C'; (try dsimp only at N')))
  k_with "call ref" => ((k_here; (with_reducible show wpAny _ _ (call (Value.ref 170) _) _ _ _); k_dflt (refine' dropped_u ?kB ?kF ?kX ?kT ?kK ?kD ?kU ?kN ?m1 ?m2 ?m3 ?kR ?kV ?kL ?m4 ?m5 ?kP ?kS ?kC ?kG ?b0 ?b1 ?kZ ?kE ?_; (case kB => k_asm); (case kF => k_asm); (case kX => k_asm); (case kT => k_asm); (case kK => first | with_reducible assumption | exact rfl | assumption); (case kD => ktr_room); (case kU => ktr_units); (case kN => k_asm); (case m1 => k_mem); (case m2 => k_mem); (case m3 => k_mem); (case kR => k_asm); (case kV => first | with_reducible assumption | rfl | assumption); (case kL => k_asm); (case m4 => k_mem); (case m5 => k_mem); (case kP => k_updF); (case kC => k_asm); (case kS => (repeat (first | exact sub_refl | assumption | exact sub_appl | exact sub_nil | (refine sub_cons ?_ ?_; k_mem) | refine sub_tail ?_ | refine sub_apr ?_))); (case kG => k_asm); (case b0 => k_asm); (case b1 => k_asm); (case kZ => k_asm); (case kE => k_ne); k_whole); intro ext' o' h' tk' hT' F' N' C'; (try dsimp only at N')))
  k_with "call ref" => ((k_here; (with_reducible show wpAny _ _ (call (Value.ref 189) _) _ _ _); k_dflt (refine' cclear_u ?kB ?kF ?kX ?kT ?kK ?kD ?kU ?kN ?m1 ?m2 ?m3 ?kR ?kV ?kL ?m4 ?kP ?kE ?kJ ?_; (case kB => k_asm); (case kF => k_asm); (case kX => k_asm); (case kT => k_asm); (case kK => first | with_reducible assumption | exact rfl | assumption); (case kD => ktr_room); (case kU => ktr_units); (case kN => k_asm); (case m1 => k_mem); (case m2 => k_mem); (case m3 => k_mem); (case kR => k_asm); (case kV => first | with_reducible assumption | rfl | assumption); (case kL => k_asm); (case m4 => k_mem); (case kP => k_updF); (case kE => k_ne); (case kJ => k_ne); k_whole); intro d' o' h' tk' F' N' lo' C' l1; (try dsimp only at N')))
  exact True.intro
/-! block sops -/
theorem take_s (B : Below A₀ base outer h₀) (F : Fr h₀ L s.heap m) (X : (hd.heap_39 w.params).In h₀) (T : Top p loose mean mg mb h₀) (hk : cs.kind = .function) (hdp : dp + 10 < recursionLimit) (hun : un + 80 < cLine) {C : Cn} {bs st : Ldg} {fa fb : Int → List Row} {ls : Int → Addr} {top : Int} {tt : Tok}
  (N : News h₀ L s.heap nw) (hS : StG prog w C bs fa fb ls st) (hsub : ∀ p ∈ st, p ∈ nw) (ht : 1 ≤ top) (ht' : top ≤ 4294967296)
  (hret : ∀ r t st' h' tk', Fr h₀ L h' m → News h₀ L h' st' → StG prog w C bs fa fb ls st' → 0 ≤ r → r < top → Q (.int r t) { s with heap := h', toks := tk' }) :
  wpAny (model prog w) (ktrTop dp un gd cn cs L a ccd cl outer) (call (.ref 220) [.ref C.src, .int top tt]) Q E s := by
  obtain ⟨x, y, tx, ty, n, d1, o1, d2, o2, vs1, n1, vs2, n2, ldo, ext, rfl, Y⟩ := hS
  refine take_u B F X T hk hdp hun (news_sub N hsub) (upd0 Y.ap) Y.x0 Y.y0 Y.y1 ht ht' fun r t x' y' ta' tb' n' h' tk' F' N' r0 r1 x0 y0 y1 => ?_
  exact hret r t _ h' tk' F' N' ⟨x', y', ta', tb', n', d1, o1, d2, o2, vs1, n1, vs2, n2, ldo, ext, rfl, { Y with x0 := x0, y0 := y0, y1 := y1 }⟩ r0 r1
theorem ones_s (B : Below A₀ base outer h₀) (F : Fr h₀ L s.heap m) (X : (hd.heap_39 w.params).In h₀) (T : Top p loose mean mg mb h₀) (hk : cs.kind = .function) (hdp : dp + 20 < recursionLimit) (hun : un + 160 < cLine) {C : Cn} {bs st : Ldg} {fa fb : Int → List Row} {ls : Int → Addr} {l : Addr} {n2 : Nat} {vs : List Value} {xs : List Str}
  (N : News h₀ L s.heap nw) (hS : StG prog w C bs fa fb ls st) (hsub : ∀ p ∈ st, p ∈ nw) (hm : (l, listOf (List.toArray vs) n2) ∈ nw) (H : StrsAre vs xs) (hv : 1 ≤ xs.length) (hv' : xs.length ≤ 64) (hok : ∀ x ∈ xs, PyData.strOk x = true)
  (hret : ∀ z t st' h' tk', PyData.strOk z = true → Fr h₀ L h' m → News h₀ L h' st' → StG prog w C bs fa fb ls st' → Q (.str z t) { s with heap := h', toks := tk' }) :
  wpAny (model prog w) (ktrTop dp un gd cn cs L a ccd cl outer) (call (.ref 227) [.ref C.src, .ref l]) Q E s := by
  obtain ⟨x, y, tx, ty, n, d1, o1, d2, o2, vs1, n1, vs2, n2', ldo, ext, rfl, Y⟩ := hS
  have hls : l ≠ C.src := by
    refine ne_of_obj N hm (hsub _ (.head _)) ?_
    intro e
    cases H with
    | nil => exact absurd hv (by decide)
    | cons _ => cases e
  refine one_str B F X T hk hdp hun (news_sub N (sub_cons hm hsub)) (UpdF.tail hls (upd0 Y.ap)) (.head _) hls Y.x0 Y.y0 Y.y1 H hv hv' hok fun z t x' y' ta' tb' n' h' tk' ok F' N' x0 y0 y1 => ?_
  exact hret z t _ h' tk' ok F' (news_sub N' sub_tail') ⟨x', y', ta', tb', n', d1, o1, d2, o2, vs1, n1, vs2, n2', ldo, ext, rfl, { Y with x0 := x0, y0 := y0, y1 := y1 }⟩
theorem onei_s (B : Below A₀ base outer h₀) (F : Fr h₀ L s.heap m) (X : (hd.heap_39 w.params).In h₀) (T : Top p loose mean mg mb h₀) (hk : cs.kind = .function) (hdp : dp + 20 < recursionLimit) (hun : un + 160 < cLine) {C : Cn} {bs st : Ldg} {fa fb : Int → List Row} {ls : Int → Addr} {l : Addr} {n2 : Nat} {vs : List Value} {ns : List Int} (hi : Int)
  (N : News h₀ L s.heap nw) (hS : StG prog w C bs fa fb ls st) (hsub : ∀ p ∈ st, p ∈ nw) (hm : (l, listOf (List.toArray vs) n2) ∈ nw) (hls : @Ne Nat l C.src) (H : IntsAre vs ns) (hv : 1 ≤ ns.length) (hv' : ns.length ≤ 64) (hok : ∀ i ∈ ns, 0 ≤ i ∧ i ≤ hi)
  (hret : ∀ z t st' h' tk', 0 ≤ z → z ≤ hi → Fr h₀ L h' m → News h₀ L h' st' → StG prog w C bs fa fb ls st' → Q (.int z t) { s with heap := h', toks := tk' }) :
  wpAny (model prog w) (ktrTop dp un gd cn cs L a ccd cl outer) (call (.ref 227) [.ref C.src, .ref l]) Q E s := by
  obtain ⟨x, y, tx, ty, n, d1, o1, d2, o2, vs1, n1, vs2, n2', ldo, ext, rfl, Y⟩ := hS
  refine one_int (hi := hi) B F X T hk hdp hun (news_sub N (sub_cons hm hsub)) (UpdF.tail hls (upd0 Y.ap)) (.head _) hls Y.x0 Y.y0 Y.y1 H hv hv' hok fun z t x' y' ta' tb' n' h' tk' z0 z1 F' N' x0 y0 y1 => ?_
  exact hret z t _ h' tk' z0 z1 F' (news_sub N' sub_tail') ⟨x', y', ta', tb', n', d1, o1, d2, o2, vs1, n1, vs2, n2', ldo, ext, rfl, { Y with x0 := x0, y0 := y0, y1 := y1 }⟩
theorem port_cases {p : Int} (h : p = 1 ∨ p = 2) {P : Int → Prop} (h1 : P 1) (h2 : P 2) : P p := by
  rcases h with h | h <;> rw [h] <;> assumption
theorem src_ltne {C : Cn} {bs st : Ldg} {prog : Program} {w : World} {fa fb : Int → List Row} {ls : Int → Addr} {l : Addr} (hlt : ∀ p ∈ st, p.1 < l) (hS : StG prog w C bs fa fb ls st) : @Ne Nat l C.src := by
  obtain ⟨x, y, tx, ty, n, d1, o1, d2, o2, vs1, n1, vs2, n2', ldo, ext, rfl, Y⟩ := hS
  exact Nat.ne_of_gt (hlt _ (.head _))
theorem up11 {α : Type} {f : Int → α} {v : α} : up f 1 v 1 = v := rfl
theorem up12 {α : Type} {f : Int → α} {v : α} : up f 1 v 2 = f 2 := rfl
theorem up21 {α : Type} {f : Int → α} {v : α} : up f 2 v 1 = f 1 := rfl
theorem up22 {α : Type} {f : Int → α} {v : α} : up f 2 v 2 = v := rfl
theorem dropped_s (B : Below A₀ base outer h₀) (F : Fr h₀ L s.heap m) (X : (hd.heap_39 w.params).In h₀) (T : Top p loose mean mg mb h₀) (hk : cs.kind = .function) (hdp : dp + 20 < recursionLimit) (hun : un + 160 < cLine) {C : Cn} {bs st : Ldg} {fa fb : Int → List Row} {ls : Int → Addr} {port : Int} {tk tw ty : Tok} {way why : Str} (hC : CnOk prog w C) (hp : port = 1 ∨ port = 2)
  (N : News h₀ L s.heap nw) (hS : StG prog w C bs fa fb ls st) (hsub : ∀ p ∈ st, p ∈ nw) (hl : ∀ p, (fa p).length ≤ 11)
  (hret : ∀ st' h' tk', Fr h₀ L h' m → News h₀ L h' st' → StG prog w C bs (up fa port (fa port ++ [.drop way why])) fb ls st' → Q .none { s with heap := h', toks := tk' }) :
  wpAny (model prog w) (ktrTop dp un gd cn cs L a ccd cl outer) (call (.ref 170) [.ref C.c, .int port tk, .str way tw, .str why ty]) Q E s := by
  obtain ⟨x, y, tx, ty, n, d1, o1, d2, o2, vs1, n1, vs2, n2, ldo, ext, rfl, Y⟩ := hS
  have l1 := len900 (M := 2 ^ C.b.toNat) (hl 1) (by decide)
  have l2 := len900 (M := 2 ^ C.b.toNat) (hl 2) (by decide)
  have N1 := news_sub N hsub
  dsimp only [sysL] at N1
  rcases hp with rfl | rfl
  · refine dropped_u B F X T hk hdp hun N1 (by k_mem) (by k_mem) (by k_mem) hC.P (by rfl) hC.lo (by k_mem) (by k_mem) (upd1 Y.ap) (by repeat (first | exact sub_refl | refine sub_tail ?_)) Y.C1 Y.lo1 hC.b0 hC.b1 l1 (Apart.ne Y.ap 10 1 rfl rfl (by decide)) fun ext' o' h' tk' hT F' N' C' => ?_
    obtain ⟨N9, ap9⟩ := shift13 N' hT Y.ap (cls8 C' (Y.C2.grow fun p hp => List.mem_append_right _ hp) Y.D)
    rw [← List.append_assoc] at N9 ap9 C'
    refine hret _ h' tk' F' N9 ⟨x, y, tx, ty, n, d1, o', d2, o2, vs1, n1, vs2, n2, ldo, ext' ++ ext, rfl, ⟨Y.x0, Y.y0, Y.y1, ?_, ?_, ?_, ?_, Y.lo1, Y.lo2, Y.D, ap9⟩⟩
    · rw [up11, counts_snoc]; exact C'
    · rw [up12]; exact Y.C2.grow fun p hp => by rw [List.append_assoc]; exact List.mem_append_right _ hp
    · exact Y.R1.mono fun p hp => by rw [List.append_assoc]; exact List.mem_append_right _ hp
    · exact Y.R2.mono fun p hp => by rw [List.append_assoc]; exact List.mem_append_right _ hp
  · refine dropped_u B F X T hk hdp hun N1 (by k_mem) (by k_mem) (by k_mem) hC.P (by rfl) hC.lo (by k_mem) (by k_mem) (upd2 Y.ap) (by repeat (first | exact sub_refl | refine sub_tail ?_)) Y.C2 Y.lo2 hC.b0 hC.b1 l2 (Apart.ne Y.ap 10 2 rfl rfl (by decide)) fun ext' o' h' tk' hT F' N' C' => ?_
    obtain ⟨N9, ap9⟩ := shift13 N' hT Y.ap (cls8 (Y.C1.grow fun p hp => List.mem_append_right _ hp) C' Y.D)
    rw [← List.append_assoc] at N9 ap9 C'
    refine hret _ h' tk' F' N9 ⟨x, y, tx, ty, n, d1, o1, d2, o', vs1, n1, vs2, n2, ldo, ext' ++ ext, rfl, ⟨Y.x0, Y.y0, Y.y1, ?_, ?_, ?_, ?_, Y.lo1, Y.lo2, Y.D, ap9⟩⟩
    · rw [up21]; exact Y.C1.grow fun p hp => by rw [List.append_assoc]; exact List.mem_append_right _ hp
    · rw [up22, counts_snoc]; exact C'
    · exact Y.R1.mono fun p hp => by rw [List.append_assoc]; exact List.mem_append_right _ hp
    · exact Y.R2.mono fun p hp => by rw [List.append_assoc]; exact List.mem_append_right _ hp
theorem passed_s (B : Below A₀ base outer h₀) (F : Fr h₀ L s.heap m) (X : (hd.heap_39 w.params).In h₀) (T : Top p loose mean mg mb h₀) (hk : cs.kind = .function) (hdp : dp + 20 < recursionLimit) (hun : un + 160 < cLine) {C : Cn} {bs st : Ldg} {fa fb : Int → List Row} {ls : Int → Addr} {port target size : Int} {tk tk2 tk3 tw : Tok} {way : Str} (hC : CnOk prog w C) (hp : port = 1 ∨ port = 2)
  (N : News h₀ L s.heap nw) (hS : StG prog w C bs fa fb ls st) (hsub : ∀ p ∈ st, p ∈ nw) (hl : ∀ p, (fa p).length ≤ 11) (ht0 : 0 ≤ target) (ht1 : target < 2 ^ 60)
  (hret : ∀ st' h' tk', Fr h₀ L h' m → News h₀ L h' st' → StG prog w C bs (up fa port (fa port ++ [.frame way target size])) fb ls st' → Q .none { s with heap := h', toks := tk' }) :
  wpAny (model prog w) (ktrTop dp un gd cn cs L a ccd cl outer) (call (.ref 163) [.ref C.c, .int port tk, .str way tw, .int target tk2, .int size tk3]) Q E s := by
  obtain ⟨x, y, tx, ty, n, d1, o1, d2, o2, vs1, n1, vs2, n2, ldo, ext, rfl, Y⟩ := hS
  have l1 := len900 (M := 2 ^ C.b.toNat) (hl 1) (by decide)
  have l2 := len900 (M := 2 ^ C.b.toNat) (hl 2) (by decide)
  have N1 := news_sub N hsub
  dsimp only [sysL] at N1
  rcases hp with rfl | rfl
  · refine passed_u B F X T hk hdp hun N1 (by k_mem) (by k_mem) (by k_mem) hC.P (by rfl) hC.lo (by k_mem) (by k_mem) (upd1 Y.ap) (by repeat (first | exact sub_refl | refine sub_tail ?_)) Y.C1 Y.lo1 hC.b0 hC.b1 l1 (Apart.ne Y.ap 10 1 rfl rfl (by decide)) ht0 ht1 fun ext' o' h' tk' hT F' N' C' => ?_
    obtain ⟨N9, ap9⟩ := shift13 N' hT Y.ap (cls8 C' (Y.C2.grow fun p hp => List.mem_append_right _ hp) Y.D)
    rw [← List.append_assoc] at N9 ap9 C'
    refine hret _ h' tk' F' N9 ⟨x, y, tx, ty, n, d1, o', d2, o2, vs1, n1, vs2, n2, ldo, ext' ++ ext, rfl, ⟨Y.x0, Y.y0, Y.y1, ?_, ?_, ?_, ?_, Y.lo1, Y.lo2, Y.D, ap9⟩⟩
    · rw [up11, counts_snoc]; exact C'
    · rw [up12]; exact Y.C2.grow fun p hp => by rw [List.append_assoc]; exact List.mem_append_right _ hp
    · exact Y.R1.mono fun p hp => by rw [List.append_assoc]; exact List.mem_append_right _ hp
    · exact Y.R2.mono fun p hp => by rw [List.append_assoc]; exact List.mem_append_right _ hp
  · refine passed_u B F X T hk hdp hun N1 (by k_mem) (by k_mem) (by k_mem) hC.P (by rfl) hC.lo (by k_mem) (by k_mem) (upd2 Y.ap) (by repeat (first | exact sub_refl | refine sub_tail ?_)) Y.C2 Y.lo2 hC.b0 hC.b1 l2 (Apart.ne Y.ap 10 2 rfl rfl (by decide)) ht0 ht1 fun ext' o' h' tk' hT F' N' C' => ?_
    obtain ⟨N9, ap9⟩ := shift13 N' hT Y.ap (cls8 (Y.C1.grow fun p hp => List.mem_append_right _ hp) C' Y.D)
    rw [← List.append_assoc] at N9 ap9 C'
    refine hret _ h' tk' F' N9 ⟨x, y, tx, ty, n, d1, o1, d2, o', vs1, n1, vs2, n2, ldo, ext' ++ ext, rfl, ⟨Y.x0, Y.y0, Y.y1, ?_, ?_, ?_, ?_, Y.lo1, Y.lo2, Y.D, ap9⟩⟩
    · rw [up21]; exact Y.C1.grow fun p hp => by rw [List.append_assoc]; exact List.mem_append_right _ hp
    · rw [up22, counts_snoc]; exact C'
    · exact Y.R1.mono fun p hp => by rw [List.append_assoc]; exact List.mem_append_right _ hp
    · exact Y.R2.mono fun p hp => by rw [List.append_assoc]; exact List.mem_append_right _ hp
theorem clear_s (B : Below A₀ base outer h₀) (F : Fr h₀ L s.heap m) (X : (hd.heap_39 w.params).In h₀) (T : Top p loose mean mg mb h₀) (hk : cs.kind = .function) (hdp : dp + 20 < recursionLimit) (hun : un + 160 < cLine) {C : Cn} {bs st : Ldg} {fa fb : Int → List Row} {ls : Int → Addr} {port : Int} {tk : Tok} (hC : CnOk prog w C) (hp : port = 1 ∨ port = 2)
  (N : News h₀ L s.heap nw) (hS : StG prog w C bs fa fb ls st) (hsub : ∀ p ∈ st, p ∈ nw)
  (hret : ∀ st' h' tk', Fr h₀ L h' m → News h₀ L h' st' → StG prog w C bs (up fa port []) fb ls st' → Q .none { s with heap := h', toks := tk' }) :
  wpAny (model prog w) (ktrTop dp un gd cn cs L a ccd cl outer) (call (.ref 189) [.ref C.c, .int port tk]) Q E s := by
  obtain ⟨x, y, tx, ty, n, d1, o1, d2, o2, vs1, n1, vs2, n2, ldo, ext, rfl, Y⟩ := hS
  have N1 := news_sub N hsub
  dsimp only [sysL] at N1
  have hP := hC.P
  rcases hp with rfl | rfl
  · refine cclear_u B F X T hk hdp hun N1 (by k_mem) (by k_mem) (by k_mem) hP (by rfl) hC.lo (by k_mem) (upd6 Y.ap) (Apart.ne Y.ap 9 6 rfl rfl (by decide)) (Apart.ne Y.ap 10 6 rfl rfl (by decide)) fun d' o' h' tk' F' N' lo' C' lt => ?_
    obtain ⟨N9, ap9⟩ := cell_new1 (e := (C.c, instObj 202 C.dc)) (news_sub N' (sub_cons (.head _) (sub_cons (by k_mem) sub_tail'))) Y.ap (fun p hp => by
      rcases List.mem_cons.mp hp with e | e
      · rw [e]; exact lt (C.c, instObj 202 C.dc) (by k_mem)
      · exact lt p e)
    refine hret _ h' tk' F' N9 ⟨x, y, tx, ty, n, d', o', d2, o2, vs1, n1, vs2, n2, ldo, (d1, o1) :: ext, rfl, ⟨Y.x0, Y.y0, Y.y1, C' _, ?_, Y.R1.mono sub_tail', Y.R2.mono sub_tail', lo', Y.lo2, Y.D, ap9⟩⟩
    rw [up12]; exact Y.C2.grow sub_tail'
  · refine cclear_u B F X T hk hdp hun N1 (by k_mem) (by k_mem) (by k_mem) hP (by rfl) hC.lo (by k_mem) (upd7 Y.ap) (Apart.ne Y.ap 9 7 rfl rfl (by decide)) (Apart.ne Y.ap 10 7 rfl rfl (by decide)) fun d' o' h' tk' F' N' lo' C' lt => ?_
    obtain ⟨N9, ap9⟩ := cell_new2 (e := (C.c, instObj 202 C.dc)) (news_sub N' (sub_cons (.head _) (sub_cons (by k_mem) sub_tail'))) Y.ap (fun p hp => by
      rcases List.mem_cons.mp hp with e | e
      · rw [e]; exact lt (C.c, instObj 202 C.dc) (by k_mem)
      · exact lt p e)
    refine hret _ h' tk' F' N9 ⟨x, y, tx, ty, n, d1, o1, d', o', vs1, n1, vs2, n2, ldo, (d2, o2) :: ext, rfl, ⟨Y.x0, Y.y0, Y.y1, ?_, C' _, Y.R1.mono sub_tail', Y.R2.mono sub_tail', Y.lo1, lo', Y.D, ap9⟩⟩
    rw [up21]; exact Y.C1.grow sub_tail'
section
variable {A : Around}
/-- lists[port] -/
theorem sub_s {C : Cn} {bs st : Ldg} {fa fb : Int → List Row} {ls : Int → Addr} {port : Int} {tk : Tok} {value slice : PySem.Expr} {Q : Value → Shared → Prop} (hp : port = 1 ∨ port = 2)
    (N : News h₀ L s.heap nw) (hS : StG prog w C bs fa fb ls st) (hsub : ∀ p ∈ st, p ∈ nw) (h : Q (.ref (ls port)) { s with toks := s.toks + 1 })
    (hs : subscripted slice false (.ref C.ld) (.int port tk) = operate [.ref C.ld, .int port tk] (getItem (.ref C.ld) (.int port tk)) := by with_unfolding_all rfl) (hg : ∀ r, letTemporaryGo value (.ref C.ld) r = pure () := by intro _; with_unfolding_all rfl) :
    wpAny (model prog w) A (subscriptTail value slice (.ref C.ld) (.int port tk)) Q E s := by
  obtain ⟨x, y, tx, ty, n, d1, o1, d2, o2, vs1, n1, vs2, n2, ldo, ext, rfl, Y⟩ := hS
  have N1 := news_sub N hsub
  dsimp only [sysL] at N1
  rcases hp with rfl | rfl
  · exact kda_item (knd := PySem.intKind prog w) N1 (by k_mem) Y.D (intKind_is _ _ _ _) (by rfl) h hs hg
  · exact kda_item (knd := PySem.intKind prog w) N1 (by k_mem) Y.D (intKind_is _ _ _ _) (by rfl) h hs hg
/-- lists[port] = [] -/
theorem set_s {C : Cn} {bs st : Ldg} {fa fb : Int → List Row} {ls : Int → Addr} {port : Int} {tk : Tok} {l : Addr} {n0 : Nat} {Q : Unit → Shared → Prop} (hp : port = 1 ∨ port = 2)
    (F : Fr h₀ L s.heap m) (N : News h₀ L s.heap nw) (hS : StG prog w C bs fa fb ls st) (hsub : ∀ p ∈ st, p ∈ nw) (hl : (l, listOf (List.toArray []) n0) ∈ nw) (hlt' : ∀ p ∈ st, p.1 < l)
    (h : ∀ st' ls' h', Fr h₀ L h' m → News h₀ L h' st' → StG prog w C bs fa (up fb port []) ls' st' → Q () { s with heap := h', toks := s.toks + 1 }) :
    wpAny (model prog w) A (setItem (.ref C.ld) (.int port tk) (.ref l)) Q E s := by
  obtain ⟨x, y, tx, ty, n, d1, o1, d2, o2, vs1, n1, vs2, n2, ldo, ext, rfl, Y⟩ := hS
  have N1 := news_sub N (sub_cons hl hsub)
  have hlt := allLt_of hlt'
  simp only [sysL, AllLt] at hlt
  dsimp only [sysL] at N1
  have hne : l ≠ C.ld := Nat.ne_of_gt hlt.2.2.2.2.2.1
  rcases hp with rfl | rfl
  · refine kda_set (knd := PySem.intKind prog w) F N1 (UpdF.tail hne (upd5 Y.ap)) Y.D (intKind_is _ _ _ _) (by rw [sizeLine_eq]; exact Nat.le_of_ble_eq_true rfl) fun h' o' F' N' D' => ?_
    obtain ⟨N9, ap9⟩ := list_new3 N' Y.ap hlt
    exact h _ (up ls 1 l) h' F' N9 ⟨x, y, tx, ty, n, d1, o1, d2, o2, [], n0, vs2, n2, o', (ls 1, listOf (List.toArray vs1) n1) :: ext, rfl, ⟨Y.x0, Y.y0, Y.y1, Y.C1.grow sub_tail', Y.C2.grow sub_tail', RowRefs.nil, by rw [up12]; exact Y.R2.mono sub_tail', Y.lo1, Y.lo2, D', ap9⟩⟩
  · refine kda_set (knd := PySem.intKind prog w) F N1 (UpdF.tail hne (upd5 Y.ap)) Y.D (intKind_is _ _ _ _) (by rw [sizeLine_eq]; exact Nat.le_of_ble_eq_true rfl) fun h' o' F' N' D' => ?_
    obtain ⟨N9, ap9⟩ := list_new4 N' Y.ap hlt
    exact h _ (up ls 2 l) h' F' N9 ⟨x, y, tx, ty, n, d1, o1, d2, o2, vs1, n1, [], n0, o', (ls 2, listOf (List.toArray vs2) n2) :: ext, rfl, ⟨Y.x0, Y.y0, Y.y1, Y.C1.grow sub_tail', Y.C2.grow sub_tail', by rw [up21]; exact Y.R1.mono sub_tail', RowRefs.nil, Y.lo1, Y.lo2, D', ap9⟩⟩
/-- lists[port].append(row) -/
theorem append_s {C : Cn} {bs st : Ldg} {fa fb : Int → List Row} {ls : Int → Addr} {port : Int} {T : Addr} {oT : Obj} {row : Row} {Q : Value → Shared → Prop} (hp : port = 1 ∨ port = 2)
    (F : Fr h₀ L s.heap m) (N : News h₀ L s.heap nw) (hS : StG prog w C bs fa fb ls st) (hsub : ∀ p ∈ st, p ∈ nw) (hT : (T, oT) ∈ nw) (hlt' : ∀ p ∈ st, p.1 < T) (hrow : RowO oT row) (hlen : ∀ p, (fb p).length ≤ 11)
    (h : ∀ st' h', Fr h₀ L h' m → News h₀ L h' st' → StG prog w C bs fa (up fb port (fb port ++ [row])) ls st' → Q .none { s with heap := h' }) :
    wpAny (model prog w) A (call (.builtin "list.append") [.ref (ls port), .ref T]) Q E s := by
  obtain ⟨x, y, tx, ty, n, d1, o1, d2, o2, vs1, n1, vs2, n2, ldo, ext, rfl, Y⟩ := hS
  have N1 := news_sub N (sub_cons hT hsub)
  have hlt := allLt_of hlt'
  simp only [sysL, AllLt] at hlt
  dsimp only [sysL] at N1
  have z1 := hlen 1
  have z2 := hlen 2
  have v1 := Y.R1.length
  have v2 := Y.R2.length
  rcases hp with rfl | rfl
  · have hne : T ≠ ls 1 := Nat.ne_of_gt hlt.2.2.2.1
    refine append_U F N1 (UpdF.tail hne (upd3 Y.ap)) (by omega) fun h' F' N' => ?_
    refine h _ h' F' (rot13 N') ⟨x, y, tx, ty, n, d1, o1, d2, o2, vs1 ++ [.ref T], n1 + 1, vs2, n2, ldo, (T, oT) :: ext, rfl, ⟨Y.x0, Y.y0, Y.y1, Y.C1.grow sub_tail', Y.C2.grow sub_tail', ?_, ?_, Y.lo1, Y.lo2, Y.D, apart_fresh Y.ap hlt⟩⟩
    · rw [up11]; exact (Y.R1.mono sub_tail').snoc (.head _) hrow
    · rw [up12]; exact Y.R2.mono sub_tail'
  · have hne : T ≠ ls 2 := Nat.ne_of_gt hlt.2.2.2.2.1
    refine append_U F N1 (UpdF.tail hne (upd4 Y.ap)) (by omega) fun h' F' N' => ?_
    refine h _ h' F' (rot13 N') ⟨x, y, tx, ty, n, d1, o1, d2, o2, vs1, n1, vs2 ++ [.ref T], n2 + 1, ldo, (T, oT) :: ext, rfl, ⟨Y.x0, Y.y0, Y.y1, Y.C1.grow sub_tail', Y.C2.grow sub_tail', ?_, ?_, Y.lo1, Y.lo2, Y.D, apart_fresh Y.ap hlt⟩⟩
    · rw [up21]; exact Y.R1.mono sub_tail'
    · rw [up22]; exact (Y.R2.mono sub_tail').snoc (.head _) hrow
theorem lsmeth_s {C : Cn} {bs st : Ldg} {fa fb : Int → List Row} {ls : Int → Addr} {port : Int} {pl : Sem Bool} {Q : Value × List Value → Shared → Prop} (hp : port = 1 ∨ port = 2)
    (N : News h₀ L s.heap nw) (hS : StG prog w C bs fa fb ls st) (hsub : ∀ p ∈ st, p ∈ nw) (h : Q (.builtin "list.append", [.ref (ls port)]) s) :
    wpAny (model prog w) A (getMethod (.ref (ls port)) "append" pl) Q E s := by
  obtain ⟨x, y, tx, ty, n, d1, o1, d2, o2, vs1, n1, vs2, n2, ldo, ext, rfl, Y⟩ := hS
  have N1 := news_sub N hsub
  dsimp only [sysL] at N1
  have g : ∀ (l : Addr) (vs : List Value) (k : Nat), (l, listOf (List.toArray vs) k) ∈ nw → Q (.builtin "list.append", [.ref l]) s → wpAny (model prog w) A (getMethod (.ref l) "append" pl) Q E s := fun l vs k hm hq =>
    getMethod_builtin (T := "list") ⟨_, (N _ hm).1, rfl⟩ PySem.F.plainAttrs_list PySem.F.slot_list_append PySem.F.type_list_append (fun a e => by cases e; exact ⟨_, (N _ hm).1, rfl⟩) hq
  rcases hp with rfl | rfl
  · exact g _ vs1 n1 (hsub _ (by dsimp only [sysL]; k_mem)) h
  · exact g _ vs2 n2 (hsub _ (by dsimp only [sysL]; k_mem)) h
end
theorem inst_s {C : Cn} {bs st : Ldg} {fa fb : Int → List Row} {ls : Int → Addr} {h : Heap} (N : News h₀ L h nw) (hS : StG prog w C bs fa fb ls st) (hsub : ∀ p ∈ st, p ∈ nw) :
    InstAt h C.c (instObj 202 C.dc) 202 (some (dictOf [⟨C.hb, .str "bits" C.tb, .int C.b C.tkc⟩, ⟨C.hp, .str "ports" C.tp, .ref C.pd⟩] 2)) := by
  obtain ⟨x, y, tx, ty, n, d1, o1, d2, o2, vs1, n1, vs2, n2, ldo, ext, rfl, Y⟩ := hS
  have N1 := news_sub N hsub
  dsimp only [sysL] at N1
  exact InstAt.of_news N1 (by k_mem) (by k_mem)
example : True := by
  k_with "k_inst" => (exact inst_s (by k_asm) (by assumption) (by (repeat (first | exact sub_refl | refine sub_tail ?_))))
  k_with "call ref" => ((k_here; (with_reducible show wpAny _ _ (call (Value.ref 220) _) _ _ _); k_dflt (refine' take_s ?kB ?kF ?kX ?kT ?kK ?kD ?kU ?kN ?kS ?kW ?h3 ?h4 ?_; (case kB => k_asm); (case kF => k_asm); (case kX => k_asm); (case kT => k_asm); (case kK => first | with_reducible assumption | exact rfl | assumption); (case kD => ktr_room); (case kU => ktr_units); (case kN => k_asm); (case kS => k_asm); (case kW => (repeat (first | exact sub_refl | refine sub_tail ?_))); (case h3 => first | assumption | omega | decide); (case h4 => first | assumption | omega | decide); k_whole); intro r' t' st' h' tk' F' N' S' r0 r1))
  k_with "call ref" => ((k_here; (with_reducible show wpAny _ _ (call (Value.ref 227) _) _ _ _); k_dflt (refine' ones_s ?kB ?kF ?kX ?kT ?kK ?kD ?kU ?kN ?kS ?kW ?kM ?kA ?k1 ?k2 ?k3 ?_; (case kB => k_asm); (case kF => k_asm); (case kX => k_asm); (case kT => k_asm); (case kK => first | with_reducible assumption | exact rfl | assumption); (case kD => ktr_room); (case kU => ktr_units); (case kN => k_asm); (case kS => k_asm); (case kW => (repeat (first | exact sub_refl | refine sub_tail ?_))); (case kM => k_mem); (case kA => repeat (first | exact StrsAre.nil | apply StrsAre.cons)); (case k1 => exact Nat.le_of_ble_eq_true rfl); (case k2 => exact Nat.le_of_ble_eq_true rfl); (case k3 => decide +kernel); k_whole); intro z' t' st' h' tk' ok' F' N' S'))
  k_with "call ref" => ((k_here; (with_reducible show wpAny _ _ (call (Value.ref 227) _) _ _ _); k_dflt ((first | refine' onei_s (hi := 32) ?kB ?kF ?kX ?kT ?kK ?kD ?kU ?kN ?kS ?kW ?kM ?kE ?kA ?k1 ?k2 ?k3 ?_; (case kB => k_asm); (case kF => k_asm); (case kX => k_asm); (case kT => k_asm); (case kK => first | with_reducible assumption | exact rfl | assumption); (case kD => ktr_room); (case kU => ktr_units); (case kN => k_asm); (case kS => k_asm); (case kW => (repeat (first | exact sub_refl | refine sub_tail ?_))); (case kM => k_mem); (case kE => (first | exact src_ltne (by assumption) (by assumption) | exact src_ltne (lt_of_allLt (by assumption)) (by assumption) | exact src_ltne (lt_of_allLt (And.right (by assumption))) (by assumption) | exact src_ltne (lt_of_allLt (And.right (And.right (by assumption)))) (by assumption))); (case kA => repeat (first | exact IntsAre.nil | apply IntsAre.cons)); (case k1 => exact Nat.le_of_ble_eq_true rfl); (case k2 => exact Nat.le_of_ble_eq_true rfl); (case k3 => intro i9 hi9; simp only [List.mem_cons, List.not_mem_nil, or_false] at hi9; omega) | refine' onei_s (hi := 1000000) ?kB ?kF ?kX ?kT ?kK ?kD ?kU ?kN ?kS ?kW ?kM ?kE ?kA ?k1 ?k2 ?k3 ?_; (case kB => k_asm); (case kF => k_asm); (case kX => k_asm); (case kT => k_asm); (case kK => first | with_reducible assumption | exact rfl | assumption); (case kD => ktr_room); (case kU => ktr_units); (case kN => k_asm); (case kS => k_asm); (case kW => (repeat (first | exact sub_refl | refine sub_tail ?_))); (case kM => k_mem); (case kE => (first | exact src_ltne (by assumption) (by assumption) | exact src_ltne (lt_of_allLt (by assumption)) (by assumption) | exact src_ltne (lt_of_allLt (And.right (by assumption))) (by assumption) | exact src_ltne (lt_of_allLt (And.right (And.right (by assumption)))) (by assumption))); (case kA => repeat (first | exact IntsAre.nil | apply IntsAre.cons)); (case k1 => exact Nat.le_of_ble_eq_true rfl); (case k2 => exact Nat.le_of_ble_eq_true rfl); (case k3 => intro i9 hi9; simp only [List.mem_cons, List.not_mem_nil, or_false] at hi9; omega) | refine' onei_s (hi := 281474976710655) ?kB ?kF ?kX ?kT ?kK ?kD ?kU ?kN ?kS ?kW ?kM ?kE ?kA ?k1 ?k2 ?k3 ?_; (case kB => k_asm); (case kF => k_asm); (case kX => k_asm); (case kT => k_asm); (case kK => first | with_reducible assumption | exact rfl | assumption); (case kD => ktr_room); (case kU => ktr_units); (case kN => k_asm); (case kS => k_asm); (case kW => (repeat (first | exact sub_refl | refine sub_tail ?_))); (case kM => k_mem); (case kE => (first | exact src_ltne (by assumption) (by assumption) | exact src_ltne (lt_of_allLt (by assumption)) (by assumption) | exact src_ltne (lt_of_allLt (And.right (by assumption))) (by assumption) | exact src_ltne (lt_of_allLt (And.right (And.right (by assumption)))) (by assumption))); (case kA => repeat (first | exact IntsAre.nil | apply IntsAre.cons)); (case k1 => exact Nat.le_of_ble_eq_true rfl); (case k2 => exact Nat.le_of_ble_eq_true rfl); (case k3 => intro i9 hi9; simp only [List.mem_cons, List.not_mem_nil, or_false, show Int.toNat 48 = 48 from rfl] at hi9; omega)); k_whole); intro z' t' st' h' tk' z0 z1 F' N' S'))
  k_with "call ref" => ((k_here; (with_reducible show wpAny _ _ (call (Value.ref 163) _) _ _ _); k_dflt (refine' passed_s ?kB ?kF ?kX ?kT ?kK ?kD ?kU ?kC ?kP ?kN ?kS ?kW ?kL ?t0 ?t1 ?_; (case kB => k_asm); (case kF => k_asm); (case kX => k_asm); (case kT => k_asm); (case kK => first | with_reducible assumption | exact rfl | assumption); (case kD => ktr_room); (case kU => ktr_units); (case kC => k_asm); (case kN => k_asm); (case kS => k_asm); (case kW => (repeat (first | exact sub_refl | refine sub_tail ?_))); (case kP => omega); (case kL => k_asm); (case t0 => k_asm); (case t1 => first | assumption | omega); k_whole); intro st' h' tk' F' N' S'))
  k_with "call ref" => ((k_here; (with_reducible show wpAny _ _ (call (Value.ref 170) _) _ _ _); k_dflt (refine' dropped_s ?kB ?kF ?kX ?kT ?kK ?kD ?kU ?kC ?kP ?kN ?kS ?kW ?kL ?_; (case kB => k_asm); (case kF => k_asm); (case kX => k_asm); (case kT => k_asm); (case kK => first | with_reducible assumption | exact rfl | assumption); (case kD => ktr_room); (case kU => ktr_units); (case kC => k_asm); (case kN => k_asm); (case kS => k_asm); (case kW => (repeat (first | exact sub_refl | refine sub_tail ?_))); (case kP => omega); (case kL => k_asm); k_whole); intro st' h' tk' F' N' S'))
  k_with "call ref" => ((k_here; (with_reducible show wpAny _ _ (call (Value.ref 189) _) _ _ _); k_dflt (refine' clear_s ?kB ?kF ?kX ?kT ?kK ?kD ?kU ?kC ?kP ?kN ?kS ?kW ?_; (case kB => k_asm); (case kF => k_asm); (case kX => k_asm); (case kT => k_asm); (case kK => first | with_reducible assumption | exact rfl | assumption); (case kD => ktr_room); (case kU => ktr_units); (case kC => k_asm); (case kN => k_asm); (case kS => k_asm); (case kW => (repeat (first | exact sub_refl | refine sub_tail ?_))); (case kP => omega); k_whole); intro st' h' tk' F' N' S'))
  k_with "subscriptTail" => ((k_here; (with_reducible show wpAny _ _ (subscriptTail _ _ (Value.ref (Cn.ld _)) (Value.int _ _)) _ _ _); k_dflt (refine' sub_s ?kP ?kN ?kS ?kW ?_; (case kN => k_asm); (case kS => k_asm); (case kW => (repeat (first | exact sub_refl | refine sub_tail ?_))); (case kP => omega))))
  k_with "setItem ref int" => ((k_here; (with_reducible show wpAny _ _ (setItem (Value.ref (Cn.ld _)) (Value.int _ _) (Value.ref _)) _ _ _); k_dflt (refine' set_s ?kP ?kF ?kN ?kS ?kW ?kM ?kZ ?_; (case kF => k_asm); (case kN => k_asm); (case kS => k_asm); (case kW => (repeat (first | exact sub_refl | refine sub_tail ?_))); (case kM => k_mem); (case kZ => (first | assumption | exact lt_of_allLt (by assumption) | exact lt_of_allLt (And.right (by assumption)) | exact lt_of_allLt (And.right (And.right (by assumption))))); (case kP => omega)); intro st' ls' h' F' N' S'))
  k_with "getMethod ref" => ((k_here; (with_reducible show wpAny _ _ (getMethod (Value.ref _) (PySem.Str.ofString "append") _) _ _ _); k_dflt (refine' lsmeth_s ?kP ?kN ?kS ?kW ?_; (case kN => k_asm); (case kS => k_asm); (case kW => (repeat (first | exact sub_refl | refine sub_tail ?_))); (case kP => omega))))
  k_with "call builtin:list.append" => ((k_here; (with_reducible show wpAny _ _ (call (Value.builtin _) [Value.ref _, Value.ref _]) _ _ _); k_dflt (refine' append_s ?kP ?kF ?kN ?kS ?kW ?kM ?kZ ?kR ?kL ?_; (case kF => k_asm); (case kN => k_asm); (case kS => k_asm); (case kW => (repeat (first | exact sub_refl | refine sub_tail ?_))); (case kM => k_mem); (case kZ => (first | assumption | exact lt_of_allLt (by assumption) | exact lt_of_allLt (And.right (by assumption)) | exact lt_of_allLt (And.right (And.right (by assumption))))); (case kR => first | exact RowO.drop | exact RowO.frame); (case kP => omega); (case kL => k_asm); k_whole); intro st' h' F' N' S'))
  exact True.intro
/-! block step -/
theorem step_c (B : Below A₀ base outer h₀) (F : Fr h₀ L s.heap m) (X : (hd.heap_39 w.params).In h₀) (T : Top p loose mean mg mb h₀) (hk : cs.kind = .function) (hdp : dp + 60 < recursionLimit) (hun : un + 500 < cLine) {C : Cn} {bs : Ldg} {i : Nat} (hC : CnOk prog w C) (N : News h₀ L s.heap nw) (hS : St prog w C bs i nw) (hi : i < 12)
  (hret : ∀ nw' h' tk', Fr h₀ L h' m → News h₀ L h' nw' → St prog w C bs (i + 1) nw' → Q .none { s with heap := h', toks := tk' }) :
  wpAny (model prog w) (ktrTop dp un gd cn cs L a ccd cl outer) (call (.ref 274) [.ref C.src, .ref C.c, .ref C.ld]) Q E s := by
  obtain ⟨fa, ls, hS, hla, hok⟩ := hS
  have hl11 : ∀ p, (fa p).length ≤ 11 := fun p => by have := hla p; omega
  refine wpAny_call ?_
  k_dflt k_enter
  k_steps
  all_goals first
    | exact hret _ _ _ (by assumption) (by assumption) (st_clear (by assumption) hla hok)
    | (refine hret _ _ _ (by assumption) (by assumption) (st_row (by assumption) hla hok ?_); exact ⟨by assumption, by assumption⟩)
    | (refine hret _ _ _ (by assumption) (by assumption) (st_row (by assumption) hla hok ?_); exact ⟨by assumption, by assumption, by omega, by assumption, by assumption⟩)
example : True := by
  k_with "call ref" => ((k_here; (with_reducible show wpAny _ _ (call (Value.ref 274) _) _ _ _); k_dflt (refine' step_c ?kB ?kF ?kX ?kT ?kK ?kD ?kU ?kC ?kN ?kS ?kI ?_; (case kB => k_asm); (case kF => k_asm); (case kX => k_asm); (case kT => k_asm); (case kK => first | with_reducible assumption | exact rfl | assumption); (case kD => ktr_room); (case kU => ktr_units); (case kN => k_asm); (case kC => k_asm); (case kS => k_asm); (case kI => omega); k_whole); intro nw' h' tk' F' N' S'))
  exact True.intro
/-! block right -/
theorem lcounts_t (B : Below A₀ base outer h₀) (F : Fr h₀ L s.heap m) (X : (hd.heap_39 w.params).In h₀) (T : Top p loose mean mg mb h₀) (hk : cs.kind = .function) (hdp : dp + 40 < recursionLimit) (hun : un + 330 < cLine) {l : Addr} {rvs : List Value} {n : Nat} {rows : List Row} {sg : Ldg} {b : Int} {tb : Tok}
  (N : News h₀ L s.heap nw) (hm : (l, listOf (List.toArray rvs) n) ∈ nw) (HR : RowRefs sg rvs rows) (S : ∀ p ∈ sg, p ∈ nw) (hlen : rows.length ≤ 12) (hok : ∀ r ∈ rows, RowOk r) (hb0 : 0 ≤ b) (hb1 : b ≤ 32)
  (hret : ∀ fd o' ext h' tk', Fr h₀ L h' m → News h₀ L h' ((fd, o') :: (ext ++ nw)) → Tups ext → Fresh nw ((fd, o') :: ext) → CD prog w ext o' (counts (2 ^ b.toNat) rows) → (fd == sysModules) = false → Q (.ref fd) { s with heap := h', toks := tk' }) :
  wpAny (model prog w) (ktrTop dp un gd cn cs L a ccd cl outer) (call (.ref 260) [.ref l, .int b tb]) Q E s := by
  refine lcounts_c B F X T hk hdp hun N hm HR S hlen hok hb0 hb1 fun fd o' ext h' tk' F' N' HS HF C lo => ?_
  refine hret fd o' _ h' tk' F' (news_sub N' (sub_cons (List.mem_append_right _ (.head _)) (sub_append (fun p hp => List.mem_append_left _ (List.mem_filter.mp hp).1) fun p hp => List.mem_append_right _ (.tail _ hp)))) Tups.filter (HF.sub sub_refl (sub_cons (.head _) fun p hp => .tail _ (List.mem_filter.mp hp).1)) C.tupsOnly lo
example : True := by
  k_with "eval ListComp" => ((fail_if_success (k_extra "past right")); (k_here; (with_reducible show wpAny _ _ (eval (Expr.ListComp _ [⟨_, _, [_], _⟩] _ _) _) _ _ _); k_dflt (refine ListComp_XT (F₀ := by k_asm) (by with_unfolding_all rfl) (by decide) (by rfl) (by decide) (by rfl) ?_)))
  exact True.intro
example : True := by
  k_with "CompX" => ((fail_if_success (k_extra "past right")); (refine stopHere ?_))
  exact True.intro
example : True := by
  k_with "exec Assign cons ListComp" => ((fail_if_success (k_extra "past right")); (k_here; k_dflt (refine LCg.Assign_ListComp_U (F₀ := by k_asm) (by rfl) (by with_unfolding_all rfl) (by with_unfolding_all rfl) (by decide) (by rfl) (by decide) (by rfl) (by rfl) (by rfl) ?_)))
  exact True.intro
example : True := by
  k_with "subscriptTail Name" => ((fail_if_success (k_extra "past right")); (k_here; (with_reducible show wpAny _ _ (subscriptTail _ _ (Value.ref (Cn.ld _)) (Value.int _ _)) _ _ _); k_dflt (refine' kda_item (knd := PySem.intKind _ _) ?kN ?kM ?kC (intKind_is _ _ _ _) ?kE ?_; (case kN => k_asm); (case kM => k_mem); (case kC => k_asm); (case kE => first | with_reducible assumption | rfl | assumption))))
  exact True.intro
example : True := by
  k_with "subscriptTail Name BinOp" => ((fail_if_success (k_extra "past right")); (k_here; (with_reducible show wpAny _ _ (subscriptTail _ _ (Value.ref _) (Value.int _ _)) _ _ _); k_dflt (refine' li_item ?kN ?kM ?k0 ?k1 ?kX ?_; (case kN => k_asm); (case kM => k_mem); (case k0 => decide); (case k1 => decide); (case kX => exact rfl))))
  exact True.intro
example : True := by
  k_with "call builtin:sorted" => ((fail_if_success (k_extra "past right")); (k_here; (with_reducible show wpAny _ _ (call (Value.builtin "sorted") [Value.ref _]) _ _ _); k_dflt (refine' cd_sorted ?kH ?kF ?kN ?kS ?kM ?kC ?kL ?k6 ?k1 ?kE ?_; (case kH => rfl); (case kF => k_asm); (case kN => k_asm); (case kM => k_mem); (case kC => k_asm); (case kS => (repeat (first | exact sub_refl | assumption | exact sub_appl | exact sub_nil | (refine sub_cons ?_ ?_; k_mem) | refine sub_tail ?_ | refine sub_apr ?_))); (case kL => k_asm); (case k6 => k_asm); (case k1 => k_asm); (case kE => k_asm)); intro D' vs' c' h' tk' F' N' l1 H'))
  exact True.intro
example : True := by
  k_with "subscriptTail" => ((fail_if_success (k_extra "past right")); (k_here; (with_reducible show wpAny _ _ (subscriptTail _ _ (Value.ref _) (Value.ref _)) _ _ _); k_dflt (refine' cd_item ?kU ?kN ?kS ?kM ?kC ?kK ?kO ?kI ?_; (case kN => k_asm); (case kM => k_mem); (case kC => k_asm); (case kU => ktr_units); (case kS => (repeat (first | exact sub_refl | assumption | exact sub_appl | exact sub_nil | (refine sub_cons ?_ ?_; k_mem) | refine sub_tail ?_ | refine sub_apr ?_))); (case kO => k_asm); (case kK => k_mem); (case kI => k_asm); k_whole); intro t' n'))
  exact True.intro
example : True := by
  k_with "compareOp NotEq ref ref" => ((fail_if_success (k_extra "past right")); (k_here; (with_reducible show wpAny _ _ (compareOp CmpOp.NotEq (Value.ref _) (Value.ref _)) _ _ _); k_dflt (refine' same_ne ?kN ?m1 ?d1 ?s1 ?m2 ?d2 ?s2 ?kO ?kU ?_; (case kN => k_asm); (case m1 => k_mem); (case m2 => k_mem); (case d1 => first | with_reducible assumption | exact DatAll.nil); (case d2 => first | with_reducible assumption | exact DatAll.nil); (case s1 => (repeat (first | exact sub_refl | assumption | exact sub_appl | exact sub_nil | (refine sub_cons ?_ ?_; k_mem) | refine sub_tail ?_ | refine sub_apr ?_))); (case s2 => (repeat (first | exact sub_refl | assumption | exact sub_appl | exact sub_nil | (refine sub_cons ?_ ?_; k_mem) | refine sub_tail ?_ | refine sub_apr ?_))); (case kO => first | with_reducible assumption | exact List.forall_mem_nil _); (case kU => ktr_units))))
  exact True.intro
example : True := by
  k_with "getMethod ref" => ((fail_if_success (k_extra "past right")); (k_here; (with_reducible show wpAny _ _ (getMethod (Value.ref _) (Str.ofString "get") _) _ _ _); k_dflt (refine' cd_method ?kN ?kM ?kC ?_; (case kN => k_asm); (case kM => k_mem); (case kC => k_asm); k_whole)))
  exact True.intro
example : True := by
  k_with "call builtin:dict.get" => ((fail_if_success (k_extra "past right")); (k_here; (with_reducible show wpAny _ _ (call (Value.builtin _) [Value.ref _, Value.ref _, Value.int _ _]) _ _ _); k_dflt (refine' cd_get2 ?kU ?kN ?kS ?kM ?kC ?kL ?kK ?kO ?_; (case kN => k_asm); (case kM => k_mem); (case kC => k_asm); (case kU => ktr_units); (case kS => (repeat (first | exact sub_refl | assumption | exact sub_appl | exact sub_nil | (refine sub_cons ?_ ?_; k_mem) | refine sub_tail ?_ | refine sub_apr ?_))); (case kL => k_asm); (case kO => k_asm); (case kK => k_mem); k_whole); intro t' n'))
  exact True.intro
example : True := by
  k_with "FEnd" => ((fail_if_success (k_extra "past right")); (refine stopHere ?_))
  exact True.intro
example : True := by
  k_with "CompSrc" => ((fail_if_success (k_extra "past right")); (k_dflt (refine' compSrc_lst ?hh ?hF ?hN ?hm ?hn ?sz ?_; (case hh => rfl); (case hF => k_asm); (case hN => k_asm); (case hm => k_mem); (case hn => (show _ = 2; rfl)); (case sz => decide)); intro g'))
  exact True.intro
example : True := by
  k_with "k_mem" => ((fail_if_success (k_extra "past right")); first | exact List.Mem.head _ | (refine' List.Mem.tail _ ?_; k_mem) | assumption | (refine List.mem_append_right _ ?_; k_mem))
  exact True.intro
example : True := by
  k_with "CompEnd" => ((fail_if_success (k_extra "past right")); (k_dflt (refine' compEnd ?hF ?hN ?hD ?hO ?hS ?_; (case hF => k_asm); (case hN => k_asm); (case hD => repeat (first | exact Drop3.here | apply Drop3.keep | apply Drop3.app)); (case hO => first | with_reducible assumption | exact off3_new (by with_reducible assumption) (by with_reducible assumption) | lcg_off); (case hS => first | (refine' srcAt_mem ?q9; (case q9 => k_mem)) | (refine Or.inr ?_; k_mem) | exact SX.ofK (by assumption) (by k_is)))))
  exact True.intro
example : True := by
  k_with "ForAt" => ((fail_if_success (k_extra "past right")); (refine stopHere ?_))
  exact True.intro
example : True := by
  k_with "exec For Name List cons nil" => ((fail_if_success (k_extra "past right")); (k_here; refine for_at ?_))
  exact True.intro
example : True := by
  k_with "call ref" => ((fail_if_success (k_extra "past right")); (k_here; (with_reducible show wpAny _ _ (call (Value.ref 260) _) _ _ _); k_dflt (refine' lcounts_t ?kB ?kF ?kX ?kT ?kK ?kD ?kU ?kN ?kM ?kR ?kS ?k1 ?k2 ?k3 ?k4 ?_; (case kB => k_asm); (case kF => k_asm); (case kX => k_asm); (case kT => k_asm); (case kK => first | with_reducible assumption | exact rfl | assumption); (case kD => ktr_room); (case kU => ktr_units); (case kN => k_asm); (case kM => k_mem); (case kR => k_asm); (case kS => (repeat (first | exact sub_refl | assumption | exact sub_appl | exact sub_nil | (refine sub_cons ?_ ?_; k_mem) | refine sub_tail ?_ | refine sub_apr ?_))); (case k1 => k_asm); (case k2 => k_asm); (case k3 => k_asm); (case k4 => k_asm); k_whole); intro fd' o' ext' h' tk' F' N' HT' HF' C' lo'))
  exact True.intro
theorem right_m (B : Below A₀ base outer h₀) (F : Fr h₀ L s.heap m) (X : (hd.heap_39 w.params).In h₀) (T : Top p loose mean mg mb h₀) (hk : cs.kind = .function) (hdp : dp + 60 < recursionLimit) (hun : un + 500 < cLine) {C : Cn} {d1 d2 L1 L2 : Addr} {o1 o2 ldo : Obj} {vs1 vs2 : List Value} {n1 n2 : Nat} {rows1 rows2 : List Row} {sg : Ldg} {tb : Tok} (hC : CnOk prog w C)
  (N : News h₀ L s.heap nw) (hm1 : (C.c, instObj 202 C.dc) ∈ nw) (hm2 : (C.dc, dictOf [⟨C.hb, .str "bits" C.tb, .int C.b C.tkc⟩, ⟨C.hp, .str "ports" C.tp, .ref C.pd⟩] 2) ∈ nw) (hm3 : (C.pd, C.po) ∈ nw)
  (hm4 : (C.p1, instObj 123 C.dp1) ∈ nw) (hm5 : (C.dp1, dictOf [⟨C.hb1, .str "bits" C.tb1, .int C.b C.tk1⟩, ⟨C.hc1, .str "counts" C.tc1, .ref d1⟩] 2) ∈ nw) (hm6 : (d1, o1) ∈ nw)
  (hm7 : (C.p2, instObj 123 C.dp2) ∈ nw) (hm8 : (C.dp2, dictOf [⟨C.hb2, .str "bits" C.tb2, .int C.b C.tk2⟩, ⟨C.hc2, .str "counts" C.tc2, .ref d2⟩] 2) ∈ nw) (hm9 : (d2, o2) ∈ nw)
  (hm10 : (C.ld, ldo) ∈ nw) (hm11 : (L1, listOf (List.toArray vs1) n1) ∈ nw) (hm12 : (L2, listOf (List.toArray vs2) n2) ∈ nw)
  (S : ∀ p ∈ sg, p ∈ nw) (C1 : CD prog w sg o1 (counts (2 ^ C.b.toNat) rows1)) (C2 : CD prog w sg o2 (counts (2 ^ C.b.toNat) rows2)) (R1 : RowRefs sg vs1 rows1) (R2 : RowRefs sg vs2 rows2)
  (D : ldo.IsDictOf (PySem.intKind prog w) [(1, .ref L1), (2, .ref L2)]) (lo1 : (d1 == sysModules) = false) (lo2 : (d2 == sysModules) = false)
  (k1 : ∀ r ∈ rows1, RowOk r) (k2 : ∀ r ∈ rows2, RowOk r) (len1 : rows1.length ≤ 12) (len2 : rows2.length ≤ 12)
  (hret : ∀ h' tk', Fr h₀ L h' m → News h₀ L h' nw → Q (.bool true) { s with heap := h', toks := tk' }) :
  wpAny (model prog w) (ktrTop dp un gd cn cs L a ccd cl outer) (call (.ref 279) [.ref C.c, .ref C.ld, .int C.b tb]) Q E s := by
  obtain ⟨hP, hlo, hlol, hb0, hb1⟩ := hC
  refine wpAny_call ?_
  k_dflt k_enter
  (skip; have N' := True.intro; have l1 := True.intro; have T' := True.intro; have X' := True.intro; have B' := True.intro; have F' := True.intro; have FG' := True.intro; have tk' := True.intro; have h' := True.intro; have L' := True.intro; have g' := True.intro)
  rename_i g1 K h1 tk1 FG1 F1 B1 X1 T1 lK oN oU oP oB oL oC dN dU dP dB dL dC N1
  clear N' l1 T' X' B' F' FG' tk' h' L' g'
  replace dN : oN.data = .cell none := dN
  replace dU : oU.data = .cell none := dU
  replace dP : oP.data = .cell none := dP
  replace dB : oB.data = .cell (some (.int C.b tb)) := dB
  replace dL : oL.data = .cell (some (.ref C.ld)) := dL
  replace dC : oC.data = .cell (some (.ref C.c)) := dC
  have up : ∀ p ∈ nw, p ∈ (K + 1 + 1 + 1, oB) :: (K + 1 + 1, oL) :: (K + 1, oC) :: nw := fun p hp => .tail _ (.tail _ (.tail _ hp))
  have cB : (K + 1 + 1 + 1, oB) ∈ (K + 1 + 1 + 1, oB) :: (K + 1 + 1, oL) :: (K + 1, oC) :: nw := .head _
  have cL : (K + 1 + 1, oL) ∈ (K + 1 + 1 + 1, oB) :: (K + 1 + 1, oL) :: (K + 1, oC) :: nw := .tail _ (.head _)
  have cC : (K + 1, oC) ∈ (K + 1 + 1 + 1, oB) :: (K + 1 + 1, oL) :: (K + 1, oC) :: nw := .tail _ (.tail _ (.head _))
  have lA : ∀ p ∈ (K + 1 + 1 + 1, oB) :: (K + 1 + 1, oL) :: (K + 1, oC) :: nw, @LT.lt Nat _ p.1 (K + 1 + 1 + 1 + 1) := cells_lt lK
  generalize (K + 1 + 1 + 1, oB) :: (K + 1 + 1, oL) :: (K + 1, oC) :: nw = nwA at N1 up cB cL cC lA
  replace hm1 := up _ hm1; replace hm2 := up _ hm2; replace hm3 := up _ hm3; replace hm4 := up _ hm4; replace hm5 := up _ hm5; replace hm6 := up _ hm6
  replace hm7 := up _ hm7; replace hm8 := up _ hm8; replace hm9 := up _ hm9; replace hm10 := up _ hm10; replace hm11 := up _ hm11; replace hm12 := up _ hm12
  replace S := fun p hp => up p (S p hp)
  replace hret : ∀ h' tk', Fr h₀ L h' m → News h₀ L h' nwA → Q (.bool true) { s with heap := h', toks := tk' } := fun h' tk' F' N' => hret h' tk' F' (news_sub N' up)
  clear N lK up
  k_steps
  (skip; have lo' := True.intro; have C' := True.intro; have HF' := True.intro; have HT' := True.intro; have tk' := True.intro; have h' := True.intro; have ext' := True.intro; have o' := True.intro; have fd' := True.intro; have hx' := True.intro; have ne' := True.intro; have off' := True.intro; have hC' := True.intro; have E' := True.intro; have m' := True.intro; have D' := True.intro; have oC' := True.intro; have oI' := True.intro; have I' := True.intro; have g' := True.intro)
  rename_i fda oa exta ha tka HTa HFa Ca loa I2 oI2 Cc2 oCc2 Dd2 m2 h2 tk2 E2 hC2 off2 ne2 hx2 cE2 fdb ob extb hb tkb HTb HFb Cb lob DD hD tkD oD ll h3 F3 N3 l3
  clear lo' C' HF' HT' tk' h' ext' o' fd' hx' ne' off' hC' E' m' D' oC' oI' I' g'
  obtain ⟨nwB, N4, upB, mD, mA, mB, Sa, Sb, nP, nU, nN, lN, lU, lP⟩ := mix N3 oD HFb (fun p hp => .tail _ (.tail _ (.tail _ (.tail _ (List.mem_append_right _ (.tail _ hp)))))) HFa (fun p hp => .tail _ (.tail _ (.tail _ (.tail _ hp)))) l3 lA (Nat.lt_succ_self _) (Nat.lt_succ_self _)
  replace hm1 := upB _ hm1; replace hm2 := upB _ hm2; replace hm3 := upB _ hm3; replace hm4 := upB _ hm4; replace hm5 := upB _ hm5; replace hm6 := upB _ hm6
  replace hm7 := upB _ hm7; replace hm8 := upB _ hm8; replace hm9 := upB _ hm9; replace hm10 := upB _ hm10; replace hm11 := upB _ hm11; replace hm12 := upB _ hm12
  replace cB := upB _ cB; replace cL := upB _ cL; replace cC := upB _ cC
  replace S := fun p hp => upB p (S p hp)
  replace hret : ∀ h' tk', Fr h₀ L h' m → News h₀ L h' nwB → Q (.bool true) { s with heap := h', toks := tk' } := fun h' tk' F' N' => hret h' tk' F' (news_sub N' upB)
  clear N3 oD HFb HFa l3 lA upB
  have h64a : (counts (2 ^ C.b.toNat) rows1).length < 64 := counts_64 len1
  have h64b : (counts (2 ^ C.b.toNat) rows2).length < 64 := counts_64 len2
  have h1a : (counts (2 ^ C.b.toNat) rows1).length ≠ 1 := counts_ne1
  have h1b : (counts (2 ^ C.b.toNat) rows2).length ≠ 1 := counts_ne1
  have hna : ∀ x ∈ counts (2 ^ C.b.toNat) rows1, x.1 ≠ [] := counts_ne
  have hnb : ∀ x ∈ counts (2 ^ C.b.toNat) rows2, x.1 ≠ [] := counts_ne
  have hokA := told_counts_ok (M := 2 ^ C.b.toNat) k1
  have hokB := told_counts_ok (M := 2 ^ C.b.toNat) k2
  generalize hal1 : counts (2 ^ C.b.toNat) rows1 = al1 at C1 Ca h64a h1a hna hokA
  generalize hal2 : counts (2 ^ C.b.toNat) rows2 = al2 at C2 Cb h64b h1b hnb hokB
  replace hal1 := hal1.symm
  replace hal2 := hal2.symm
  replace mD : (DD, listOf (List.toArray [.ref fda, .ref fdb]) 2) ∈ nwB := mD
  unfold Stopped
  refine for_list (RJ1 _ ll _ _ oN _ _ nwB) rfl F3 N4 (.head _) trivial (by passes_own) ⟨rfl, oU, oP, rfl, ⟨_, dU⟩, ⟨_, dP⟩⟩ ?_ ?_
  · intro i v m4 nws I oI h4 tk4 hi hv hJ hml F4 N5 off hIt
    obtain ⟨rfl, oU2, oP2, rfl, ⟨vU, dU2⟩, ⟨vP, dP2⟩⟩ := hJ
    obtain ⟨nI1, nI2, nI3, nI4, nI5⟩ := off
    have nI5' := off1_mem nI5
    replace F4 : Fr g1 K h4 _ := F4
    replace N5 : News g1 K h4 _ := N5
    dsimp only at nI1 nI2 nI3 nI4
    replace lN := ltN lN
    replace lU := ltN lU
    replace lP := ltN lP
    rcases i with _ | _ | i
    · -- port 1
      obtain rfl := Option.some.inj hv
      k_steps
      (skip; have H' := True.intro; have l1 := True.intro; have N' := True.intro; have F' := True.intro; have tk' := True.intro; have h' := True.intro; have c' := True.intro; have vs' := True.intro; have D' := True.intro; have hD' := True.intro; have hT' := True.intro; have ext' := True.intro; have n' := True.intro; have ys' := True.intro; have hx' := True.intro; have ne' := True.intro; have off' := True.intro; have hC' := True.intro; have E' := True.intro; have m' := True.intro; have oC' := True.intro; have C' := True.intro; have oI' := True.intro; have I' := True.intro; have g' := True.intro)
      rename_i hS5 oU3 FS5 NS5 dU3 DT ysT nT extT hT5 tkT FT NT TT DaT DS vsS cS hS6 tkS FS NS lS HS
      clear H' l1 N' F' tk' h' c' vs' D' hD' hT' ext' n' ys' hx' ne' off' hC' E' m' oC' C' oI' I' g'
      obtain ⟨nwC, NC, upC⟩ := gen_led NS
      have subB : ∀ p ∈ nwB, p ∈ nwC := fun p hp => upC p (.tail _ (.tail _ (List.mem_append_right _ (.tail _ (.tail _ (.tail _ (.tail _ (.tail _ hp))))))))
      have subL := fun p hp => upC p (.tail _ (.tail _ (List.mem_append_right extT hp)))
      have mS := upC _ (List.Mem.head _)
      have mT := upC _ (List.Mem.tail _ (List.Mem.head _))
      have ST : ∀ p ∈ extT ++ sg, p ∈ nwC := fun p hp => (List.mem_append.mp hp).elim (fun q => upC p (.tail _ (.tail _ (List.mem_append_left _ q)))) fun q => subB p (S p q)
      have Sa3 : ∀ p ∈ exta, p ∈ nwC := fun p hp => subB p (Sa p hp)
      have mA3 := subB _ mA
      have cU3 := subL _ (.tail _ (.tail _ (.tail _ (.head _))))
      unfold Stopped
      have hlen : vsS.length = al1.length := by rw [HS.length, sorted_length]; simp
      refine CompX.lst (n := vsS.length) rfl FS NC mS rfl (by rw [hlen, sizeLine_eq]; omega) ?_
      intro g9
      refine restT_inv (ToldJ al1 (sortedKeys (al1.map (·.1))) exta _) toldJ_zero ?_ ?_
      · intro i ys nws v I9 oI9 C9 oC9 D9 m9 h9 tk9 E9 hi9 hJ9 hv9 hC9 hx9 F9 N9 off9 ne9
        obtain ⟨ext9, rfl, hT9, hD9⟩ := hJ9
        obtain ⟨hik, ka, ko, rfl, hmk, hko⟩ := HS.at (.inr hv9)
        have hin := has_of_mem (sorted_mem i hik)
        have S9 : ∀ p ∈ exta, p ∈ ext9 ++ nwC := fun p hp => List.mem_append_right _ (Sa3 p hp)
        have hkm : (ka, ko) ∈ ext9 ++ nwC := S9 _ hmk
        have cU9 := List.mem_append_right ext9 cU3
        have mA9 := List.mem_append_right ext9 mA3
        have mS9 := List.mem_append_right ext9 mS
        k_steps
        all_goals first | exact toldJ_more hT9 hD9 hik hmk hko (by first | assumption | omega | simp_all) | exact toldJ_skip hT9 hD9 hik (by first | assumption | omega | simp_all)
      · intro ys nws hJ9
        obtain ⟨ext9, rfl, hT9, hD9⟩ := hJ9
        rw [hlen, show al1.length = (sortedKeys (al1.map (·.1))).length by rw [sorted_length]; simp, List.take_length] at hD9
        replace hD9 : DatAll (ext9 ++ exta) ys (told_ al1) := hD9
        have SE : ∀ p ∈ ext9 ++ exta, p ∈ ext9 ++ nwC := fun p hp => (List.mem_append.mp hp).elim (List.mem_append_left _) fun q => List.mem_append_right _ (Sa3 p q)
        k_steps
        (skip; have hx' := True.intro; have ne' := True.intro; have off' := True.intro; have hC' := True.intro; have E' := True.intro; have tk' := True.intro; have h' := True.intro; have m' := True.intro; have D' := True.intro; have oC' := True.intro; have C' := True.intro; have oI' := True.intro; have I' := True.intro; have g' := True.intro)
        rename_i DC hC6 tkC oC6 LW hW FW NW lW
        clear hx' ne' off' hC' E' tk' h' m' D' oC' C' oI' I' g'
        obtain ⟨nwD, ND, upD⟩ := gen_led NW
        have mW := upD _ (List.Mem.head _)
        have subC : ∀ p ∈ nwC, p ∈ nwD := fun p hp => upD p (.tail _ (.tail _ (List.mem_append_right _ hp)))
        replace subB := fun p hp => subC p (subB p hp)
        replace subL := fun p hp => subC p (subL p hp)
        have hmm1 := subB _ hm1; have hmm2 := subB _ hm2; have hmm3 := subB _ hm3; have hmm4 := subB _ hm4; have hmm5 := subB _ hm5; have hmm6 := subB _ hm6
        have hmm7 := subB _ hm7; have hmm8 := subB _ hm8; have hmm9 := subB _ hm9
        have cC6 := subB _ cC
        have cP6 := subL _ (.tail _ (.tail _ (.tail _ (.tail _ (.head _)))))
        have S6 : ∀ p ∈ sg, p ∈ nwD := fun p hp => subB p (S p hp)
        unfold Stopped
        refine CompX.lst (n := 2) rfl FW ND mW rfl (by decide) ?_
        intro g8
        refine restT_inv (NoneJ nwD) ⟨rfl, rfl⟩ ?_ ?_
        · intro i ys nws v I9 oI9 C9 oC9 D9 m9 h9 tk9 E9 hi9 hJ9 hv9 hC9 hx9 F9 N9 off9 ne9
          obtain ⟨rfl, rfl⟩ := hJ9
          have hv8 : ∃ y t, v = .str y t := by
            rcases i with _ | _ | i
            · exact ⟨_, _, (Option.some.inj hv9).symm⟩
            · exact ⟨_, _, (Option.some.inj hv9).symm⟩
            · exact absurd hi9 (by omega)
          obtain ⟨y8, t8, rfl⟩ := hv8
          k_steps
          all_goals exact ⟨rfl, rfl⟩
        · intro ys nws hJ9
          obtain ⟨rfl, rfl⟩ := hJ9
          k_steps
          (skip; have hx' := True.intro; have ne' := True.intro; have off' := True.intro; have hC' := True.intro; have E' := True.intro; have tk' := True.intro; have h' := True.intro; have m' := True.intro; have D' := True.intro; have oC' := True.intro; have C' := True.intro; have oI' := True.intro; have I' := True.intro; have g' := True.intro)
          rename_i D7 h7 tk7 o7 l7 hh7 F7 N7 l71
          clear hx' ne' off' hC' E' tk' h' m' D' oC' C' oI' I' g'
          unfold Stopped
          exact FEnd.next F7 N7 (fun p hp => .tail _ (.tail _ (subL p hp))) ⟨nI1, nI2, nI3, nI4, nI5⟩ (.head _) ⟨rfl, oU3, _, rfl, ⟨_, dU3⟩, ⟨_, by assumption⟩⟩
    · -- port 2
      obtain rfl := Option.some.inj hv
      k_steps
      (skip; have H' := True.intro; have l1 := True.intro; have N' := True.intro; have F' := True.intro; have tk' := True.intro; have h' := True.intro; have c' := True.intro; have vs' := True.intro; have D' := True.intro; have hD' := True.intro; have hT' := True.intro; have ext' := True.intro; have n' := True.intro; have ys' := True.intro; have hx' := True.intro; have ne' := True.intro; have off' := True.intro; have hC' := True.intro; have E' := True.intro; have m' := True.intro; have oC' := True.intro; have C' := True.intro; have oI' := True.intro; have I' := True.intro; have g' := True.intro)
      rename_i hS5 oU3 FS5 NS5 dU3 DT ysT nT extT hT5 tkT FT NT TT DaT DS vsS cS hS6 tkS FS NS lS HS
      clear H' l1 N' F' tk' h' c' vs' D' hD' hT' ext' n' ys' hx' ne' off' hC' E' m' oC' C' oI' I' g'
      obtain ⟨nwC, NC, upC⟩ := gen_led NS
      have subB : ∀ p ∈ nwB, p ∈ nwC := fun p hp => upC p (.tail _ (.tail _ (List.mem_append_right _ (.tail _ (.tail _ (.tail _ (.tail _ (.tail _ hp))))))))
      have subL := fun p hp => upC p (.tail _ (.tail _ (List.mem_append_right extT hp)))
      have mS := upC _ (List.Mem.head _)
      have mT := upC _ (List.Mem.tail _ (List.Mem.head _))
      have ST : ∀ p ∈ extT ++ sg, p ∈ nwC := fun p hp => (List.mem_append.mp hp).elim (fun q => upC p (.tail _ (.tail _ (List.mem_append_left _ q)))) fun q => subB p (S p q)
      have Sb3 : ∀ p ∈ extb, p ∈ nwC := fun p hp => subB p (Sb p hp)
      have mA3 := subB _ mB
      have cU3 := subL _ (.tail _ (.tail _ (.tail _ (.head _))))
      unfold Stopped
      have hlen : vsS.length = al2.length := by rw [HS.length, sorted_length]; simp
      refine CompX.lst (n := vsS.length) rfl FS NC mS rfl (by rw [hlen, sizeLine_eq]; omega) ?_
      intro g9
      refine restT_inv (ToldJ al2 (sortedKeys (al2.map (·.1))) extb _) toldJ_zero ?_ ?_
      · intro i ys nws v I9 oI9 C9 oC9 D9 m9 h9 tk9 E9 hi9 hJ9 hv9 hC9 hx9 F9 N9 off9 ne9
        obtain ⟨ext9, rfl, hT9, hD9⟩ := hJ9
        obtain ⟨hik, ka, ko, rfl, hmk, hko⟩ := HS.at (.inr hv9)
        have hin := has_of_mem (sorted_mem i hik)
        have S9 : ∀ p ∈ extb, p ∈ ext9 ++ nwC := fun p hp => List.mem_append_right _ (Sb3 p hp)
        have hkm : (ka, ko) ∈ ext9 ++ nwC := S9 _ hmk
        have cU9 := List.mem_append_right ext9 cU3
        have mA9 := List.mem_append_right ext9 mA3
        have mS9 := List.mem_append_right ext9 mS
        k_steps
        all_goals first | exact toldJ_more hT9 hD9 hik hmk hko (by first | assumption | omega | simp_all) | exact toldJ_skip hT9 hD9 hik (by first | assumption | omega | simp_all)
      · intro ys nws hJ9
        obtain ⟨ext9, rfl, hT9, hD9⟩ := hJ9
        rw [hlen, show al2.length = (sortedKeys (al2.map (·.1))).length by rw [sorted_length]; simp, List.take_length] at hD9
        replace hD9 : DatAll (ext9 ++ extb) ys (told_ al2) := hD9
        have SE : ∀ p ∈ ext9 ++ extb, p ∈ ext9 ++ nwC := fun p hp => (List.mem_append.mp hp).elim (List.mem_append_left _) fun q => List.mem_append_right _ (Sb3 p q)
        k_steps
        (skip; have hx' := True.intro; have ne' := True.intro; have off' := True.intro; have hC' := True.intro; have E' := True.intro; have tk' := True.intro; have h' := True.intro; have m' := True.intro; have D' := True.intro; have oC' := True.intro; have C' := True.intro; have oI' := True.intro; have I' := True.intro; have g' := True.intro)
        rename_i DC hC6 tkC oC6 LW hW FW NW lW
        clear hx' ne' off' hC' E' tk' h' m' D' oC' C' oI' I' g'
        obtain ⟨nwD, ND, upD⟩ := gen_led NW
        have mW := upD _ (List.Mem.head _)
        have subC : ∀ p ∈ nwC, p ∈ nwD := fun p hp => upD p (.tail _ (.tail _ (List.mem_append_right _ hp)))
        replace subB := fun p hp => subC p (subB p hp)
        replace subL := fun p hp => subC p (subL p hp)
        have hmm1 := subB _ hm1; have hmm2 := subB _ hm2; have hmm3 := subB _ hm3; have hmm4 := subB _ hm4; have hmm5 := subB _ hm5; have hmm6 := subB _ hm6
        have hmm7 := subB _ hm7; have hmm8 := subB _ hm8; have hmm9 := subB _ hm9
        have cC6 := subB _ cC
        have cP6 := subL _ (.tail _ (.tail _ (.tail _ (.tail _ (.head _)))))
        have S6 : ∀ p ∈ sg, p ∈ nwD := fun p hp => subB p (S p hp)
        unfold Stopped
        refine CompX.lst (n := 2) rfl FW ND mW rfl (by decide) ?_
        intro g8
        refine restT_inv (NoneJ nwD) ⟨rfl, rfl⟩ ?_ ?_
        · intro i ys nws v I9 oI9 C9 oC9 D9 m9 h9 tk9 E9 hi9 hJ9 hv9 hC9 hx9 F9 N9 off9 ne9
          obtain ⟨rfl, rfl⟩ := hJ9
          have hv8 : ∃ y t, v = .str y t := by
            rcases i with _ | _ | i
            · exact ⟨_, _, (Option.some.inj hv9).symm⟩
            · exact ⟨_, _, (Option.some.inj hv9).symm⟩
            · exact absurd hi9 (by omega)
          obtain ⟨y8, t8, rfl⟩ := hv8
          k_steps
          all_goals exact ⟨rfl, rfl⟩
        · intro ys nws hJ9
          obtain ⟨rfl, rfl⟩ := hJ9
          k_steps
          (skip; have hx' := True.intro; have ne' := True.intro; have off' := True.intro; have hC' := True.intro; have E' := True.intro; have tk' := True.intro; have h' := True.intro; have m' := True.intro; have D' := True.intro; have oC' := True.intro; have C' := True.intro; have oI' := True.intro; have I' := True.intro; have g' := True.intro)
          rename_i D7 h7 tk7 o7 l7 hh7 F7 N7 l71
          clear hx' ne' off' hC' E' tk' h' m' D' oC' C' oI' I' g'
          unfold Stopped
          exact FEnd.next F7 N7 (fun p hp => .tail _ (.tail _ (subL p hp))) ⟨nI1, nI2, nI3, nI4, nI5⟩ (.head _) ⟨rfl, oU3, _, rfl, ⟨_, dU3⟩, ⟨_, by assumption⟩⟩
    · exact absurd hi (by simp)
  · intro m6 nws6 h6 tk6 hJ6 F6 N6
    obtain ⟨rfl, oU6, oP6, rfl, ⟨vU6, dU6⟩, ⟨vP6, dP6⟩⟩ := hJ6
    replace F6 : Fr g1 K h6 _ := F6
    replace N6 : News g1 K h6 _ := N6
    k_steps
    (skip; have hx' := True.intro; have ne' := True.intro; have off' := True.intro; have hC' := True.intro; have E' := True.intro; have tk' := True.intro; have h' := True.intro; have m' := True.intro; have D' := True.intro; have oC' := True.intro; have C' := True.intro; have oI' := True.intro; have I' := True.intro; have g' := True.intro)
    rename_i Da1 hda1 la1 Da2 hda2 la2 Da3 hda3 la3 l3 hl3 F8 N8 ll8
    clear hx' ne' off' hC' E' tk' h' m' D' oC' C' oI' I' g'
    repeat (rename _ ∧ _ => q9; obtain ⟨q91, q92⟩ := q9)
    obtain ⟨nwE, N9, upE, e1, e2, e3, nE⟩ := mix2 N8 (by assumption) (by assumption) (by assumption) lN (Nat.lt_succ_self _) (Nat.lt_succ_of_lt (Nat.lt_succ_self _)) nN
    replace hm1 := upE _ hm1; replace hm2 := upE _ hm2; replace hm3 := upE _ hm3; replace hm4 := upE _ hm4; replace hm5 := upE _ hm5; replace hm6 := upE _ hm6
    replace hm7 := upE _ hm7; replace hm8 := upE _ hm8; replace hm9 := upE _ hm9
    replace cC := upE _ cC
    replace mA := upE _ mA; replace mB := upE _ mB; replace mD := upE _ mD
    replace S := fun p hp => upE p (S p hp)
    replace Sa := fun p hp => upE p (Sa p hp)
    replace Sb := fun p hp => upE p (Sb p hp)
    have lN3 : @LT.lt Nat _ (K + 1 + 1 + 1 + 1 + 1 + 1) l3 := by assumption
    unfold Stopped
    refine for_list (RJ2 [Str.ofString "told"] _ [(l3, _)] _ nwE) rfl F8 N9 (.head _) trivial (by passes_own) ⟨MapJ.refl, oN, rfl, _, dN⟩ ?_ ?_
    · intro i v m4 nws I oI h4 tk4 hi hv hJ hml F4 N5 off hIt
      obtain ⟨⟨u4, rfl⟩, oN4, rfl, ⟨vN4, dN4⟩⟩ := hJ
      simp only [List.cons_append, List.nil_append] at N5 off
      obtain ⟨nI1, nI2, nI5⟩ := off
      have nI5' := off1_mem nI5
      replace F4 : Fr g1 K h4 _ := F4
      replace N5 : News g1 K h4 _ := N5
      dsimp only at nI1 nI2
      have hv8 : ∃ ka ko k, v = .ref ka ∧ (ka, ko) ∈ nwE ∧ KeyO ko k := by
        rcases i with _ | _ | _ | i
        · exact ⟨_, _, _, (Option.some.inj hv).symm, e1, strs_key (.cons (.cons .nil))⟩
        · exact ⟨_, _, _, (Option.some.inj hv).symm, e2, strs_key (.cons (.cons .nil))⟩
        · exact ⟨_, _, _, (Option.some.inj hv).symm, e3, strs_key (.cons (.cons .nil))⟩
        · exact absurd hi (by simp)
      obtain ⟨ka, ko, key, rfl, hka, hko⟩ := hv8
      k_steps
      unfold Stopped
      refine CompX.lst (n := 2) rfl (by k_asm) (by k_asm) (by k_mem) rfl (by decide) ?_
      intro g7
      k_steps
      all_goals unfold Stopped
      all_goals first
        | (exfalso; omega)
        | ((skip; have N' := True.intro; have F' := True.intro; have tk' := True.intro; have h' := True.intro; have t' := True.intro; have n' := True.intro; have hx' := True.intro; have ne' := True.intro; have off' := True.intro; have hC' := True.intro; have E' := True.intro; have m' := True.intro; have D' := True.intro; have oC' := True.intro; have C' := True.intro; have oI' := True.intro; have I' := True.intro; have g' := True.intro); rename_i h9 tk9 t9 F9 N9 a9; clear N' F' tk' h' t' n' hx' ne' off' hC' E' m' D' oC' C' oI' I' g'; refine FEnd.next F9 N9 (fun p hp => .tail _ (.tail _ (.tail _ hp))) (by exact ⟨nI1, nI2, nI5⟩) (by exact List.Mem.head _) ?_; refine ⟨?_, _, rfl, _, by assumption⟩; repeat (first | exact MapJ.base | refine MapJ.store (by decide) ?_))
    · intro m7 nws7 h7 tk7 hJ7 F7 N7
      obtain ⟨⟨u7, rfl⟩, oN7, rfl, ⟨vN7, dN7⟩⟩ := hJ7
      replace F7 : Fr g1 K h7 _ := F7
      replace N7 : News g1 K h7 _ := N7
      k_steps
      all_goals exact hret _ _ (by assumption) (news_sub (by assumption) fun p hp => .tail _ (.tail _ (upE p hp)))
example : True := by
  k_with "past right" => (skip)
  exact True.intro
/-! block rightc -/
theorem right_c (B : Below A₀ base outer h₀) (F : Fr h₀ L s.heap m) (X : (hd.heap_39 w.params).In h₀) (T : Top p loose mean mg mb h₀) (hk : cs.kind = .function) (hdp : dp + 60 < recursionLimit) (hun : un + 500 < cLine) {C : Cn} {bs : Ldg} {i : Nat} {tb : Tok} (hC : CnOk prog w C) (N : News h₀ L s.heap nw) (hS : St prog w C bs i nw) (hi : i ≤ 12)
  (hret : ∀ h' tk', Fr h₀ L h' m → News h₀ L h' nw → Q (.bool true) { s with heap := h', toks := tk' }) :
  wpAny (model prog w) (ktrTop dp un gd cn cs L a ccd cl outer) (call (.ref 279) [.ref C.c, .ref C.ld, .int C.b tb]) Q E s := by
  obtain ⟨fa, ls, hG, hla, hok⟩ := hS
  obtain ⟨x, y, tx, ty, n, d1, o1, d2, o2, vs1, n1, vs2, n2, ldo, ext, rfl, Y⟩ := hG
  exact right_m B F X T hk hdp hun hC N (by dsimp only [sysL]; k_mem) (by dsimp only [sysL]; k_mem) (by dsimp only [sysL]; k_mem) (by dsimp only [sysL]; k_mem) (by dsimp only [sysL]; k_mem) (by dsimp only [sysL]; k_mem) (by dsimp only [sysL]; k_mem) (by dsimp only [sysL]; k_mem) (by dsimp only [sysL]; k_mem) (by dsimp only [sysL]; k_mem) (by dsimp only [sysL]; k_mem) (by dsimp only [sysL]; k_mem)
    (sg := ext ++ bs) (by dsimp only [sysL]; repeat (first | exact sub_refl | refine sub_tail ?_)) Y.C1 Y.C2 Y.R1 Y.R2 Y.D Y.lo1 Y.lo2 (hok 1) (hok 2) (Nat.le_trans (hla 1) hi) (Nat.le_trans (hla 2) hi) hret
theorem btw_c (B : Below A₀ base outer h₀) (F : Fr h₀ L s.heap m) (X : (hd.heap_39 w.params).In h₀) (T : Top p loose mean mg mb h₀) (hk : cs.kind = .function) (hdp : dp + 10 < recursionLimit) (hun : un + 80 < cLine) {old new b : Int} {t1 t2 t3 : Tok} (N : News h₀ L s.heap nw) (hb0 : 0 ≤ b) (hb1 : b ≤ 32) (ho0 : 0 ≤ old) (ho1 : old ≤ 4294967296) (hn0 : 0 ≤ new) (hn1 : new ≤ 4294967296)
  (hret : ∀ t h' tk', Fr h₀ L h' m → News h₀ L h' nw → Q (.int ((new - old).fmod (2 ^ b.toNat)) t) { s with heap := h', toks := tk' }) :
  wpAny (model prog w) (ktrTop dp un gd cn cs L a ccd cl outer) (call (.ref 84) [.int old t1, .int new t2, .int b t3]) Q E s := by
  refine wpAny_call ?_
  k_dflt k_enter
  k_steps
  all_goals exact hret _ _ _ (by assumption) (by assumption)
example : True := by
  k_with "call ref" => ((k_here; (with_reducible show wpAny _ _ (call (Value.ref 279) _) _ _ _); k_dflt (refine' right_c ?kB ?kF ?kX ?kT ?kK ?kD ?kU ?kC ?kN ?kS ?kI ?_; (case kB => k_asm); (case kF => k_asm); (case kX => k_asm); (case kT => k_asm); (case kK => first | with_reducible assumption | exact rfl | assumption); (case kD => ktr_room); (case kU => ktr_units); (case kC => k_asm); (case kN => k_asm); (case kS => k_asm); (case kI => omega); k_whole); intro h' tk' F' N'))
  k_with "call ref" => ((k_here; (with_reducible show wpAny _ _ (call (Value.ref 84) _) _ _ _); k_dflt (refine' btw_c ?kB ?kF ?kX ?kT ?kK ?kD ?kU ?kN ?b0 ?b1 ?o0 ?o1 ?n0 ?n1 ?_; (case kB => k_asm); (case kF => k_asm); (case kX => k_asm); (case kT => k_asm); (case kK => first | with_reducible assumption | exact rfl | assumption); (case kD => ktr_room); (case kU => ktr_units); (case kN => k_asm); (case b0 => k_asm); (case b1 => k_asm); (case o0 => k_asm); (case o1 => k_asm); (case n0 => k_asm); (case n1 => k_asm); k_whole); intro t' h' tk' F' N'))
  exact True.intro
/-! block serr -/
theorem meta_Exception : typeOf (.type "Exception") = pure (.type "type") := by kernel_rfl
example : True := by
  k_with "getMethod type:Exception" => ((fail_if_success (k_extra "past serr")); (k_here; refine' method_type (v := .builtin "Exception.__init__") ?F ?X ?m (by decide +kernel) ?e ?h ?_; (case F => k_asm); (case X => k_asm); (case m => exact meta_Exception); (case e => k_dflt k_is); (case h => k_handed)))
  exact True.intro
example : True := by
  k_with "call builtin:Exception.__init__" => ((fail_if_success (k_extra "past serr")); (k_here; k_dflt (refine' exc_init (bm := [.ref 31, .type "Exception", .type "BaseException", .type "object"]) ?b ?C ?kF ?kN ?kU ?_; (case kF => k_asm); (case kN => k_asm); (case kU => k_updF); (case b => decide); (case C => exact (by assumption : (hd.heap_39 _).In _) 44 _ (by with_unfolding_all rfl)); k_whole); intro h' t' F' N'; (try dsimp only at N')))
  exact True.intro
example : True := by
  k_with "setAttr ref" => ((fail_if_success (k_extra "past serr")); (k_here; (with_reducible show wpAny _ _ (setAttr _ (Str.ofString "message") _) _ _ _); k_dflt (refine' exc_set (C1 := 31) ?X ?hc ?hm ?hd ?hs ?hf ?kF ?kN ?kU ?_; (case kF => k_asm); (case kN => k_asm); (case kU => k_updF); (case X => assumption); (case hc => with_unfolding_all rfl); (case hm => rfl); (case hd => rfl); (case hs => with_unfolding_all rfl); (case hf => with_unfolding_all rfl); k_whole); intro h' D' tk' F' N'; (try dsimp only at N')))
  exact True.intro
theorem serr_h (B : Below A₀ base outer h₀) (F : Fr h₀ L s.heap m) (X : (hd.heap_39 w.params).In h₀) (T : Top p loose mean mg mb h₀) (hk : cs.kind = .function) (hdp : dp + 10 < recursionLimit) (hun : un + 80 < cLine) {e t : Addr} {x : Str} {tk : Tok}
  (N : News h₀ L s.heap ((e, exO 44 none t) :: nw)) (hn : ∀ p ∈ nw, p.1 ≠ e)
  (hret : ∀ t' D h' tk', Fr h₀ L h' m → News h₀ L h' ((e, exO 44 (some D) t') :: nw) → Q .none { s with heap := h', toks := tk' }) :
  wpAny (model prog w) (ktrTop dp un gd cn cs L a ccd cl outer) (call (.ref 28) [.ref e, .str x tk]) Q E s := by
  refine wpAny_call ?_
  k_dflt k_enter
  k_steps
  all_goals exact hret _ _ _ _ (by assumption) (by assumption)
example : True := by
  k_with "past serr" => (skip)
  exact True.intro
/-! block te -/
theorem te_c (B : Below A₀ base outer h₀) (F : Fr h₀ L s.heap m) (X : (hd.heap_39 w.params).In h₀) (T : Top p loose mean mg mb h₀) (hk : cs.kind = .function) (hdp : dp + 20 < recursionLimit) (hun : un + 160 < cLine) {x : Str} {tk : Tok}
  (N : News h₀ L s.heap nw)
  (hret : ∀ e t D h' tk', Fr h₀ L h' m → News h₀ L h' ((e, exO 44 (some D) t) :: nw) → (∀ p ∈ nw, p.1 ≠ e) → Q (.ref e) { s with heap := h', toks := tk' }) :
  wpAny (model prog w) (ktrTop dp un gd cn cs L a ccd cl outer) (call (.ref 44) [.str x tk]) Q E s := by
  obtain ⟨hp, gs, dr, tn, os⟩ := s
  have Y := X.keeps F.keep
  refine own_call (C := 44) (bm := [.ref 31, .type "Exception", .type "BaseException", .type "object"]) (fI := 28) (by decide) (by decide) (by decide) (Y 44 _ (by with_unfolding_all rfl)) (looks_findIn Y (by with_unfolding_all rfl)) (Y 28 _ (by with_unfolding_all rfl)) (by with_unfolding_all rfl) (fun h' e hm => ?_) (by size_fits)
  rw [tcx]
  obtain ⟨t, h1, h2, h3⟩ := hm.there
  have eL : e ≠ L := fun q => by
    obtain ⟨o, _, _, ho, _⟩ := F.ns
    have z := hm.new
    rw [q] at z
    exact absurd (ho.symm.trans z) (by simp)
  have F' : Fr h₀ L h' m := by
    refine ⟨?_, fun b o q => hm.keeps _ _ (F.keep b o q), F.above⟩
    obtain ⟨o, es, ep, ho, r⟩ := F.ns
    exact ⟨o, es, ep, hm.keeps _ _ ho, r⟩
  have en : ∀ p ∈ nw, p.1 ≠ e := fun p hp q => by
    have z := hm.new
    rw [← q, (N p hp).1] at z
    cases z
  have N' : News h₀ L h' ((e, exO 44 none t) :: nw) := fun p hp => by
    rcases List.mem_cons.mp hp with rfl | hp
    · refine ⟨h1, eL, ?_⟩
      cases q : h₀.get? e with
      | none => rfl
      | some o => have := F.keep _ _ q; rw [hm.new] at this; cases this
    · exact ⟨hm.keeps _ _ (N p hp).1, (N p hp).2⟩
  exact serr_h (dp := dp + 1) (un := un + 1) (s := ⟨h', gs, dr, tn, os⟩) B F' X T hk (by omega) (by omega) N' en fun t' D h'' tk' F'' N'' => ⟨rfl, hret _ _ _ _ _ F'' N'' en⟩
theorem Raise_T {M : Model} {A : Around} {E : Value → Shared → Prop} {env : Env} {s : Shared} {h₀ : Heap} {w : World} {ex : Expr} {pos : Pos} {Q : Flow → Shared → Prop} (X : (hd.heap_39 w.params).In h₀) (hh : A.handled = none)
    (h : wpAny M A (eval ex env) (MadeT 44 h₀ E) E s) : wpAny M A (exec (.Raise (some ex) none pos) env) Q E s := by
  exact Raise_M (C := 44) (bm := [.ref 31, .type "Exception", .type "BaseException", .type "object"]) (X 44 _ (by with_unfolding_all rfl)) (by decide) hh h
example : True := by
  k_with "exec Raise some none" => ((k_here; k_dflt (refine' Raise_T ?kX ?hh ?_; (case kX => assumption); (case hh => first | assumption | exact rfl); k_whole)))
  k_with "call ref" => ((k_here; (with_reducible show wpAny _ _ (call (Value.ref 44) _) _ _ _); k_dflt (refine' te_c ?kB ?kF ?kX ?kT ?kK ?kD ?kU ?kN ?_; (case kB => k_asm); (case kF => k_asm); (case kX => k_asm); (case kT => k_asm); (case kK => first | with_reducible assumption | exact rfl | assumption); (case kD => ktr_room); (case kU => ktr_units); (case kN => k_asm); k_whole); intro e' t' D' h' tk' F' N' ne'))
  k_with "MadeT" => ((k_dflt (refine' madeT ?kF ?kN ?_; (case kF => k_asm); (case kN => k_asm); k_whole)))
  k_with "leaving ref" => ((k_here; k_dflt (refine' leave_E ?kK ?kF ?kN ?kE ?_; (case kK => assumption); (case kF => assumption); (case kN => k_asm); (case kE => k_asm); k_whole); intro h' R' U'; (try dsimp only at R' U' ⊢)))
  exact True.intro
/-! block raises -/
example : True := by
  k_with "compareOp NotIn int ref" => ((fail_if_success (k_extra "past raises")); (k_here; k_dflt (refine' kdg_notin (knd := PySem.intKind _ _) ?kN ?kM ?kC ?kL (intKind_is _ _ _ _) false ?kE ?_; (case kN => k_asm); (case kC => k_asm); (case kM => k_mem); (case kL => k_asm); (case kE => first | rfl | (simp only [*]; rfl))); (try dsimp only [Bool.not_true, Bool.not_false])))
  exact True.intro
theorem kdg_in {K : Type} [DecidableEq K] {knd : KeyKind prog w K} {A : Around} {kvs : List (K × Value)} {k : K} {key : Value} {d : Addr} {o : Obj} {Q : Value → Shared → Prop} (N : News h₀ L s.heap nw) (hp : (d, o) ∈ nw) (hd : o.IsDictOf knd kvs) (lo : (d == sysModules) = false) (hkey : knd.is k key = true) (b : Bool) (hb : (valueAt kvs k).isSome = b) (h : Q (.bool b) { s with toks := s.toks + 1 }) :
    wpAny (model prog w) A (compareOp .In key (.ref d)) Q E s := wpAny_in_of hkey lo (kda_dict N hp hd).mapOf (by rw [hb]; exact h)
example : True := by
  k_with "compareOp In int ref" => ((fail_if_success (k_extra "past raises")); (k_here; k_dflt (refine' kdg_in (knd := PySem.intKind _ _) ?kN ?kM ?kC ?kL (intKind_is _ _ _ _) true ?kE ?_; (case kN => k_asm); (case kC => k_asm); (case kM => k_mem); (case kL => k_asm); (case kE => first | rfl | (simp only [*]; rfl)))))
  exact True.intro
theorem rowE_c (B : Below A₀ base outer h₀) (F : Fr h₀ L s.heap m) (X : (hd.heap_39 w.params).In h₀) (T : Top p loose mean mg mb h₀) (hk : cs.kind = .function) (hdp : dp + 40 < recursionLimit) (hun : un + 300 < cLine) {c dc pd : Addr} {hb hp : Int} {tb tp : Tok} {bv : Value} {n1 : Nat} {po : Obj} {port : Int} {tk : Tok} {kvs : List (Int × Value)}
  (N : News h₀ L s.heap nw) (hm1 : (c, instObj 202 dc) ∈ nw) (hm2 : (dc, dictOf [⟨hb, .str "bits" tb, bv⟩, ⟨hp, .str "ports" tp, .ref pd⟩] n1) ∈ nw) (hm3 : (pd, po) ∈ nw)
  (P : po.IsDictOf (PySem.intKind prog w) kvs) (hv : valueAt kvs port = none) (lo : (pd == sysModules) = false)
  (hE : ∀ e g h' tk', Fr h₀ L g m → RaisedN base (envX cn cs L a ccd cl :: outer) e (.ref 44) nw h' → g.UpToSlots h' → E (.ref e) { s with heap := h', toks := tk' }) :
  wpAny (model prog w) (ktrTop dp un gd cn cs L a ccd cl outer) (call (.ref 156) [.ref c, .int port tk]) Q E s := by
  refine wpAny_call ?_
  k_dflt k_enter
  k_steps
  all_goals exact hE _ _ _ _ (by assumption) (by assumption) (by assumption)
theorem addE_c (B : Below A₀ base outer h₀) (F : Fr h₀ L s.heap m) (X : (hd.heap_39 w.params).In h₀) (T : Top p loose mean mg mb h₀) (hk : cs.kind = .function) (hdp : dp + 40 < recursionLimit) (hun : un + 300 < cLine) {c dc pd : Addr} {hb hp : Int} {tb tp : Tok} {bv : Value} {n1 : Nat} {po : Obj} {port : Int} {tk : Tok} {kvs : List (Int × Value)}
  (N : News h₀ L s.heap nw) (hm1 : (c, instObj 202 dc) ∈ nw) (hm2 : (dc, dictOf [⟨hb, .str "bits" tb, bv⟩, ⟨hp, .str "ports" tp, .ref pd⟩] n1) ∈ nw) (hm3 : (pd, po) ∈ nw)
  (P : po.IsDictOf (PySem.intKind prog w) kvs) {v : Value} (hv : valueAt kvs port = some v) (lo : (pd == sysModules) = false)
  (hE : ∀ e g h' tk', Fr h₀ L g m → RaisedN base (envX cn cs L a ccd cl :: outer) e (.ref 44) nw h' → g.UpToSlots h' → E (.ref e) { s with heap := h', toks := tk' }) :
  wpAny (model prog w) (ktrTop dp un gd cn cs L a ccd cl outer) (call (.ref 149) [.ref c, .int port tk]) Q E s := by
  refine wpAny_call ?_
  k_dflt k_enter
  k_steps
  all_goals exact hE _ _ _ _ (by assumption) (by assumption) (by assumption)
example : True := by
  k_with "call ref" => ((fail_if_success (k_extra "past raises")); (k_here; (with_reducible show wpAny _ _ (call (Value.ref 156) _) _ _ _); k_dflt (refine' rowE_c ?kB ?kF ?kX ?kT ?kK ?kD ?kU ?kN ?m1 ?m2 ?m3 ?kP ?kV ?kL ?_; (case kB => k_asm); (case kF => k_asm); (case kX => k_asm); (case kT => k_asm); (case kK => first | with_reducible assumption | exact rfl | assumption); (case kD => ktr_room); (case kU => ktr_units); (case kN => k_asm); (case m1 => k_mem); (case m2 => k_mem); (case m3 => k_mem); (case kP => k_asm); (case kV => k_asm); (case kL => k_asm); k_whole); intro e' g' h' tk' F' R' U'))
  exact True.intro
theorem passedE_c (B : Below A₀ base outer h₀) (F : Fr h₀ L s.heap m) (X : (hd.heap_39 w.params).In h₀) (T : Top p loose mean mg mb h₀) (hk : cs.kind = .function) (hdp : dp + 60 < recursionLimit) (hun : un + 400 < cLine) {c dc pd : Addr} {hb hp : Int} {tb tp : Tok} {bv : Value} {n1 : Nat} {po : Obj} {port : Int} {tk : Tok} {kvs : List (Int × Value)}
  (N : News h₀ L s.heap nw) (hm1 : (c, instObj 202 dc) ∈ nw) (hm2 : (dc, dictOf [⟨hb, .str "bits" tb, bv⟩, ⟨hp, .str "ports" tp, .ref pd⟩] n1) ∈ nw) (hm3 : (pd, po) ∈ nw)
  (P : po.IsDictOf (PySem.intKind prog w) kvs) {way : Str} {tw tk2 tk3 : Tok} {target size : Int} (hv : valueAt kvs port = none) (lo : (pd == sysModules) = false)
  (hE : ∀ e g h' tk', Fr h₀ L g m → RaisedN base (envX cn cs L a ccd cl :: outer) e (.ref 44) nw h' → g.UpToSlots h' → E (.ref e) { s with heap := h', toks := tk' }) :
  wpAny (model prog w) (ktrTop dp un gd cn cs L a ccd cl outer) (call (.ref 163) [.ref c, .int port tk, .str way tw, .int target tk2, .int size tk3]) Q E s := by
  refine wpAny_call ?_
  k_dflt k_enter
  k_steps
  all_goals exact hE _ _ _ _ (by assumption) (by assumption) (by assumption)
example : True := by
  k_with "past raises" => (skip)
  exact True.intro
/-! block lams -/
example : True := by
  k_with "eval Name" => ((fail_if_success (k_extra "past lams")); (k_here; (with_reducible show wpAny _ _ (eval (Expr.Name (Str.ofString "counters") _) _) _ _ _); k_dflt (refine' nameX_F ?kN ?kL ?kM ?kD ?_; (case kN => k_asm); (case kL => rfl); (case kM => k_mem); (case kD => assumption); k_whole)))
  exact True.intro
example : True := by
  k_with "leaving ref" => ((fail_if_success (k_extra "past lams")); (k_here; k_dflt (refine' leave_onX ?kK ?kF ?kR ?kU ?_; (case kR => assumption); (case kK => assumption); (case kU => assumption); (case kF => assumption); k_whole); intro h' R' U'; (try dsimp only at R' U' ⊢)))
  exact True.intro
abbrev lamArgs : Arguments := { posonlyargs := [], args := [], vararg := none, kwonlyargs := [], kw_defaults := [], kwarg := none, defaults := [] }
abbrev lamScope : Scope := { kind := .function, names := [(Str.ofString "counters", .free)], isGenerator := false, isCoroutine := false }
example : True := by
  k_with "call ref" => ((fail_if_success (k_extra "past lams")); (k_here; (with_reducible show wpAny _ _ (call (Value.ref 149) _) _ _ _); k_dflt (refine' addE_c ?kB ?kF ?kX ?kT ?kK ?kD ?kU ?kN ?m1 ?m2 ?m3 ?kP ?kV ?kL ?_; (case kB => k_asm); (case kF => k_asm); (case kX => k_asm); (case kT => k_asm); (case kK => first | with_reducible assumption | exact rfl | assumption); (case kD => ktr_room); (case kU => ktr_units); (case kN => k_asm); (case m1 => k_mem); (case m2 => k_mem); (case m3 => k_mem); (case kP => k_asm); (case kV => k_asm); (case kL => k_asm); k_whole); intro e' g' h' tk' F' R' U'))
  exact True.intro
example : True := by
  k_with "call ref" => ((fail_if_success (k_extra "past lams")); (k_here; (with_reducible show wpAny _ _ (call (Value.ref 163) _) _ _ _); k_dflt (refine' passedE_c ?kB ?kF ?kX ?kT ?kK ?kD ?kU ?kN ?m1 ?m2 ?m3 ?kP ?kV ?kL ?_; (case kB => k_asm); (case kF => k_asm); (case kX => k_asm); (case kT => k_asm); (case kK => first | with_reducible assumption | exact rfl | assumption); (case kD => ktr_room); (case kU => ktr_units); (case kN => k_asm); (case m1 => k_mem); (case m2 => k_mem); (case m3 => k_mem); (case kP => k_asm); (case kV => k_asm); (case kL => k_asm); k_whole); intro e' g' h' tk' F' R' U'))
  exact True.intro
theorem lamAdd_c (B : Below A₀ base outer h₀) (F : Fr h₀ L s.heap m) (X : (hd.heap_39 w.params).In h₀) (T : Top p loose mean mg mb h₀) (hk : cs.kind = .function) (hdp : dp + 80 < recursionLimit) (hun : un + 600 < cLine) {f c' cell c dc pd : Addr} {hb hp : Int} {tb tp tq : Tok} {bv : Value} {n1 : Nat} {po oC oc : Obj} {vs : Array Value} {kvs : List (Int × Value)} {qual : Str} {pm ctv : Value}
  (N : News h₀ L s.heap nw) (hf : (f, kla_obj "<lambda>" qual lamArgs (.Call (.Attribute (.Name "counters" ⟨174, 8, 174, 16⟩) "add_port" ⟨174, 8, 174, 25⟩) [.Constant (.int 2) 0 ⟨174, 26, 174, 27⟩] [] ⟨174, 8, 174, 28⟩) lamScope [("counters", cell)] pm c' ctv) ∈ nw) (hc : (c', oc) ∈ nw) (hd1 : oc.data = .fields vs) (hd2 : vs[1]? = some (.str qual tq))
  (hC : (cell, oC) ∈ nw) (hdC : oC.data = .cell (some (.ref c)))
  (hm1 : (c, instObj 202 dc) ∈ nw) (hm2 : (dc, dictOf [⟨hb, .str "bits" tb, bv⟩, ⟨hp, .str "ports" tp, .ref pd⟩] n1) ∈ nw) (hm3 : (pd, po) ∈ nw)
  (P : po.IsDictOf (PySem.intKind prog w) kvs) {v : Value} (hv : valueAt kvs 2 = some v) (lo : (pd == sysModules) = false)
  (hE : ∀ e g h' tk', Fr h₀ L g m → RaisedN base (envX cn cs L a ccd cl :: outer) e (.ref 44) nw h' → g.UpToSlots h' → E (.ref e) { s with heap := h', toks := tk' }) :
  wpAny (model prog w) (ktrTop dp un gd cn cs L a ccd cl outer) (call (.ref f) []) Q E s := by
  refine wpAny_call ?_
  k_dflt (refine' kla_code ?k1 ?k2 ?k3 ?k4 ?k5 ?kA ?kF ?kK ?k6 ?k7 ?k8 ?k9 ?kB ?_ ?c2 ?c3 ?c4 ?c5; (case kA => exact rfl); (case kF => exact rfl); (case kK => first | assumption | exact rfl); (case k1 => k_asm); (case k2 => k_asm); (case k3 => k_asm); (case k4 => k_asm); (case k5 => k_asm); (case k6 => k_mem); (case k7 => exact codeRec_news (by k_asm) (by k_mem) (by assumption) (by assumption)); (case k8 => ktr_room); (case k9 => exact rfl); (case c5 => decide); (case kB => exact locs rfl); (case c2 => exact rfl); (case c3 => exact rfl); (case c4 => exact rfl); k_whole; intro g' L' h' FG' F' N' B' X' T'; (try dsimp only); (try k_lift B'); (try k_fold))
  replace F' : Fr g' L' h' (fun _ => none) := F'
  generalize s.toks + List.length _ = tk0
  k_steps
  all_goals exact hE _ _ _ _ (by assumption) (by assumption) (by assumption)
theorem lamPassed_c (B : Below A₀ base outer h₀) (F : Fr h₀ L s.heap m) (X : (hd.heap_39 w.params).In h₀) (T : Top p loose mean mg mb h₀) (hk : cs.kind = .function) (hdp : dp + 80 < recursionLimit) (hun : un + 600 < cLine) {f c' cell c dc pd : Addr} {hb hp : Int} {tb tp tq : Tok} {bv : Value} {n1 : Nat} {po oC oc : Obj} {vs : Array Value} {kvs : List (Int × Value)} {qual : Str} {pm ctv : Value}
  (N : News h₀ L s.heap nw) (hf : (f, kla_obj "<lambda>" qual lamArgs (.Call (.Attribute (.Name "counters" ⟨175, 8, 175, 16⟩) "passed" ⟨175, 8, 175, 23⟩) [.Constant (.int 3) 0 ⟨175, 24, 175, 25⟩, .Constant (.str "in") 0 ⟨175, 27, 175, 31⟩, .Constant (.int 1) 0 ⟨175, 33, 175, 34⟩, .Constant (.int 64) 0 ⟨175, 36, 175, 38⟩] [] ⟨175, 8, 175, 39⟩) lamScope [("counters", cell)] pm c' ctv) ∈ nw) (hc : (c', oc) ∈ nw) (hd1 : oc.data = .fields vs) (hd2 : vs[1]? = some (.str qual tq))
  (hC : (cell, oC) ∈ nw) (hdC : oC.data = .cell (some (.ref c)))
  (hm1 : (c, instObj 202 dc) ∈ nw) (hm2 : (dc, dictOf [⟨hb, .str "bits" tb, bv⟩, ⟨hp, .str "ports" tp, .ref pd⟩] n1) ∈ nw) (hm3 : (pd, po) ∈ nw)
  (P : po.IsDictOf (PySem.intKind prog w) kvs) (hv : valueAt kvs 3 = none) (lo : (pd == sysModules) = false)
  (hE : ∀ e g h' tk', Fr h₀ L g m → RaisedN base (envX cn cs L a ccd cl :: outer) e (.ref 44) nw h' → g.UpToSlots h' → E (.ref e) { s with heap := h', toks := tk' }) :
  wpAny (model prog w) (ktrTop dp un gd cn cs L a ccd cl outer) (call (.ref f) []) Q E s := by
  refine wpAny_call ?_
  k_dflt (refine' kla_code ?k1 ?k2 ?k3 ?k4 ?k5 ?kA ?kF ?kK ?k6 ?k7 ?k8 ?k9 ?kB ?_ ?c2 ?c3 ?c4 ?c5; (case kA => exact rfl); (case kF => exact rfl); (case kK => first | assumption | exact rfl); (case k1 => k_asm); (case k2 => k_asm); (case k3 => k_asm); (case k4 => k_asm); (case k5 => k_asm); (case k6 => k_mem); (case k7 => exact codeRec_news (by k_asm) (by k_mem) (by assumption) (by assumption)); (case k8 => ktr_room); (case k9 => exact rfl); (case c5 => decide); (case kB => exact locs rfl); (case c2 => exact rfl); (case c3 => exact rfl); (case c4 => exact rfl); k_whole; intro g' L' h' FG' F' N' B' X' T'; (try dsimp only); (try k_lift B'); (try k_fold))
  replace F' : Fr g' L' h' (fun _ => none) := F'
  generalize s.toks + List.length _ = tk0
  k_steps
  all_goals exact hE _ _ _ _ (by assumption) (by assumption) (by assumption)
example : True := by
  k_with "past lams" => (skip)
  exact True.intro
/-! block refused -/
example : True := by
  k_with "callWith ref" => ((fail_if_success (k_extra "past refused")); (k_here; k_dflt (refine' callWith_F0 ?k1 ?_; (case k1 => exact FnAt.of (by k_asm) (by assumption)); k_whole); (try dsimp only [List.nil_append, List.cons_append])))
  exact True.intro
example : True := by
  k_with "call ref" => ((fail_if_success (k_extra "past refused")); (refine stopHere ?_))
  exact True.intro
example : True := by
  k_with "noteFrame ref" => ((fail_if_success (k_extra "past refused")); (refine stopHere ?_))
  exact True.intro
theorem refused_c (B : Below A₀ base outer base) (F : Fr base L s.heap m) (X : (hd.heap_39 w.params).In base) (T : Top p loose mean mg mb base) (hk : cs.kind = .function) (hdp : dp + 100 < recursionLimit) (hun : un + 800 < cLine) {f : Addr} {oc : Value} {od : Option Addr} {fd : FuncData} {sl : Array (Option Value)}
  (N : News base L s.heap nw) (hf : (f, (⟨oc, od, .func fd, sl⟩ : Obj)) ∈ nw)
  (hlam : ∀ (g : Heap) (L' a' : Addr) (m' : Str → Option Value) (sc : Scope) (q : Str) (cd' : Value) (s' : Shared) (Q' E' : Value → Shared → Prop), Below (ktrTop dp un gd cn cs L a ccd cl outer) base (envX cn cs L a ccd cl :: outer) g → Fr g L' s'.heap m' → (hd.heap_39 w.params).In g → Top p loose mean mg mb g → News g L' s'.heap nw → sc.kind = .function →
    (∀ e g2 h' tk', Fr g L' g2 m' → RaisedN base (envX q sc L' a' cd' [] :: envX cn cs L a ccd cl :: outer) e (.ref 44) nw h' → g2.UpToSlots h' → E' (.ref e) { s' with heap := h', toks := tk' }) →
    wpAny (model prog w) (ktrTop (dp + 1) (un + 3) gd q sc L' a' cd' [] (envX cn cs L a ccd cl :: outer)) (call (.ref f) []) Q' E' s')
  (hret : ∀ h' tk', Fr base L h' m → News base L h' nw → Q (.bool true) { s with heap := h', toks := tk' }) :
  wpAny (model prog w) (ktrTop dp un gd cn cs L a ccd cl outer) (call (.ref 267) [.ref f]) Q E s := by
  refine wpAny_call ?_
  k_dflt (refine' code_defR ?k1 ?k2 ?k3 ?k4 ?k5 ?kA ?kF ?kK ?k6 ?k7 ?k8 ?k9 ?kB ?_ ?c2 ?c3 ?c4 ?c5; (case kA => exact rfl); (case kF => exact rfl); (case kK => first | assumption | exact rfl); (case k1 => k_asm); (case k2 => k_asm); (case k3 => k_asm); (case k4 => k_asm); (case k5 => k_asm); (case k6 => k_is); (case k7 => k_is); (case k8 => ktr_room); (case k9 => first | exact BindsTo.of_eq rfl | exact binds_K (by k_in) rfl (by k_is) rfl rfl rfl); (case c5 => decide); (case kB => exact locs rfl); (case c2 => exact rfl); (case c3 => exact rfl); (case c4 => exact rfl); k_whole; intro g' L' h' FG' F' N' B' X' T'; (try dsimp only); (try k_fold))
  k_steps
  unfold Stopped
  refine hlam g' L' _ _ _ _ _ _ _ _ B' F' X' T' N' rfl fun e g2 h2 tk2 F2 R2 U2 => ?_
  k_steps
  unfold Stopped
  refine caught_R R2 FG' F2 U2 B' X (topRead_of T) (X 44 _ (by with_unfolding_all rfl)) (bm := [.ref 31, .type "Exception", .type "BaseException", .type "object"]) (by decide) (by k_is) (fun q hq => (N q hq).2.1) (fun h3 F3 N3 => ?_)
  k_steps
  all_goals exact hret _ _ F3 N3
example : True := by
  k_with "past refused" => (skip)
  exact True.intro
/-! block addp -/
example : True := by
  k_with "compareOp In int ref" => ((fail_if_success (k_extra "past addp")); (k_here; k_dflt (refine' kdg_in (knd := PySem.intKind _ _) ?kN ?kM ?kC ?kL (intKind_is _ _ _ _) false ?kE ?_; (case kN => k_asm); (case kC => k_asm); (case kM => k_mem); (case kL => k_asm); (case kE => first | rfl | (simp only [*]; rfl)))))
  exact True.intro
example : True := by
  k_with "setItem ref int" => ((fail_if_success (k_extra "past addp")); (k_here; k_dflt (refine' kda_set (knd := PySem.intKind _ _) ?kF ?kN ?kU ?kC (intKind_is _ _ _ _) ?kZ ?_; (case kF => k_asm); (case kN => k_asm); (case kU => k_updF); (case kC => assumption); (case kZ => (rw [sizeLine_eq]; omega))); intro h' o' F' N' D'; (try dsimp only at N')))
  exact True.intro
theorem addp_h (B : Below A₀ base outer h₀) (F : Fr h₀ L s.heap m) (X : (hd.heap_39 w.params).In h₀) (T : Top p loose mean mg mb h₀) (hk : cs.kind = .function) (hdp : dp + 40 < recursionLimit) (hun : un + 300 < cLine) {c dc pd : Addr} {hb hp : Int} {tb tp tkb : Tok} {b : Int} {n1 : Nat} {po : Obj} {port : Int} {tk : Tok} {kvs : List (Int × Value)}
  (N : News h₀ L s.heap ((c, instObj 202 dc) :: (dc, dictOf [⟨hb, .str "bits" tb, .int b tkb⟩, ⟨hp, .str "ports" tp, .ref pd⟩] n1) :: (pd, po) :: nw))
  (P : po.IsDictOf (PySem.intKind prog w) kvs) (hv : valueAt kvs port = none) (hz : kvs.length ≤ 5) (lo : (pd == sysModules) = false) (hn1 : c ≠ pd) (hn2 : dc ≠ pd) (hn : ∀ p ∈ nw, p.1 ≠ pd)
  (hret : ∀ p dp d o po' h1 h2 t1 t2 h' tk', Fr h₀ L h' m → News h₀ L h' ((d, o) :: (p, instObj 123 dp) :: (dp, dictOf [⟨h1, .str "bits" t1, .int b tkb⟩, ⟨h2, .str "counts" t2, .ref d⟩] 2) :: (c, instObj 202 dc) :: (dc, dictOf [⟨hb, .str "bits" tb, .int b tkb⟩, ⟨hp, .str "ports" tp, .ref pd⟩] n1) :: (pd, po') :: nw) →
    po'.IsDictOf (PySem.intKind prog w) (stored kvs port (.ref p)) → o.IsDictOf (PySem.strKind prog w) [] → (d == sysModules) = false → (c < dp ∧ dc < dp ∧ pd < dp ∧ AllLt dp nw) → dp < p → p < d → Q .none { s with heap := h', toks := tk' }) :
  wpAny (model prog w) (ktrTop dp un gd cn cs L a ccd cl outer) (call (.ref 149) [.ref c, .int port tk]) Q E s := by
  refine wpAny_call ?_
  k_dflt k_enter
  k_steps
  (skip; have D' := True.intro; have N' := True.intro; have F' := True.intro; have o' := True.intro; have h' := True.intro; have T' := True.intro; have X' := True.intro; have B' := True.intro; have FG' := True.intro; have tk' := True.intro; have L' := True.intro; have g' := True.intro)
  rename_i hi9 fi9 l19 h9 F9 N9 kF9 kN9 Tc9 kX9 h8 o8 FF8 NN8 D8 F8 N8 T8 X8
  clear D' N' F' o' h' T' X' B' FG' tk' L' g'
  exact hret _ _ _ _ _ _ _ _ _ _ _ F8 N8 (by assumption) (by assumption) (by assumption) (by assumption) (by assumption) l19.1
theorem addp_u (B : Below A₀ base outer h₀) (F : Fr h₀ L s.heap m) (X : (hd.heap_39 w.params).In h₀) (T : Top p loose mean mg mb h₀) (hk : cs.kind = .function) (hdp : dp + 40 < recursionLimit) (hun : un + 300 < cLine) {c dc pd : Addr} {hb hp : Int} {tb tp tkb : Tok} {b : Int} {n1 : Nat} {po : Obj} {port : Int} {tk : Tok} {kvs : List (Int × Value)} {g : Obj → Ldg}
  (N : News h₀ L s.heap nw) (hm1 : (c, instObj 202 dc) ∈ nw) (hm2 : (dc, dictOf [⟨hb, .str "bits" tb, .int b tkb⟩, ⟨hp, .str "ports" tp, .ref pd⟩] n1) ∈ nw) (U : UpdF pd po nw g)
  (P : po.IsDictOf (PySem.intKind prog w) kvs) (hv : valueAt kvs port = none) (hz : kvs.length ≤ 5) (lo : (pd == sysModules) = false) (hn1 : c ≠ pd) (hn2 : dc ≠ pd)
  (hret : ∀ p dp d o po' h1 h2 t1 t2 h' tk', Fr h₀ L h' m → News h₀ L h' ((d, o) :: (p, instObj 123 dp) :: (dp, dictOf [⟨h1, .str "bits" t1, .int b tkb⟩, ⟨h2, .str "counts" t2, .ref d⟩] 2) :: g po') →
    po'.IsDictOf (PySem.intKind prog w) (stored kvs port (.ref p)) → o.IsDictOf (PySem.strKind prog w) [] → (d == sysModules) = false → (∀ q ∈ nw, q.1 < dp) → dp < p → p < d → Q .none { s with heap := h', toks := tk' }) :
  wpAny (model prog w) (ktrTop dp un gd cn cs L a ccd cl outer) (call (.ref 149) [.ref c, .int port tk]) Q E s := by
  obtain ⟨rest, s1, s2, s3, s4, hr⟩ := updF_perm U
  refine addp_h B F X T hk hdp hun (news_sub N (sub_cons hm1 (sub_cons hm2 s2))) P hv hz lo hn1 hn2 hr fun p dp d o po' h1 h2 t1 t2 h' tk' F' N' P' D' lo' l1 l2 l3 => ?_
  refine hret p dp d o po' h1 h2 t1 t2 h' tk' F' (news_sub N' (sub_cons (.head _) (sub_cons (.tail _ (.head _)) (sub_cons (.tail _ (.tail _ (.head _))) fun q hq => .tail _ (.tail _ (.tail _ (.tail _ (.tail _ (s3 _ q hq))))))))) P' D' lo' ?_ l2 l3
  intro q hq
  have hl := lt_of_allLt l1.2.2.2
  rcases List.mem_cons.mp (s1 q hq) with rfl | z
  · exact l1.2.2.1
  · exact hl q z
example : True := by
  k_with "past addp" => (skip)
  exact True.intro
example : True := by
  k_with "call ref" => ((k_here; (with_reducible show wpAny _ _ (call (Value.ref 149) _) _ _ _); k_dflt (refine' addp_u ?kB ?kF ?kX ?kT ?kK ?kD ?kU ?kN ?m1 ?m2 ?kP ?kV ?kW ?kZ ?kL ?n1 ?n2 ?_; (case kB => k_asm); (case kF => k_asm); (case kX => k_asm); (case kT => k_asm); (case kK => first | with_reducible assumption | exact rfl | assumption); (case kD => ktr_room); (case kU => ktr_units); (case kN => k_asm); (case m1 => k_mem); (case m2 => k_mem); (case kP => k_updF); (case kV => assumption); (case kW => rfl); (case kZ => exact Nat.le_of_ble_eq_true rfl); (case kL => k_asm); (case n1 => k_ne); (case n2 => k_ne); k_whole); intro p' dp' d' o' po' x1' x2' t1' t2' h' tk' F' N' P' D' lo' l1' l2' l3'; (try k_lt l1'); (try dsimp only at N')))
  exact True.intro
/-! block turnb -/
example : True := by
  k_with "CompX" => ((fail_if_success (k_extra "past turnb")); (k_dflt (refine' CompX.lst ?hh ?hF ?hN ?hm ?hn ?sz ?_; (case hh => rfl); (case hF => k_asm); (case hN => k_asm); (case hm => k_mem); (case hn => first | (show _ = 4; rfl) | (show _ = 3; rfl) | (show _ = 2; rfl)); (case sz => decide)); intro g'))
  exact True.intro
example : True := by
  k_with "exec For Name Call cons nil" => ((fail_if_success (k_extra "past turnb")); (refine stopHere ?_))
  exact True.intro
example : True := by
  k_with "ForAt" => ((fail_if_success (k_extra "past turnb")); (refine stopHere ?_))
  exact True.intro
example : True := by
  k_with "binaryOp Pow int int" => ((fail_if_success (k_extra "past turnb")); (k_here; (with_reducible refine pow_int_small ?kb1 ?kb2 ?kb3 ?_); (case kb1 => decide); (case kb2 => decide); (case kb3 => decide)))
  exact True.intro
theorem take_st (B : Below A₀ base outer h₀) (F : Fr h₀ L s.heap m) (X : (hd.heap_39 w.params).In h₀) (T : Top p loose mean mg mb h₀) (hk : cs.kind = .function) (hdp : dp + 10 < recursionLimit) (hun : un + 80 < cLine) {C : Cn} {bs st : Ldg} {i : Nat} {top : Int} {tt : Tok}
  (N : News h₀ L s.heap nw) (hS : St prog w C bs i st) (hsub : ∀ p ∈ st, p ∈ nw) (ht : 1 ≤ top) (ht' : top ≤ 4294967296)
  (hret : ∀ r t st' h' tk', Fr h₀ L h' m → News h₀ L h' st' → St prog w C bs i st' → 0 ≤ r → r < top → Q (.int r t) { s with heap := h', toks := tk' }) :
  wpAny (model prog w) (ktrTop dp un gd cn cs L a ccd cl outer) (call (.ref 220) [.ref C.src, .int top tt]) Q E s := by
  obtain ⟨fa, ls, hS, hla, hok⟩ := hS
  exact take_s B F X T hk hdp hun N hS hsub ht ht' fun r t st' h' tk' F' N' S' r0 r1 => hret r t st' h' tk' F' N' ⟨fa, ls, S', hla, hok⟩ r0 r1
def forBody : Option Stmt → List Stmt
  | some (.For _ _ b _ _) => b
  | _ => []
def forTail : List Stmt → Nat → Option (List Stmt)
  | l, 0 => some l
  | _ :: r, n + 1 => forTail r n
  | [], _ => none
theorem turnB_c (B : Below A₀ base outer base) (X : (hd.heap_39 w.params).In base) (T : Top p loose mean mg mb base) (hdp : dp + 100 < recursionLimit) (hun : un + 800 < cLine)
  {Qf : Flow → Shared → Prop} {C : Cn} {bs nws : Ldg} {m1 : Str → Option Value} {tz : Tok} {cell : Addr} {oc : Obj} {pr : Arguments} {lb rest : List Stmt}
  (hbits : fnBits (nthS topS 28) = some (pr, lb, cs)) (hrest : forTail (forBody (nthS lb 2)) 6 = some rest)
  (F : Fr base L s.heap (fun y => if y = Str.ofString "lists" then some (.ref C.ld) else if y = Str.ofString "bits" then some (.int C.b tz) else if y = Str.ofString "source" then some (.ref C.src) else m1 y))
  (hCn : CnOk prog w C) (NS : News base L s.heap nws) (SS : St prog w C bs 0 nws) (hcb : (cell, oc) ∈ bs) (hcd2 : oc.data = .cell (some (.ref C.c)))
  (hE : PassesOwn (model prog w) (ktrTop dp un gd (Str.ofString "law") cs L a ccd [(Str.ofString "counters", cell)] outer) (envX (Str.ofString "law") cs L a ccd [(Str.ofString "counters", cell)]) E)
  (hend : ∀ h' tk' m' nw' nws' nn, Fr base L h' m' → News base L h' nw' → (∀ p ∈ nws', p ∈ nw') → St prog w C bs nn nws' → MapJ lawVars m1 m' → Qf .next { s with heap := h', toks := tk' }) :
  wpAny (model prog w) (ktrTop dp un gd (Str.ofString "law") cs L a ccd [(Str.ofString "counters", cell)] outer) (execs rest (envX (Str.ofString "law") cs L a ccd [(Str.ofString "counters", cell)])) Qf E s := by
  change some (_, _, _) = some (pr, lb, cs) at hbits
  cases hbits
  change some _ = some rest at hrest
  cases hrest
  have z0 := hCn.b0
  have z1 := hCn.b1
  k_with "call ref" => ((fail_if_success (k_extra "past turnb")); k_here; (with_reducible show wpAny _ _ (call (Value.ref 220) _) _ _ _); k_dflt (refine' take_st ?kB ?kF ?kX ?kT ?kK ?kD ?kU ?kN ?kS ?kW ?h3 ?h4 ?_; (case kB => k_asm); (case kF => k_asm); (case kX => k_asm); (case kT => k_asm); (case kK => first | with_reducible assumption | exact rfl | assumption); (case kD => ktr_room); (case kU => ktr_units); (case kN => k_asm); (case kS => k_asm); (case kW => (repeat (first | exact sub_refl | refine sub_tail ?_))); (case h3 => first | assumption | omega | decide); (case h4 => first | assumption | omega | decide); k_whole); intro rr tr st' h' tk' F' N' S' rr0 rr1)
  k_steps
  unfold Stopped
  refine for_at ?_
  k_steps
  unfold Stopped
  rename_i hrg FF9 NN9 kk9
  obtain ⟨nn, hn12, hnb, hsz, hsm⟩ := range_inner (by omega : 3 ≤ 3 + rr) (by omega : 3 + rr < 13)
  refine for_range (fun i m nw => MapJ [Str.ofString "turn"] _ m ∧ St _ _ C bs i nw) rfl hrg hsm hsz FF9 NN9 hE ⟨MapJ.refl, by assumption⟩ ?_ ?_
  · intro i2 v2 t2 m2 nw2 I2 oI2 h10 tk10 hi2' hv hJ F2 N2 off2 hIt2
    obtain ⟨⟨u2, rfl⟩, SJ⟩ := hJ
    subst hv
    obtain ⟨fx1, fx6⟩ := st_fix SJ off2
    obtain ⟨nw3, hs3, SJ3⟩ := st_in (oI := oI2) SJ off2
    have N3 := news_sub N2 hs3
    clear N2
    have hcm : (cell, oc) ∈ nw3 := st_bs SJ3 _ (.tail _ hcb)
    k_steps
    rename St _ _ C ((I2, oI2) :: _) (i2 + 1) _ => SE
    rename News _ _ _ _ => NE
    obtain ⟨nw5, hs5, off5, SJ5⟩ := st_out NE SE hIt2 fx1 fx6
    rename Fr _ _ _ _ => FE
    exact FEnd.next FE NE hs5 off5 trivial ⟨MapJ.store rfl MapJ.base, SJ5⟩
  · intro m3 nw6 h12 tk12 hJ F3 N3
    obtain ⟨⟨u3, rfl⟩, SJ⟩ := hJ
    have hcm : (cell, oc) ∈ nw6 := st_bs SJ _ hcb
    obtain ⟨hpw1, hpw2⟩ := pow_b z0 z1
    k_steps
    unfold Stopped
    have q0 := rr0
    have q1 := rr1
    clear rr0 rr1
    refine' btw_c ?kB ?kF ?kX ?kT ?kK ?kD ?kU ?kN z0 z1 rr0 ?o1 ?n0 ?n1 ?_
    (case kB => k_asm); (case kF => k_asm); (case kX => k_asm); (case kT => k_asm); (case kK => first | with_reducible assumption | exact rfl | assumption); (case kD => ktr_room); (case kU => ktr_units)
    case kN => k_asm
    case o1 => omega
    case n0 => exact Int.fmod_nonneg_of_pos _ (by omega)
    case n1 => exact Int.le_trans (Int.le_of_lt (Int.fmod_lt_of_pos _ (by omega))) hpw2
    intro tb9 h14 tk14 FE NE
    rw [between q0 q1]
    k_steps
    · exfalso
      omega
    · exact hend _ _ _ _ _ _ FE NE (fun p hp => .tail _ hp) S' (MapJ.store rfl (MapJ.store rfl (MapJ.mix (by decide +kernel) (MapJ.store rfl (MapJ.store rfl (MapJ.store rfl MapJ.refl))))))
example : True := by
  k_with "past turnb" => (skip)
  exact True.intro
/-! block turna -/
example : True := by
  k_with "CompX" => ((fail_if_success (k_extra "past turna")); (k_dflt (refine' CompX.lst ?hh ?hF ?hN ?hm ?hn ?sz ?_; (case hh => rfl); (case hF => k_asm); (case hN => k_asm); (case hm => k_mem); (case hn => first | (show _ = 4; rfl) | (show _ = 3; rfl) | (show _ = 2; rfl)); (case sz => decide)); intro g'))
  exact True.intro
example : True := by
  k_with "binaryOp Pow int int" => ((fail_if_success (k_extra "past turna")); (k_here; (with_reducible refine pow_int_small ?kb1 ?kb2 ?kb3 ?_); (case kb1 => decide); (case kb2 => decide); (case kb3 => decide)))
  exact True.intro
theorem turnA_c (B : Below A₀ base outer base) (X : (hd.heap_39 w.params).In base) (T : Top p loose mean mg mb base) (hdp : dp + 100 < recursionLimit) (hun : un + 800 < cLine)
  {Qf : Flow → Shared → Prop} {u1 m0 : Str → Option Value} {i : Nat} {t : Tok} {cell I sc : Addr} {oI oC : Obj} {ps : Array Value} {ext : Ldg} {cv : Option Value} {vs : List Value} {ns : List Int} {pr : Arguments} {lb body : List Stmt}
  (hbits : fnBits (nthS topS 28) = some (pr, lb, cs)) (hrest : forTail (forBody (nthS lb 2)) 0 = some body) (hc283 : ccd = .ref 283)
  (F : Fr base L s.heap (fun y => if y = Str.ofString "k" then some (.int (0 + (i : Int)) t) else if lawVars.contains y = true then u1 y else m0 y)) (hscr : m0 (Str.ofString "script") = some (.ref sc))
  (hl : base.IsList sc vs.toArray) (hI : IntsAre vs ns) (hl63' : ns.length ≤ 63) (hi2 : i < 2) (hCH : CodeHd base 283 281)
  (N : News base L s.heap ((I, oI) :: (cell, oC) :: (281, tabObj ps) :: ext)) (hcv : oC.data = .cell cv) (hG : TabG lamQual ps ext) (nI1 : @Ne Nat cell I) (nI2 : @Ne Nat 281 I) (nI4 : ∀ p ∈ ext, p.1 ≠ I) (hx1 : ∀ p ∈ ext, p.1 ≠ cell) (hx2 : ∀ p ∈ ext, p.1 ≠ 281) (hc281 : @Ne Nat cell 281)
  (hE : PassesOwn (model prog w) (ktrTop dp un gd (Str.ofString "law") cs L a ccd [(Str.ofString "counters", cell)] outer) (envX (Str.ofString "law") cs L a ccd [(Str.ofString "counters", cell)]) E)
  (hend : ∀ h' tk' m' all oC' ps' ext' v, Fr base L h' m' → News base L h' all → (∀ p ∈ (I, oI) :: (cell, oC') :: (281, tabObj ps') :: ext', p ∈ all) → MapJ lawVars m0 m' → oC'.data = .cell v → TabG lamQual ps' ext' → (∀ p ∈ ext', p.1 ≠ I) → (∀ p ∈ ext', p.1 ≠ cell) → (∀ p ∈ ext', p.1 ≠ 281) → Qf .next { s with heap := h', toks := tk' }) :
  wpAny (model prog w) (ktrTop dp un gd (Str.ofString "law") cs L a ccd [(Str.ofString "counters", cell)] outer) (execs body (envX (Str.ofString "law") cs L a ccd [(Str.ofString "counters", cell)])) Qf E s := by
  subst hc283
  change some (_, _, _) = some (pr, lb, cs) at hbits
  cases hbits
  change some _ = some body at hrest
  cases hrest
  k_with "eval Lambda" => ((fail_if_success (k_extra "past turna")); k_here; k_dflt (refine' kla_eval ?d0 ?_; (case d0 => exact rfl)); refine stopHere ?_)
  k_with "eval Name" => ((fail_if_success (k_extra "past turna")); k_here; (with_reducible show wpAny _ _ (eval (Expr.Name (Str.ofString "script") _) _) _ _ _); k_dflt (refine' nameX_L ?F ?hv ?_; (case F => k_asm); (case hv => exact hscr)))
  k_with "execs cons" => ((fail_if_success (k_extra "past turna")); k_here; (with_reducible show wpAny _ _ (execs (Stmt.For _ _ _ _ _ :: _) _) _ _ _); refine stopHere ?_)
  k_steps
  unfold Stopped
  (skip; have B' := True.intro; have C' := True.intro; have D' := True.intro; have E' := True.intro; have F' := True.intro; have FG' := True.intro; have H' := True.intro; have HF' := True.intro; have HP' := True.intro; have HS' := True.intro; have HT' := True.intro; have I' := True.intro; have L' := True.intro; have N' := True.intro; have P' := True.intro; have R' := True.intro; have S' := True.intro; have T' := True.intro; have U' := True.intro; have X' := True.intro; have Y' := True.intro; have c' := True.intro; have cells' := True.intro; have d' := True.intro; have dp' := True.intro; have e' := True.intro; have eo' := True.intro; have ext' := True.intro; have fd' := True.intro; have g' := True.intro; have h' := True.intro; have hC' := True.intro; have hD' := True.intro; have hT' := True.intro; have hi9 := True.intro; have hv' := True.intro; have hx' := True.intro; have i9 := True.intro; have io' := True.intro; have it' := True.intro; have l1 := True.intro; have l1' := True.intro; have l2 := True.intro; have l2' := True.intro; have l3' := True.intro; have lo' := True.intro; have ls' := True.intro; have m' := True.intro; have n' := True.intro; have ne' := True.intro; have nw' := True.intro; have o' := True.intro; have oC' := True.intro; have oI' := True.intro; have off' := True.intro; have ok' := True.intro; have p' := True.intro; have po' := True.intro; have r' := True.intro; have r0 := True.intro; have r1 := True.intro; have rr := True.intro; have rr0 := True.intro; have rr1 := True.intro; have src' := True.intro; have st' := True.intro; have t' := True.intro; have t1' := True.intro; have t2' := True.intro; have ta' := True.intro; have tb' := True.intro; have tk' := True.intro; have tr := True.intro; have v' := True.intro; have vs' := True.intro; have x' := True.intro; have x0 := True.intro; have x1' := True.intro; have x2' := True.intro; have y' := True.intro; have y0 := True.intro; have y1 := True.intro; have ys' := True.intro; have z' := True.intro; have z0 := True.intro; have z1 := True.intro)
  rename_i src _ _ _ _ _ _ _ _ _ _ lp _ _ bl _ _ zb tz sx sy sta stb sn _ _ z0 z1 sx0 sy0 sy1 _ _ cc dc _ ldc0 ldc _ _ _ _ _ _ _ _ pd _ _ lopd _ _ _ _ lpd _ _ _ _ _ ld _ _ lold _ lld L1 _ lL1 L2 _ lL2 _ old hdl TT _ _ _ _ oc hcd _ _ _ p1 dp1 d1 o1 po1 xa1 xb1 t1a t1b h1 tk1 FF1 NN1 PP1 DD1 lo1 l2a l3a l1a
  clear B' C' D' E' F' FG' H' HF' HP' HS' HT' I' L' N' P' R' S' T' U' X' Y' c' cells' d' dp' e' eo' ext' fd' g' h' hC' hD' hT' hi9 hv' hx' i9 io' it' l1 l1' l2 l2' l3' lo' ls' m' n' ne' nw' o' oC' oI' off' ok' p' po' r' r0 r1 rr rr0 rr1 src' st' t' t1' t2' ta' tb' tk' tr v' vs' x' x0 x1' x2' y' y0 y1 ys' z' z0 z1
  have hsrc := lp.2.2.2
  k_lt2 l2a
  k_lt2 l3a
  refine' addp_u ?kB ?kF ?kX ?kT ?kK ?kD ?kU ?kN ?m1 ?m2 ?kP ?kV ?kW ?kZ ?kL ?n1 ?n2 ?_
  (case kB => k_asm); (case kF => k_asm); (case kX => k_asm); (case kT => k_asm); (case kK => first | with_reducible assumption | exact rfl | assumption); (case kD => ktr_room); (case kU => ktr_units)
  case kN => k_asm
  case m1 => k_mem
  case m2 => k_mem
  case kP =>
    k_updF
  case kV => assumption
  case kW => rfl
  case kZ => exact Nat.le_of_ble_eq_true rfl
  case kL => k_asm
  case n1 => k_ne
  case n2 => k_ne
  intro p2 dp2 d2 o2 po2 xa2 xb2 t2a t2b h2 tk2 FF2 NN2 PP2 DD2 lo2 l1b l2b l3b
  k_lt l1b
  k_lt2 l2b
  k_lt2 l3b
  (try dsimp only at NN2)
  k_steps
  unfold Stopped
  refine' lam_law ?Hq ?F ?N ?T ?C ?cd ?U hG ?cl ?_
  case Hq => kernel_rfl
  case F => k_asm
  case N => k_asm
  case T => k_asm
  case cd => exact rfl
  case C => k_asm
  case U => k_updF
  case cl => exact rfl
  intro f1 c1 oc1 vs1 tq1 ctv1 ps1 e1 h3 tk3 FF3 NN3 hc1 hd1a hd1b TG1 lf1 le1 lg1
  have n281 := ne_app (a := 281) (fun p hp => le1 (281, _) (by k_mem) p hp) hx2
  try dsimp only at NN3
  have NN4 := lam_led (H := [_, _, _, _, _, _, _, _, _, _, _, _, _, _, _, _, _]) NN3
  clear NN3
  k_lt lf1
  try dsimp only [List.cons_append, List.nil_append] at NN4
  k_steps
  unfold Stopped
  rename _ = Data.cell (some _) => hcd1
  refine' refused_c ?kB ?kF ?kX ?kT ?kK ?kD ?kU ?kN ?hf ?hlam ?_
  (case kB => k_asm); (case kF => k_asm); (case kX => k_asm); (case kT => k_asm); (case kK => first | with_reducible assumption | exact rfl | assumption); (case kD => ktr_room); (case kU => ktr_units)
  case kN => k_asm
  case hf => k_dflt k_mem
  case hlam =>
    intro g9 L9 a9 m9 sc9 q9' cd9 s9 Q9 E9 B9 F9 X9 T9 N9 hk9 hE9
    refine' lamAdd_c B9 F9 X9 T9 hk9 ?kD ?kU N9 ?hf ?hcm hd1a hd1b ?hC hcd1 ?m1 ?m2 ?m3 PP2 ?hv ?lo hE9
    case kD => ktr_room
    case kU => ktr_units
    case hf => k_mem
    case hcm => exact (by (repeat (first | exact sub_refl | refine sub_tail ?_)) : ∀ p ∈ e1 ++ ext, p ∈ _) _ hc1
    case hC => k_mem
    case m1 => k_mem
    case m2 => k_mem
    case m3 => k_mem
    case hv => rfl
    case lo => k_asm
  intro h5 tk5 FF5 NN5
  k_steps
  unfold Stopped
  refine' lam_law ?Hq ?F ?N ?T ?C ?cd ?U TG1 ?cl ?_
  case Hq => kernel_rfl
  case F => k_asm
  case N => k_asm
  case T => k_asm
  case cd => exact rfl
  case C => k_asm
  case U => k_updF
  case cl => exact rfl
  intro f2 c2 oc2 vs2 tq2 ctv2 ps2 e2 h6 tk6 FF6 NN6 hc2 hd2a hd2b TG2 lf2 le2 lg2
  have m281 := ne_app (a := 281) (fun p hp => le2 (281, _) (by k_mem) p hp) n281
  try dsimp only at NN6
  have NN7 := lam_led (H := [_, _, _, _, _, _, _, _, _, _, _, _, _, _, _, _, _, _]) NN6
  clear NN6
  k_lt lf2
  try dsimp only [List.cons_append, List.nil_append] at NN7
  k_steps
  unfold Stopped
  rename _ = Data.cell (some _) => hcd2
  refine' refused_c ?kB ?kF ?kX ?kT ?kK ?kD ?kU ?kN ?hf ?hlam ?_
  (case kB => k_asm); (case kF => k_asm); (case kX => k_asm); (case kT => k_asm); (case kK => first | with_reducible assumption | exact rfl | assumption); (case kD => ktr_room); (case kU => ktr_units)
  case kN => k_asm
  case hf => k_dflt k_mem
  case hlam =>
    intro g9 L9 a9 m9 sc9 q9' cd9 s9 Q9 E9 B9 F9 X9 T9 N9 hk9 hE9
    refine' lamPassed_c B9 F9 X9 T9 hk9 ?kD ?kU N9 ?hf ?hcn hd2a hd2b ?hC hcd2 ?m1 ?m2 ?m3 PP2 ?hv ?lo hE9
    case kD => ktr_room
    case kU => ktr_units
    case hf => k_mem
    case hcn => exact (by (repeat (first | exact sub_refl | refine sub_tail ?_)) : ∀ p ∈ e2 ++ (e1 ++ ext), p ∈ _) _ hc2
    case hC => k_mem
    case m1 => k_mem
    case m2 => k_mem
    case m3 => k_mem
    case hv => rfl
    case lo => k_asm
  intro h8 tk8 FF8 NN8
  k_steps
  unfold Stopped
  k_with "call ref" => ((fail_if_success (k_extra "past turna")); k_here; (with_reducible show wpAny _ _ (call (Value.ref 220) _) _ _ _); k_dflt (refine' take_st ?kB ?kF ?kX ?kT ?kK ?kD ?kU ?kN ?kS ?kW ?h3 ?h4 ?_; (case kB => k_asm); (case kF => k_asm); (case kX => k_asm); (case kT => k_asm); (case kK => first | with_reducible assumption | exact rfl | assumption); (case kD => ktr_room); (case kU => ktr_units); (case kN => k_asm); (case kS => k_asm); (case kW => (repeat (first | exact sub_refl | refine sub_tail ?_))); (case h3 => first | assumption | omega | decide); (case h4 => first | assumption | omega | decide); k_whole); intro rr tr st' h' tk' F' N' S' rr0 rr1)
  have lf4 := lp.1
  have lf5 := lp.2.1
  have lf6 := lp.2.2.1
  k_lt2 ldc
  have cI : (I : Nat) < src := lf4
  have off := st_off (src := src) (d1 := d1) (d2 := d2) (L1 := L1) (L2 := L2) (ld := ld) (dp1 := dp1) (dp2 := dp2) lld.2.2.2.2.1 lL1.1 lL2.1 l1a.2.1 (Nat.lt_trans l2a l3a) l1b.1 (Nat.lt_trans l2b l3b)
    (off_cons (x := (I, oI)) lf4 (off_cons (x := (_, oc)) lf5 (off_cons (x := (281, tabObj ps2)) lf6 (off_app (e := e2) (fun p hp => le2 (d2, o2) (by k_mem) p hp) (off_app (e := e1) (fun p hp => le1 (d2, o2) (by k_mem) p hp) fun p hp => .inl (lt_of_allLt hsrc p hp))))))
  have nd := nodup13 (a0 := src) (a9 := dc) (a8 := cc) (a10 := pd) (a5 := ld) (a3 := L1) (a4 := L2) (a6 := dp1) (a11 := p1) (a1 := d1) (a7 := dp2) (a12 := p2) (a2 := d2) ldc0.2.1 ldc lpd.1 lld.1 lL1.1 lL2.1 l1a.2.1 l2a l3a l1b.1 l2b l3b
  obtain ⟨C, rfl, rfl, rfl, rfl, hCn, nws0, NS, SS⟩ := st_start (src := src) (d1 := d1) (d2 := d2) (L1 := L1) (L2 := L2) (ld := ld) (dp1 := dp1) (dp2 := dp2) (c := cc) (dc := dc) (pd := pd) (p1 := p1) (p2 := p2) NN8
    (by
      repeat (refine sub_cons ?_ ?_; k_mem)
      (repeat (first | exact sub_refl | refine sub_tail ?_))) PP2 hdl DD1 DD2 lopd lold lo1 lo2 z0 z1 sx0 sy0 sy1 nd off
  refine turnB_c (C := C) (rest := _) B X T hdp hun rfl rfl (by assumption) hCn NS SS (.tail _ (.head _)) hcd2 hE fun h' tk' m' nw' nws' nn F' N' hs' S' hm => ?_
  refine hend _ _ _ _ _ _ _ _ F' N' (fun p hp => hs' _ (st_bs S' p hp)) ?_ hcd2 TG2 ?_ (ne_app (fun p hp => le2 (_, oc) (by k_mem) p hp) (ne_app (fun p hp => le1 (_, oc) (by k_mem) p hp) hx1)) m281
  · obtain ⟨v9, e9⟩ := hm
    rw [e9]
    exact MapJ.mix (fun x hx => by simpa using hx) (MapJ.store rfl MapJ.base)
  · exact ne_app (fun p hp => le2 (I, oI) (by k_mem) p hp) (ne_app (fun p hp => le1 (I, oI) (by k_mem) p hp) nI4)
example : True := by
  k_with "past turna" => (skip)
  exact True.intro
/-! block main -/
example : True := by
  k_with "CompX" => ((fail_if_success (k_extra "past main")); (k_dflt (refine' CompX.lst ?hh ?hF ?hN ?hm ?hn ?sz ?_; (case hh => rfl); (case hF => k_asm); (case hN => k_asm); (case hm => k_mem); (case hn => first | (show _ = 4; rfl) | (show _ = 3; rfl) | (show _ = 2; rfl)); (case sz => decide)); intro g'))
  exact True.intro
example : True := by
  k_with "exec For Name Call cons nil" => ((fail_if_success (k_extra "past main")); (refine stopHere ?_))
  exact True.intro
example : True := by
  k_with "ForAt" => ((fail_if_success (k_extra "past main")); (refine stopHere ?_))
  exact True.intro
example : True := by
  k_with "binaryOp Pow int int" => ((fail_if_success (k_extra "past main")); (k_here; (with_reducible refine pow_int_small ?kb1 ?kb2 ?kb3 ?_); (case kb1 => decide); (case kb2 => decide); (case kb3 => decide)))
  exact True.intro
theorem all_holds : PySem.Challenge.rw_pc0362_01.Holds := by
  w_on
  refine holds_law said_ok fun said => ?_
  refine holds_open (q := hd.view_39) (loose := [Str.ofString "EVERYBODY"]) (Xt := fun s => xlAt hd.view_39 hd.lv s && recOk (RowW.records PySem.Challenge.rw_pc0362_01.row.toRowW) s) (XP := XL hd.view_39 hd.lv) (Yf := Hook.obs hd.hook) (Ya := Hook.val hd.hook) (YP := Hook.says hd.hook) (N := 3898) left_ok (Hook.of hd.hook) (Hook.keeps hd.hook) (fun s e => xl_of s (Bool.and_eq_true_iff.mp e).1) XL.keeps (by rfl) (by rfl) (by rfl) (fun s e => recFacts_of (Bool.and_eq_true_iff.mp e).2) (by rfl) (by first | assumption | decide +kernel) (by decide +kernel) ⟨rfl, rfl, rfl, rfl, rfl, by decide +kernel⟩ ?hw ?hc
  case hw => w_witness2
  clear said
  k_with "execs cons" => ((fail_if_success (k_extra "past main")); k_here; (with_reducible show wpAny _ _ (execs (Stmt.Assign [Expr.Name (Str.ofString "source") _] _ _ :: _) _) _ _ _); refine stopHere ?_)
  k_go0
  (all_goals try k_fold)
  k_steps
  unfold Stopped
  refine for_at ?_
  k_steps
  unfold Stopped
  (skip; have B' := True.intro; have C' := True.intro; have D' := True.intro; have E' := True.intro; have F' := True.intro; have FG' := True.intro; have H' := True.intro; have HF' := True.intro; have HP' := True.intro; have HS' := True.intro; have HT' := True.intro; have I' := True.intro; have L' := True.intro; have N' := True.intro; have P' := True.intro; have R' := True.intro; have S' := True.intro; have T' := True.intro; have U' := True.intro; have X' := True.intro; have Y' := True.intro; have c' := True.intro; have cells' := True.intro; have d' := True.intro; have dp' := True.intro; have e' := True.intro; have eo' := True.intro; have ext' := True.intro; have fd' := True.intro; have g' := True.intro; have h' := True.intro; have hC' := True.intro; have hD' := True.intro; have hT' := True.intro; have hi9 := True.intro; have hv' := True.intro; have hx' := True.intro; have i9 := True.intro; have io' := True.intro; have it' := True.intro; have l1 := True.intro; have l1' := True.intro; have l2 := True.intro; have l2' := True.intro; have l3' := True.intro; have lo' := True.intro; have ls' := True.intro; have m' := True.intro; have n' := True.intro; have ne' := True.intro; have nw' := True.intro; have o' := True.intro; have oC' := True.intro; have oI' := True.intro; have off' := True.intro; have ok' := True.intro; have p' := True.intro; have po' := True.intro; have r' := True.intro; have r0 := True.intro; have r1 := True.intro; have rr := True.intro; have rr0 := True.intro; have rr1 := True.intro; have src' := True.intro; have st' := True.intro; have t' := True.intro; have t1' := True.intro; have t2' := True.intro; have ta' := True.intro; have tb' := True.intro; have tk' := True.intro; have tr := True.intro; have v' := True.intro; have vs' := True.intro; have x' := True.intro; have x0 := True.intro; have x1' := True.intro; have x2' := True.intro; have y' := True.intro; have y0 := True.intro; have y1 := True.intro; have ys' := True.intro; have z' := True.intro; have z0 := True.intro; have z1 := True.intro)
  rename_i hr F9 N9 k9
  clear B' C' D' E' F' FG' H' HF' HP' HS' HT' I' L' N' P' R' S' T' U' X' Y' c' cells' d' dp' e' eo' ext' fd' g' h' hC' hD' hT' hi9 hv' hx' i9 io' it' l1 l1' l2 l2' l3' lo' ls' m' n' ne' nw' o' oC' oI' off' ok' p' po' r' r0 r1 rr rr0 rr1 src' st' t' t1' t2' ta' tb' tk' tr v' vs' x' x0 x1' x2' y' y0 y1 ys' z' z0 z1
  rename _ = Data.cell _ => hcell
  rename ¬ _ => hl63
  obtain ⟨bb, hbb, hr⟩ := range_bb (Int.natCast_nonneg _) hr
  refine for_range (LawJ _ _) rfl hr (rangeSmall_small hbb) (rangeSize_small hbb) F9 (news_sub N9 (sub_cons (by k_mem) (sub_cons (by k_mem) sub_nil))) (by passes_own) (lawJ_zero hcell) ?_ ?_
  · intro i v t m1 nw1 I oI h tk hi hv hJ F N off hIt
    obtain ⟨⟨u1, rfl⟩, oC, ps, ext, rfl, ⟨cv, hcv⟩, hG, hx1, hx2⟩ := hJ
    subst hv
    have hi2 : i < 2 := by omega
    have hl63' := Int.ofNat_le.mp (Int.not_lt.mp hl63)
    obtain ⟨nI1, nI2, nI3⟩ := off
    have nI4 := off1_mem nI3
    k_steps
    unfold Stopped
    refine turnA_c (by assumption) (by assumption) (by assumption) ?hdp ?hun rfl rfl rfl (by assumption) rfl (by assumption) (by assumption) hl63' hi2 (by assumption) (by assumption) hcv hG ?n1 ?n2 nI4 hx1 hx2 ?n3 (by passes_own) fun h' tk' m' all oC' ps' ext' v F' N' hs' hm hc' G' o1 o2 o3 => ?_
    case hdp => ktr_room
    case hun => ktr_units
    case n1 => exact nI1
    case n2 => exact nI2
    case n3 => k_ne
    exact FEnd.next (S := fun _ => True) F' N' hs' ⟨nI1, nI2, off1_of o1⟩ trivial (lawJ_more hm hc' G' o2 o3)
  · intro m1 nw1 h tk hJ F N
    obtain ⟨⟨u1, rfl⟩, oC, ps, ext, rfl, ⟨cv, hcv⟩, hG, hx1, hx2⟩ := hJ
    k_steps
example : True := by
  k_with "past main" => (skip)
  exact True.intro
end
end Mine
set_option maxRecDepth 100000 in
set_option maxHeartbeats 8000000 in
theorem PySem.Challenge.cw_pc0362_01_holds : PySem.Challenge.rw_pc0362_01.Holds := by
  exact Mine.all_holds
