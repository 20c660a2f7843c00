import PyProof.Rows.All
import Wide.All
import OpenK.AllK
import Wide.FinOn
import PySem.Challenge.RW_pc0254_01
open PySem PySem.W PySem.Calls PyProof.Rows PySem.Spec
set_option Elab.async false
set_option maxRecDepth 100000
set_option maxHeartbeats 2000000
namespace Mine
section
set_option maxHeartbeats 8000000
noncomputable def stmtAt : List Stmt → Nat → Stmt
  | [], _ => .Pass default
  | s :: _, 0 => s
  | _ :: r, n + 1 => stmtAt r n
noncomputable def inClass : Stmt → List Stmt
  | .ClassDef _ _ _ body _ _ _ _ _ _ _ => body
  | _ => []
noncomputable abbrev st (i : Nat) : Stmt := stmtAt PySem.Challenge.rw_pc0254_01.prog.main.body i
noncomputable abbrev mth (i j : Nat) : Stmt := stmtAt (inClass (st i)) j
noncomputable def fnOf (s : Stmt) (qual : Str) (dV kV pm cdv : Value) : FuncData := match s with
  | .FunctionDef name args body _ _ _ scope _ _ _ => { name := name, qualname := qual, params := args, body := .stmts body, scope := scope, globals := 3, closure := [], defaults := dV, kwdefaults := kV, pyModule := pm, code := cdv }
  | _ => default
noncomputable def isAssign : Stmt → Bool
  | .Assign .. => true
  | _ => false
noncomputable def hd.view_39 : Program := { PySem.Challenge.rw_pc0254_01.prog with main := { PySem.Challenge.rw_pc0254_01.prog.main with body := PySem.Challenge.rw_pc0254_01.prog.main.body.filter fun s => !isAssign s } }
noncomputable def hd.heap_39 : Params → Frag := fun P => (nat_lit 2, { cls := Value.none, data := Data.dict #[{ hash := PyData.keyHash P (Str.ofString "type.__subclasses__.Exception.0"), key := Value.str (Str.ofString "type.__subclasses__.Exception.0") 221, val := Value.int 38 0 }, { hash := PyData.keyHash P (Str.ofString "type.__subclasses__.Exception.n"), key := Value.str (Str.ofString "type.__subclasses__.Exception.n") 222, val := Value.int 1 0 }] 2 }) ::
  (nat_lit 3, { cls := Value.type "dict", data := Data.dict #[{ hash := PyData.keyHash P (Str.ofString "__name__"), key := Value.str (Str.ofString "__name__") 165, val := Value.str (Str.ofString "law_pc0254_01") 538 }, { hash := PyData.keyHash P (Str.ofString "__doc__"), key := Value.str (Str.ofString "__doc__") 166, val := Value.none }, { hash := PyData.keyHash P (Str.ofString "__package__"), key := Value.str (Str.ofString "__package__") 167, val := Value.none }, { hash := PyData.keyHash P (Str.ofString "__loader__"), key := Value.str (Str.ofString "__loader__") 168, val := Value.builtin "__main__.__loader__#opaque" }, { hash := PyData.keyHash P (Str.ofString "__spec__"), key := Value.str (Str.ofString "__spec__") 169, val := Value.none }, { hash := PyData.keyHash P (Str.ofString "__annotations__"), key := Value.str (Str.ofString "__annotations__") 170, val := Value.ref 6 }, { hash := PyData.keyHash P (Str.ofString "__builtins__"), key := Value.str (Str.ofString "__builtins__") 171, val := Value.ref 4 }, { hash := PyData.keyHash P (Str.ofString "__file__"), key := Value.str (Str.ofString "__file__") 173, val := Value.str (Str.ofString "/claim/cut.py") 172 }, { hash := PyData.keyHash P (Str.ofString "__cached__"), key := Value.str (Str.ofString "__cached__") 174, val := Value.none }, { hash := PyData.keyHash P (Str.ofString "_wall"), key := Value.str (Str.ofString "_wall") 193, val := Value.ref 21 }, { hash := PyData.keyHash P (Str.ofString "PhpFault"), key := Value.str (Str.ofString "PhpFault") 224, val := Value.ref 38 }, { hash := PyData.keyHash P (Str.ofString "LeftOut"), key := Value.str (Str.ofString "LeftOut") 240, val := Value.ref 51 }, { hash := PyData.keyHash P (Str.ofString "least"), key := Value.str (Str.ofString "least") 246, val := Value.ref 60 }, { hash := PyData.keyHash P (Str.ofString "greatest"), key := Value.str (Str.ofString "greatest") 252, val := Value.ref 67 }, { hash := PyData.keyHash P (Str.ofString "whole"), key := Value.str (Str.ofString "whole") 259, val := Value.ref 74 }, { hash := PyData.keyHash P (Str.ofString "raised_case"), key := Value.str (Str.ofString "raised_case") 270, val := Value.ref 81 }, { hash := PyData.keyHash P (Str.ofString "common_length"), key := Value.str (Str.ofString "common_length") 283, val := Value.ref 88 }, { hash := PyData.keyHash P (Str.ofString "common_piece"), key := Value.str (Str.ofString "common_piece") 295, val := Value.ref 95 }, { hash := PyData.keyHash P (Str.ofString "similar"), key := Value.str (Str.ofString "similar") 310, val := Value.ref 102 }, { hash := PyData.keyHash P (Str.ofString "php_similar_text"), key := Value.str (Str.ofString "php_similar_text") 318, val := Value.ref 109 }, { hash := PyData.keyHash P (Str.ofString "distance"), key := Value.str (Str.ofString "distance") 324, val := Value.ref 114 }, { hash := PyData.keyHash P (Str.ofString "php_levenshtein"), key := Value.str (Str.ofString "php_levenshtein") 332, val := Value.ref 121 }, { hash := PyData.keyHash P (Str.ofString "soundex_code"), key := Value.str (Str.ofString "soundex_code") 339, val := Value.ref 128 }, { hash := PyData.keyHash P (Str.ofString "soundex_key"), key := Value.str (Str.ofString "soundex_key") 350, val := Value.ref 135 }, { hash := PyData.keyHash P (Str.ofString "php_soundex"), key := Value.str (Str.ofString "php_soundex") 358, val := Value.ref 142 }, { hash := PyData.keyHash P (Str.ofString "Frame"), key := Value.str (Str.ofString "Frame") 397, val := Value.ref 160 }, { hash := PyData.keyHash P (Str.ofString "Host"), key := Value.str (Str.ofString "Host") 537, val := Value.ref 259 }, { hash := PyData.keyHash P (Str.ofString "_law_pen"), key := Value.str (Str.ofString "_law_pen") 549, val := Value.ref 270 }, { hash := PyData.keyHash P (Str.ofString "_law_take"), key := Value.str (Str.ofString "_law_take") 558, val := Value.ref 277 }, { hash := PyData.keyHash P (Str.ofString "_law_text"), key := Value.str (Str.ofString "_law_text") 564, val := Value.ref 282 }, { hash := PyData.keyHash P (Str.ofString "_law_best"), key := Value.str (Str.ofString "_law_best") 579, val := Value.ref 289 }, { hash := PyData.keyHash P (Str.ofString "_law_told"), key := Value.str (Str.ofString "_law_told") 591, val := Value.ref 296 }, { hash := PyData.keyHash P (Str.ofString "_law_is_least"), key := Value.str (Str.ofString "_law_is_least") 604, val := Value.ref 303 }, { hash := PyData.keyHash P (Str.ofString "_law_edited"), key := Value.str (Str.ofString "_law_edited") 620, val := Value.ref 310 }, { hash := PyData.keyHash P (Str.ofString "_law_one"), key := Value.str (Str.ofString "_law_one") 628, val := Value.ref 317 }, { hash := PyData.keyHash P (Str.ofString "_law_is_metric"), key := Value.str (Str.ofString "_law_is_metric") 640, val := Value.ref 324 }, { hash := PyData.keyHash P (Str.ofString "_law_piece"), key := Value.str (Str.ofString "_law_piece") 651, val := Value.ref 331 }, { hash := PyData.keyHash P (Str.ofString "_law_shared"), key := Value.str (Str.ofString "_law_shared") 662, val := Value.ref 338 }, { hash := PyData.keyHash P (Str.ofString "_law_is_similar"), key := Value.str (Str.ofString "_law_is_similar") 672, val := Value.ref 345 }, { hash := PyData.keyHash P (Str.ofString "_law_code"), key := Value.str (Str.ofString "_law_code") 678, val := Value.ref 350 }, { hash := PyData.keyHash P (Str.ofString "_law_sound"), key := Value.str (Str.ofString "_law_sound") 684, val := Value.ref 355 }, { hash := PyData.keyHash P (Str.ofString "law"), key := Value.str (Str.ofString "law") 690, val := Value.ref 360 }] 42 }) ::
  (nat_lit 15, { cls := Value.type "tuple", data := Data.seq #[] }) ::
  (nat_lit 17, { cls := Value.type "tuple", data := Data.seq #[Value.str (Str.ofString "k") 190] }) ::
  (nat_lit 18, { cls := Value.type "tuple", data := Data.seq #[] }) ::
  (nat_lit 20, { cls := Value.type "code", data := Data.fields #[Value.str (Str.ofString "_wall") 187, Value.str (Str.ofString "_wall") 188, Value.str (Str.ofString "/claim/cut.py") 189, Value.int 1 0, Value.int 1 0, Value.int 0 0, Value.int 0 0, Value.int 3 0, Value.ref 15, Value.bool true, Value.int 181 0, Value.ref 16, Value.none, Value.ref 17, Value.ref 18, Value.ref 19, Value.int 191 0, Value.int 1 0, Value.str (Str.ofString "/claim/cut.py") 192] }) ::
  (nat_lit 21, { cls := Value.type "function", data := Data.func (fnOf (st 0) (Str.ofString "_wall") (Value.none) (Value.none) (Value.str (Str.ofString "__main__") 164) (Value.ref 20)) }) ::
  (nat_lit 22, { cls := Value.type "tuple", data := Data.seq #[Value.type "Exception"] }) ::
  (nat_lit 29, { cls := Value.type "tuple", data := Data.seq #[] }) ::
  (nat_lit 31, { cls := Value.type "tuple", data := Data.seq #[Value.str (Str.ofString "self") 211, Value.str (Str.ofString "why") 212] }) ::
  (nat_lit 32, { cls := Value.type "tuple", data := Data.seq #[] }) ::
  (nat_lit 34, { cls := Value.type "code", data := Data.fields #[Value.str (Str.ofString "__init__") 208, Value.str (Str.ofString "PhpFault.__init__") 209, Value.str (Str.ofString "/claim/cut.py") 210, Value.int 7 0, Value.int 2 0, Value.int 0 0, Value.int 0 0, Value.int 3 0, Value.ref 29, Value.bool true, Value.int 181 0, Value.ref 30, Value.none, Value.ref 31, Value.ref 32, Value.ref 33, Value.int 213 0, Value.int 7 0, Value.str (Str.ofString "/claim/cut.py") 214] }) ::
  (nat_lit 35, { cls := Value.type "function", data := Data.func (fnOf (mth 2 0) (Str.ofString "PhpFault.__init__") (Value.none) (Value.none) (Value.str (Str.ofString "phpcore.faults") 194) (Value.ref 34)) }) ::
  (nat_lit 36, { cls := Value.type "tuple", data := Data.seq #[Value.str (Str.ofString "why") 216] }) ::
  (nat_lit 37, { cls := Value.type "dict", data := Data.dict #[{ hash := PyData.keyHash P (Str.ofString "__module__"), key := Value.str (Str.ofString "__module__") 203, val := Value.str (Str.ofString "phpcore.faults") 194 }, { hash := PyData.keyHash P (Str.ofString "__firstlineno__"), key := Value.str (Str.ofString "__firstlineno__") 207, val := Value.int 5 206 }, { hash := PyData.keyHash P (Str.ofString "__init__"), key := Value.str (Str.ofString "__init__") 215, val := Value.ref 35 }, { hash := PyData.keyHash P (Str.ofString "__static_attributes__"), key := Value.str (Str.ofString "__static_attributes__") 217, val := Value.ref 36 }, { hash := PyData.keyHash P (Str.ofString "__weakref__"), key := Value.str (Str.ofString "__weakref__") 219, val := Value.ref 39 }, { hash := PyData.keyHash P (Str.ofString "__doc__"), key := Value.str (Str.ofString "__doc__") 220, val := Value.none }] 3 }) ::
  (nat_lit 38, { cls := Value.type "type", data := Data.cls { name := Str.ofString "PhpFault", bases := [Value.type "Exception"], mro := [Value.ref 38, Value.type "Exception", Value.type "BaseException", Value.type "object"], ns := 37, qualname := Str.ofString "PhpFault", subclasses := [Value.ref 51] }, slots := #[some (Value.ref 22), none, some (Value.str (Str.ofString "PhpFault") 196), some (Value.str (Str.ofString "PhpFault") 204), some (Value.builtin "Exception.__new__"), some (Value.bool true)] }) ::
  (nat_lit 39, { cls := Value.type "getset_descriptor", data := Data.fields #[Value.str (Str.ofString "__weakref__") 218, Value.ref 38, Value.builtin "ExceptionGroup.__weakref__", Value.none] }) ::
  (nat_lit 42, { cls := Value.type "tuple", data := Data.seq #[Value.ref 38] }) ::
  (nat_lit 49, { cls := Value.type "tuple", data := Data.seq #[] }) ::
  (nat_lit 50, { cls := Value.type "dict", data := Data.dict #[{ hash := PyData.keyHash P (Str.ofString "__module__"), key := Value.str (Str.ofString "__module__") 232, val := Value.str (Str.ofString "phpcore.faults") 194 }, { hash := PyData.keyHash P (Str.ofString "__firstlineno__"), key := Value.str (Str.ofString "__firstlineno__") 236, val := Value.int 10 235 }, { hash := PyData.keyHash P (Str.ofString "__static_attributes__"), key := Value.str (Str.ofString "__static_attributes__") 237, val := Value.ref 49 }, { hash := PyData.keyHash P (Str.ofString "__doc__"), key := Value.str (Str.ofString "__doc__") 238, val := Value.none }] 2 }) ::
  (nat_lit 51, { cls := Value.type "type", data := Data.cls { name := Str.ofString "LeftOut", bases := [Value.ref 38], mro := [Value.ref 51, Value.ref 38, Value.type "Exception", Value.type "BaseException", Value.type "object"], ns := 50, qualname := Str.ofString "LeftOut" }, slots := #[some (Value.ref 42), none, some (Value.str (Str.ofString "LeftOut") 225), some (Value.str (Str.ofString "LeftOut") 233), some (Value.builtin "Exception.__new__"), some (Value.bool true)] }) ::
  (nat_lit 54, { cls := Value.type "tuple", data := Data.seq #[] }) ::
  (nat_lit 56, { cls := Value.type "tuple", data := Data.seq #[] }) ::
  (nat_lit 57, { cls := Value.type "tuple", data := Data.seq #[] }) ::
  (nat_lit 59, { cls := Value.type "code", data := Data.fields #[Value.str (Str.ofString "least") 241, Value.str (Str.ofString "least") 242, Value.str (Str.ofString "/claim/cut.py") 243, Value.int 12 0, Value.int 0 0, Value.int 0 0, Value.int 0 0, Value.int 3 0, Value.ref 54, Value.bool true, Value.int 181 0, Value.ref 55, Value.none, Value.ref 56, Value.ref 57, Value.ref 58, Value.int 244 0, Value.int 12 0, Value.str (Str.ofString "/claim/cut.py") 245] }) ::
  (nat_lit 60, { cls := Value.type "function", data := Data.func (fnOf (st 4) (Str.ofString "least") (Value.none) (Value.none) (Value.str (Str.ofString "phpcore.faults") 194) (Value.ref 59)) }) ::
  (nat_lit 61, { cls := Value.type "tuple", data := Data.seq #[] }) ::
  (nat_lit 63, { cls := Value.type "tuple", data := Data.seq #[] }) ::
  (nat_lit 64, { cls := Value.type "tuple", data := Data.seq #[] }) ::
  (nat_lit 66, { cls := Value.type "code", data := Data.fields #[Value.str (Str.ofString "greatest") 247, Value.str (Str.ofString "greatest") 248, Value.str (Str.ofString "/claim/cut.py") 249, Value.int 14 0, Value.int 0 0, Value.int 0 0, Value.int 0 0, Value.int 3 0, Value.ref 61, Value.bool true, Value.int 181 0, Value.ref 62, Value.none, Value.ref 63, Value.ref 64, Value.ref 65, Value.int 250 0, Value.int 14 0, Value.str (Str.ofString "/claim/cut.py") 251] }) ::
  (nat_lit 67, { cls := Value.type "function", data := Data.func (fnOf (st 5) (Str.ofString "greatest") (Value.none) (Value.none) (Value.str (Str.ofString "phpcore.faults") 194) (Value.ref 66)) }) ::
  (nat_lit 68, { cls := Value.type "tuple", data := Data.seq #[] }) ::
  (nat_lit 70, { cls := Value.type "tuple", data := Data.seq #[Value.str (Str.ofString "n") 256] }) ::
  (nat_lit 71, { cls := Value.type "tuple", data := Data.seq #[] }) ::
  (nat_lit 73, { cls := Value.type "code", data := Data.fields #[Value.str (Str.ofString "whole") 253, Value.str (Str.ofString "whole") 254, Value.str (Str.ofString "/claim/cut.py") 255, Value.int 16 0, Value.int 1 0, Value.int 0 0, Value.int 0 0, Value.int 3 0, Value.ref 68, Value.bool true, Value.int 181 0, Value.ref 69, Value.none, Value.ref 70, Value.ref 71, Value.ref 72, Value.int 257 0, Value.int 16 0, Value.str (Str.ofString "/claim/cut.py") 258] }) ::
  (nat_lit 74, { cls := Value.type "function", data := Data.func (fnOf (st 6) (Str.ofString "whole") (Value.none) (Value.none) (Value.str (Str.ofString "phpcore.faults") 194) (Value.ref 73)) }) ::
  (nat_lit 75, { cls := Value.type "tuple", data := Data.seq #[] }) ::
  (nat_lit 77, { cls := Value.type "tuple", data := Data.seq #[Value.str (Str.ofString "text") 265, Value.str (Str.ofString "made") 266, Value.str (Str.ofString "c") 267] }) ::
  (nat_lit 78, { cls := Value.type "tuple", data := Data.seq #[] }) ::
  (nat_lit 80, { cls := Value.type "code", data := Data.fields #[Value.str (Str.ofString "raised_case") 262, Value.str (Str.ofString "raised_case") 263, Value.str (Str.ofString "/claim/cut.py") 264, Value.int 21 0, Value.int 1 0, Value.int 0 0, Value.int 0 0, Value.int 3 0, Value.ref 75, Value.bool true, Value.int 181 0, Value.ref 76, Value.none, Value.ref 77, Value.ref 78, Value.ref 79, Value.int 268 0, Value.int 21 0, Value.str (Str.ofString "/claim/cut.py") 269] }) ::
  (nat_lit 81, { cls := Value.type "function", data := Data.func (fnOf (st 8) (Str.ofString "raised_case") (Value.none) (Value.none) (Value.str (Str.ofString "phpcore.likeness") 260) (Value.ref 80)) }) ::
  (nat_lit 82, { cls := Value.type "tuple", data := Data.seq #[] }) ::
  (nat_lit 84, { cls := Value.type "tuple", data := Data.seq #[Value.str (Str.ofString "a") 276, Value.str (Str.ofString "at") 277, Value.str (Str.ofString "b") 278, Value.str (Str.ofString "to") 279, Value.str (Str.ofString "many") 280] }) ::
  (nat_lit 85, { cls := Value.type "tuple", data := Data.seq #[] }) ::
  (nat_lit 87, { cls := Value.type "code", data := Data.fields #[Value.str (Str.ofString "common_length") 273, Value.str (Str.ofString "common_length") 274, Value.str (Str.ofString "/claim/cut.py") 275, Value.int 27 0, Value.int 4 0, Value.int 0 0, Value.int 0 0, Value.int 3 0, Value.ref 82, Value.bool true, Value.int 181 0, Value.ref 83, Value.none, Value.ref 84, Value.ref 85, Value.ref 86, Value.int 281 0, Value.int 27 0, Value.str (Str.ofString "/claim/cut.py") 282] }) ::
  (nat_lit 88, { cls := Value.type "function", data := Data.func (fnOf (st 10) (Str.ofString "common_length") (Value.none) (Value.none) (Value.str (Str.ofString "phpcore.textcuts") 271) (Value.ref 87)) }) ::
  (nat_lit 89, { cls := Value.type "tuple", data := Data.seq #[] }) ::
  (nat_lit 91, { cls := Value.type "tuple", data := Data.seq #[Value.str (Str.ofString "a") 287, Value.str (Str.ofString "b") 288, Value.str (Str.ofString "best") 289, Value.str (Str.ofString "at") 290, Value.str (Str.ofString "to") 291, Value.str (Str.ofString "many") 292] }) ::
  (nat_lit 92, { cls := Value.type "tuple", data := Data.seq #[] }) ::
  (nat_lit 94, { cls := Value.type "code", data := Data.fields #[Value.str (Str.ofString "common_piece") 284, Value.str (Str.ofString "common_piece") 285, Value.str (Str.ofString "/claim/cut.py") 286, Value.int 32 0, Value.int 2 0, Value.int 0 0, Value.int 0 0, Value.int 3 0, Value.ref 89, Value.bool true, Value.int 181 0, Value.ref 90, Value.none, Value.ref 91, Value.ref 92, Value.ref 93, Value.int 293 0, Value.int 32 0, Value.str (Str.ofString "/claim/cut.py") 294] }) ::
  (nat_lit 95, { cls := Value.type "function", data := Data.func (fnOf (st 11) (Str.ofString "common_piece") (Value.none) (Value.none) (Value.str (Str.ofString "phpcore.textcuts") 271) (Value.ref 94)) }) ::
  (nat_lit 96, { cls := Value.type "tuple", data := Data.seq #[] }) ::
  (nat_lit 98, { cls := Value.type "tuple", data := Data.seq #[Value.str (Str.ofString "a") 299, Value.str (Str.ofString "b") 300, Value.str (Str.ofString "many") 301, Value.str (Str.ofString "pairs") 302, Value.str (Str.ofString "first") 303, Value.str (Str.ofString "second") 304, Value.str (Str.ofString "at") 305, Value.str (Str.ofString "to") 306, Value.str (Str.ofString "length") 307] }) ::
  (nat_lit 99, { cls := Value.type "tuple", data := Data.seq #[] }) ::
  (nat_lit 101, { cls := Value.type "code", data := Data.fields #[Value.str (Str.ofString "similar") 296, Value.str (Str.ofString "similar") 297, Value.str (Str.ofString "/claim/cut.py") 298, Value.int 40 0, Value.int 2 0, Value.int 0 0, Value.int 0 0, Value.int 3 0, Value.ref 96, Value.bool true, Value.int 181 0, Value.ref 97, Value.none, Value.ref 98, Value.ref 99, Value.ref 100, Value.int 308 0, Value.int 40 0, Value.str (Str.ofString "/claim/cut.py") 309] }) ::
  (nat_lit 102, { cls := Value.type "function", data := Data.func (fnOf (st 12) (Str.ofString "similar") (Value.none) (Value.none) (Value.str (Str.ofString "phpcore.textcuts") 271) (Value.ref 101)) }) ::
  (nat_lit 103, { cls := Value.type "tuple", data := Data.seq #[] }) ::
  (nat_lit 105, { cls := Value.type "tuple", data := Data.seq #[Value.str (Str.ofString "host") 314, Value.str (Str.ofString "args") 315] }) ::
  (nat_lit 106, { cls := Value.type "tuple", data := Data.seq #[] }) ::
  (nat_lit 108, { cls := Value.type "code", data := Data.fields #[Value.str (Str.ofString "php_similar_text") 311, Value.str (Str.ofString "php_similar_text") 312, Value.str (Str.ofString "/claim/cut.py") 313, Value.int 51 0, Value.int 2 0, Value.int 0 0, Value.int 0 0, Value.int 3 0, Value.ref 103, Value.bool true, Value.int 181 0, Value.ref 104, Value.none, Value.ref 105, Value.ref 106, Value.ref 107, Value.int 316 0, Value.int 51 0, Value.str (Str.ofString "/claim/cut.py") 317] }) ::
  (nat_lit 109, { cls := Value.type "function", data := Data.func (fnOf (st 13) (Str.ofString "php_similar_text") (Value.none) (Value.none) (Value.str (Str.ofString "phpcore.textcuts") 271) (Value.ref 108)) }) ::
  (nat_lit 110, { cls := Value.type "tuple", data := Data.seq #[] }) ::
  (nat_lit 113, { cls := Value.type "code", data := Data.fields #[Value.str (Str.ofString "distance") 319, Value.str (Str.ofString "distance") 320, Value.str (Str.ofString "/claim/cut.py") 321, Value.int 53 0, Value.int 5 0, Value.int 0 0, Value.int 0 0, Value.int 3 0, Value.ref 110, Value.bool true, Value.int 181 0, Value.ref 111, Value.none, Value.none, Value.none, Value.ref 112, Value.int 322 0, Value.int 53 0, Value.str (Str.ofString "/claim/cut.py") 323] }) ::
  (nat_lit 114, { cls := Value.type "function", data := Data.func (fnOf (st 14) (Str.ofString "distance") (Value.none) (Value.none) (Value.str (Str.ofString "phpcore.textcuts") 271) (Value.ref 113)) }) ::
  (nat_lit 115, { cls := Value.type "tuple", data := Data.seq #[] }) ::
  (nat_lit 117, { cls := Value.type "tuple", data := Data.seq #[Value.str (Str.ofString "host") 328, Value.str (Str.ofString "args") 329] }) ::
  (nat_lit 118, { cls := Value.type "tuple", data := Data.seq #[] }) ::
  (nat_lit 120, { cls := Value.type "code", data := Data.fields #[Value.str (Str.ofString "php_levenshtein") 325, Value.str (Str.ofString "php_levenshtein") 326, Value.str (Str.ofString "/claim/cut.py") 327, Value.int 66 0, Value.int 2 0, Value.int 0 0, Value.int 0 0, Value.int 3 0, Value.ref 115, Value.bool true, Value.int 181 0, Value.ref 116, Value.none, Value.ref 117, Value.ref 118, Value.ref 119, Value.int 330 0, Value.int 66 0, Value.str (Str.ofString "/claim/cut.py") 331] }) ::
  (nat_lit 121, { cls := Value.type "function", data := Data.func (fnOf (st 15) (Str.ofString "php_levenshtein") (Value.none) (Value.none) (Value.str (Str.ofString "phpcore.textcuts") 271) (Value.ref 120)) }) ::
  (nat_lit 122, { cls := Value.type "tuple", data := Data.seq #[] }) ::
  (nat_lit 124, { cls := Value.type "tuple", data := Data.seq #[Value.str (Str.ofString "letter") 336] }) ::
  (nat_lit 125, { cls := Value.type "tuple", data := Data.seq #[] }) ::
  (nat_lit 127, { cls := Value.type "code", data := Data.fields #[Value.str (Str.ofString "soundex_code") 333, Value.str (Str.ofString "soundex_code") 334, Value.str (Str.ofString "/claim/cut.py") 335, Value.int 68 0, Value.int 1 0, Value.int 0 0, Value.int 0 0, Value.int 3 0, Value.ref 122, Value.bool true, Value.int 181 0, Value.ref 123, Value.none, Value.ref 124, Value.ref 125, Value.ref 126, Value.int 337 0, Value.int 68 0, Value.str (Str.ofString "/claim/cut.py") 338] }) ::
  (nat_lit 128, { cls := Value.type "function", data := Data.func (fnOf (st 16) (Str.ofString "soundex_code") (Value.none) (Value.none) (Value.str (Str.ofString "phpcore.textcuts") 271) (Value.ref 127)) }) ::
  (nat_lit 129, { cls := Value.type "tuple", data := Data.seq #[] }) ::
  (nat_lit 131, { cls := Value.type "tuple", data := Data.seq #[Value.str (Str.ofString "text") 343, Value.str (Str.ofString "made") 344, Value.str (Str.ofString "last") 345, Value.str (Str.ofString "sign") 346, Value.str (Str.ofString "code") 347] }) ::
  (nat_lit 132, { cls := Value.type "tuple", data := Data.seq #[] }) ::
  (nat_lit 134, { cls := Value.type "code", data := Data.fields #[Value.str (Str.ofString "soundex_key") 340, Value.str (Str.ofString "soundex_key") 341, Value.str (Str.ofString "/claim/cut.py") 342, Value.int 70 0, Value.int 1 0, Value.int 0 0, Value.int 0 0, Value.int 3 0, Value.ref 129, Value.bool true, Value.int 181 0, Value.ref 130, Value.none, Value.ref 131, Value.ref 132, Value.ref 133, Value.int 348 0, Value.int 70 0, Value.str (Str.ofString "/claim/cut.py") 349] }) ::
  (nat_lit 135, { cls := Value.type "function", data := Data.func (fnOf (st 17) (Str.ofString "soundex_key") (Value.none) (Value.none) (Value.str (Str.ofString "phpcore.textcuts") 271) (Value.ref 134)) }) ::
  (nat_lit 136, { cls := Value.type "tuple", data := Data.seq #[] }) ::
  (nat_lit 138, { cls := Value.type "tuple", data := Data.seq #[Value.str (Str.ofString "host") 354, Value.str (Str.ofString "args") 355] }) ::
  (nat_lit 139, { cls := Value.type "tuple", data := Data.seq #[] }) ::
  (nat_lit 141, { cls := Value.type "code", data := Data.fields #[Value.str (Str.ofString "php_soundex") 351, Value.str (Str.ofString "php_soundex") 352, Value.str (Str.ofString "/claim/cut.py") 353, Value.int 84 0, Value.int 2 0, Value.int 0 0, Value.int 0 0, Value.int 3 0, Value.ref 136, Value.bool true, Value.int 181 0, Value.ref 137, Value.none, Value.ref 138, Value.ref 139, Value.ref 140, Value.int 356 0, Value.int 84 0, Value.str (Str.ofString "/claim/cut.py") 357] }) ::
  (nat_lit 142, { cls := Value.type "function", data := Data.func (fnOf (st 18) (Str.ofString "php_soundex") (Value.none) (Value.none) (Value.str (Str.ofString "phpcore.textcuts") 271) (Value.ref 141)) }) ::
  (nat_lit 150, { cls := Value.type "tuple", data := Data.seq #[Value.none, Value.none, Value.none, Value.none] }) ::
  (nat_lit 151, { cls := Value.type "tuple", data := Data.seq #[] }) ::
  (nat_lit 153, { cls := Value.type "tuple", data := Data.seq #[Value.str (Str.ofString "self") 376, Value.str (Str.ofString "func") 377, Value.str (Str.ofString "this") 378, Value.str (Str.ofString "cls") 379, Value.str (Str.ofString "static") 380] }) ::
  (nat_lit 154, { cls := Value.type "tuple", data := Data.seq #[] }) ::
  (nat_lit 156, { cls := Value.type "code", data := Data.fields #[Value.str (Str.ofString "__init__") 373, Value.str (Str.ofString "Frame.__init__") 374, Value.str (Str.ofString "/claim/cut.py") 375, Value.int 89 0, Value.int 5 0, Value.int 0 0, Value.int 0 0, Value.int 3 0, Value.ref 151, Value.bool true, Value.int 181 0, Value.ref 152, Value.none, Value.ref 153, Value.ref 154, Value.ref 155, Value.int 381 0, Value.int 89 0, Value.str (Str.ofString "/claim/cut.py") 382] }) ::
  (nat_lit 157, { cls := Value.type "function", data := Data.func (fnOf (mth 20 0) (Str.ofString "Frame.__init__") (Value.ref 150) (Value.none) (Value.str (Str.ofString "phpcore.frames") 359) (Value.ref 156)) }) ::
  (nat_lit 158, { cls := Value.type "tuple", data := Data.seq #[Value.str (Str.ofString "args") 384, Value.str (Str.ofString "cls") 385, Value.str (Str.ofString "func") 386, Value.str (Str.ofString "static") 387, Value.str (Str.ofString "this") 388, Value.str (Str.ofString "vars") 389] }) ::
  (nat_lit 159, { cls := Value.type "dict", data := Data.dict #[{ hash := PyData.keyHash P (Str.ofString "__module__"), key := Value.str (Str.ofString "__module__") 368, val := Value.str (Str.ofString "phpcore.frames") 359 }, { hash := PyData.keyHash P (Str.ofString "__firstlineno__"), key := Value.str (Str.ofString "__firstlineno__") 372, val := Value.int 87 371 }, { hash := PyData.keyHash P (Str.ofString "__init__"), key := Value.str (Str.ofString "__init__") 383, val := Value.ref 157 }, { hash := PyData.keyHash P (Str.ofString "__static_attributes__"), key := Value.str (Str.ofString "__static_attributes__") 390, val := Value.ref 158 }, { hash := PyData.keyHash P (Str.ofString "__dict__"), key := Value.str (Str.ofString "__dict__") 392, val := Value.ref 161 }, { hash := PyData.keyHash P (Str.ofString "__weakref__"), key := Value.str (Str.ofString "__weakref__") 394, val := Value.ref 162 }, { hash := PyData.keyHash P (Str.ofString "__doc__"), key := Value.str (Str.ofString "__doc__") 395, val := Value.none }] 4 }) ::
  (nat_lit 160, { cls := Value.type "type", data := Data.cls { name := Str.ofString "Frame", bases := [Value.type "object"], mro := [Value.ref 160, Value.type "object"], ns := 159, qualname := Str.ofString "Frame" }, slots := #[none, none, some (Value.str (Str.ofString "Frame") 361), some (Value.str (Str.ofString "Frame") 369), some (Value.builtin "object.__new__"), some (Value.bool true)] }) ::
  (nat_lit 161, { cls := Value.type "getset_descriptor", data := Data.fields #[Value.str (Str.ofString "__dict__") 391, Value.ref 160, Value.builtin "function.__dict__", Value.builtin "function.__dict__#set"] }) ::
  (nat_lit 162, { cls := Value.type "getset_descriptor", data := Data.fields #[Value.str (Str.ofString "__weakref__") 393, Value.ref 160, Value.builtin "ExceptionGroup.__weakref__", Value.none] }) ::
  (nat_lit 172, { cls := Value.type "tuple", data := Data.seq #[Value.int 12 412, Value.none] }) ::
  (nat_lit 173, { cls := Value.type "tuple", data := Data.seq #[] }) ::
  (nat_lit 175, { cls := Value.type "tuple", data := Data.seq #[Value.str (Str.ofString "self") 416, Value.str (Str.ofString "limit") 417, Value.str (Str.ofString "fuel") 418] }) ::
  (nat_lit 176, { cls := Value.type "tuple", data := Data.seq #[] }) ::
  (nat_lit 178, { cls := Value.type "code", data := Data.fields #[Value.str (Str.ofString "__init__") 413, Value.str (Str.ofString "Host.__init__") 414, Value.str (Str.ofString "/claim/cut.py") 415, Value.int 99 0, Value.int 3 0, Value.int 0 0, Value.int 0 0, Value.int 3 0, Value.ref 173, Value.bool true, Value.int 181 0, Value.ref 174, Value.none, Value.ref 175, Value.ref 176, Value.ref 177, Value.int 419 0, Value.int 99 0, Value.str (Str.ofString "/claim/cut.py") 420] }) ::
  (nat_lit 179, { cls := Value.type "function", data := Data.func (fnOf (mth 22 0) (Str.ofString "Host.__init__") (Value.ref 172) (Value.none) (Value.str (Str.ofString "phpcore.host") 398) (Value.ref 178)) }) ::
  (nat_lit 180, { cls := Value.type "tuple", data := Data.seq #[] }) ::
  (nat_lit 182, { cls := Value.type "tuple", data := Data.seq #[Value.str (Str.ofString "self") 425, Value.str (Str.ofString "name") 426] }) ::
  (nat_lit 183, { cls := Value.type "tuple", data := Data.seq #[] }) ::
  (nat_lit 185, { cls := Value.type "code", data := Data.fields #[Value.str (Str.ofString "tool") 422, Value.str (Str.ofString "Host.tool") 423, Value.str (Str.ofString "/claim/cut.py") 424, Value.int 121 0, Value.int 2 0, Value.int 0 0, Value.int 0 0, Value.int 3 0, Value.ref 180, Value.bool true, Value.int 181 0, Value.ref 181, Value.none, Value.ref 182, Value.ref 183, Value.ref 184, Value.int 427 0, Value.int 121 0, Value.str (Str.ofString "/claim/cut.py") 428] }) ::
  (nat_lit 186, { cls := Value.type "function", data := Data.func (fnOf (mth 22 1) (Str.ofString "Host.tool") (Value.none) (Value.none) (Value.str (Str.ofString "phpcore.host") 398) (Value.ref 185)) }) ::
  (nat_lit 187, { cls := Value.type "tuple", data := Data.seq #[] }) ::
  (nat_lit 189, { cls := Value.type "tuple", data := Data.seq #[Value.str (Str.ofString "self") 433, Value.str (Str.ofString "level") 434, Value.str (Str.ofString "text") 435] }) ::
  (nat_lit 190, { cls := Value.type "tuple", data := Data.seq #[] }) ::
  (nat_lit 192, { cls := Value.type "code", data := Data.fields #[Value.str (Str.ofString "warn") 430, Value.str (Str.ofString "Host.warn") 431, Value.str (Str.ofString "/claim/cut.py") 432, Value.int 124 0, Value.int 3 0, Value.int 0 0, Value.int 0 0, Value.int 3 0, Value.ref 187, Value.bool true, Value.int 181 0, Value.ref 188, Value.none, Value.ref 189, Value.ref 190, Value.ref 191, Value.int 436 0, Value.int 124 0, Value.str (Str.ofString "/claim/cut.py") 437] }) ::
  (nat_lit 193, { cls := Value.type "function", data := Data.func (fnOf (mth 22 2) (Str.ofString "Host.warn") (Value.none) (Value.none) (Value.str (Str.ofString "phpcore.host") 398) (Value.ref 192)) }) ::
  (nat_lit 194, { cls := Value.type "tuple", data := Data.seq #[] }) ::
  (nat_lit 196, { cls := Value.type "tuple", data := Data.seq #[Value.str (Str.ofString "self") 442, Value.str (Str.ofString "text") 443] }) ::
  (nat_lit 197, { cls := Value.type "tuple", data := Data.seq #[] }) ::
  (nat_lit 199, { cls := Value.type "code", data := Data.fields #[Value.str (Str.ofString "echo") 439, Value.str (Str.ofString "Host.echo") 440, Value.str (Str.ofString "/claim/cut.py") 441, Value.int 127 0, Value.int 2 0, Value.int 0 0, Value.int 0 0, Value.int 3 0, Value.ref 194, Value.bool true, Value.int 181 0, Value.ref 195, Value.none, Value.ref 196, Value.ref 197, Value.ref 198, Value.int 444 0, Value.int 127 0, Value.str (Str.ofString "/claim/cut.py") 445] }) ::
  (nat_lit 200, { cls := Value.type "function", data := Data.func (fnOf (mth 22 3) (Str.ofString "Host.echo") (Value.none) (Value.none) (Value.str (Str.ofString "phpcore.host") 398) (Value.ref 199)) }) ::
  (nat_lit 201, { cls := Value.type "tuple", data := Data.seq #[] }) ::
  (nat_lit 203, { cls := Value.type "tuple", data := Data.seq #[Value.str (Str.ofString "self") 450] }) ::
  (nat_lit 204, { cls := Value.type "tuple", data := Data.seq #[] }) ::
  (nat_lit 206, { cls := Value.type "code", data := Data.fields #[Value.str (Str.ofString "spend") 447, Value.str (Str.ofString "Host.spend") 448, Value.str (Str.ofString "/claim/cut.py") 449, Value.int 130 0, Value.int 1 0, Value.int 0 0, Value.int 0 0, Value.int 3 0, Value.ref 201, Value.bool true, Value.int 181 0, Value.ref 202, Value.none, Value.ref 203, Value.ref 204, Value.ref 205, Value.int 451 0, Value.int 130 0, Value.str (Str.ofString "/claim/cut.py") 452] }) ::
  (nat_lit 207, { cls := Value.type "function", data := Data.func (fnOf (mth 22 4) (Str.ofString "Host.spend") (Value.none) (Value.none) (Value.str (Str.ofString "phpcore.host") 398) (Value.ref 206)) }) ::
  (nat_lit 208, { cls := Value.type "tuple", data := Data.seq #[] }) ::
  (nat_lit 210, { cls := Value.type "tuple", data := Data.seq #[Value.str (Str.ofString "self") 457, Value.str (Str.ofString "node") 458] }) ::
  (nat_lit 211, { cls := Value.type "tuple", data := Data.seq #[] }) ::
  (nat_lit 213, { cls := Value.type "code", data := Data.fields #[Value.str (Str.ofString "eval") 454, Value.str (Str.ofString "Host.eval") 455, Value.str (Str.ofString "/claim/cut.py") 456, Value.int 133 0, Value.int 2 0, Value.int 0 0, Value.int 0 0, Value.int 3 0, Value.ref 208, Value.bool true, Value.int 181 0, Value.ref 209, Value.none, Value.ref 210, Value.ref 211, Value.ref 212, Value.int 459 0, Value.int 133 0, Value.str (Str.ofString "/claim/cut.py") 460] }) ::
  (nat_lit 214, { cls := Value.type "function", data := Data.func (fnOf (mth 22 5) (Str.ofString "Host.eval") (Value.none) (Value.none) (Value.str (Str.ofString "phpcore.host") 398) (Value.ref 213)) }) ::
  (nat_lit 215, { cls := Value.type "tuple", data := Data.seq #[] }) ::
  (nat_lit 217, { cls := Value.type "tuple", data := Data.seq #[Value.str (Str.ofString "self") 465, Value.str (Str.ofString "node") 466] }) ::
  (nat_lit 218, { cls := Value.type "tuple", data := Data.seq #[] }) ::
  (nat_lit 220, { cls := Value.type "code", data := Data.fields #[Value.str (Str.ofString "exec") 462, Value.str (Str.ofString "Host.exec") 463, Value.str (Str.ofString "/claim/cut.py") 464, Value.int 136 0, Value.int 2 0, Value.int 0 0, Value.int 0 0, Value.int 3 0, Value.ref 215, Value.bool true, Value.int 181 0, Value.ref 216, Value.none, Value.ref 217, Value.ref 218, Value.ref 219, Value.int 467 0, Value.int 136 0, Value.str (Str.ofString "/claim/cut.py") 468] }) ::
  (nat_lit 221, { cls := Value.type "function", data := Data.func (fnOf (mth 22 6) (Str.ofString "Host.exec") (Value.none) (Value.none) (Value.str (Str.ofString "phpcore.host") 398) (Value.ref 220)) }) ::
  (nat_lit 222, { cls := Value.type "tuple", data := Data.seq #[] }) ::
  (nat_lit 224, { cls := Value.type "tuple", data := Data.seq #[Value.str (Str.ofString "self") 473, Value.str (Str.ofString "callee") 474, Value.str (Str.ofString "args") 475] }) ::
  (nat_lit 225, { cls := Value.type "tuple", data := Data.seq #[] }) ::
  (nat_lit 227, { cls := Value.type "code", data := Data.fields #[Value.str (Str.ofString "call") 470, Value.str (Str.ofString "Host.call") 471, Value.str (Str.ofString "/claim/cut.py") 472, Value.int 139 0, Value.int 3 0, Value.int 0 0, Value.int 0 0, Value.int 3 0, Value.ref 222, Value.bool true, Value.int 181 0, Value.ref 223, Value.none, Value.ref 224, Value.ref 225, Value.ref 226, Value.int 476 0, Value.int 139 0, Value.str (Str.ofString "/claim/cut.py") 477] }) ::
  (nat_lit 228, { cls := Value.type "function", data := Data.func (fnOf (mth 22 7) (Str.ofString "Host.call") (Value.none) (Value.none) (Value.str (Str.ofString "phpcore.host") 398) (Value.ref 227)) }) ::
  (nat_lit 229, { cls := Value.type "tuple", data := Data.seq #[] }) ::
  (nat_lit 231, { cls := Value.type "tuple", data := Data.seq #[Value.str (Str.ofString "self") 482, Value.str (Str.ofString "obj") 483, Value.str (Str.ofString "name") 484, Value.str (Str.ofString "args") 485] }) ::
  (nat_lit 232, { cls := Value.type "tuple", data := Data.seq #[] }) ::
  (nat_lit 234, { cls := Value.type "code", data := Data.fields #[Value.str (Str.ofString "method") 479, Value.str (Str.ofString "Host.method") 480, Value.str (Str.ofString "/claim/cut.py") 481, Value.int 142 0, Value.int 4 0, Value.int 0 0, Value.int 0 0, Value.int 3 0, Value.ref 229, Value.bool true, Value.int 181 0, Value.ref 230, Value.none, Value.ref 231, Value.ref 232, Value.ref 233, Value.int 486 0, Value.int 142 0, Value.str (Str.ofString "/claim/cut.py") 487] }) ::
  (nat_lit 235, { cls := Value.type "function", data := Data.func (fnOf (mth 22 8) (Str.ofString "Host.method") (Value.none) (Value.none) (Value.str (Str.ofString "phpcore.host") 398) (Value.ref 234)) }) ::
  (nat_lit 236, { cls := Value.type "tuple", data := Data.seq #[] }) ::
  (nat_lit 238, { cls := Value.type "tuple", data := Data.seq #[Value.str (Str.ofString "self") 492] }) ::
  (nat_lit 239, { cls := Value.type "tuple", data := Data.seq #[] }) ::
  (nat_lit 241, { cls := Value.type "code", data := Data.fields #[Value.str (Str.ofString "new_handle") 489, Value.str (Str.ofString "Host.new_handle") 490, Value.str (Str.ofString "/claim/cut.py") 491, Value.int 145 0, Value.int 1 0, Value.int 0 0, Value.int 0 0, Value.int 3 0, Value.ref 236, Value.bool true, Value.int 181 0, Value.ref 237, Value.none, Value.ref 238, Value.ref 239, Value.ref 240, Value.int 493 0, Value.int 145 0, Value.str (Str.ofString "/claim/cut.py") 494] }) ::
  (nat_lit 242, { cls := Value.type "function", data := Data.func (fnOf (mth 22 9) (Str.ofString "Host.new_handle") (Value.none) (Value.none) (Value.str (Str.ofString "phpcore.host") 398) (Value.ref 241)) }) ::
  (nat_lit 243, { cls := Value.type "tuple", data := Data.seq #[] }) ::
  (nat_lit 245, { cls := Value.type "tuple", data := Data.seq #[Value.str (Str.ofString "self") 499] }) ::
  (nat_lit 246, { cls := Value.type "tuple", data := Data.seq #[] }) ::
  (nat_lit 248, { cls := Value.type "code", data := Data.fields #[Value.str (Str.ofString "enter") 496, Value.str (Str.ofString "Host.enter") 497, Value.str (Str.ofString "/claim/cut.py") 498, Value.int 148 0, Value.int 1 0, Value.int 0 0, Value.int 0 0, Value.int 3 0, Value.ref 243, Value.bool true, Value.int 181 0, Value.ref 244, Value.none, Value.ref 245, Value.ref 246, Value.ref 247, Value.int 500 0, Value.int 148 0, Value.str (Str.ofString "/claim/cut.py") 501] }) ::
  (nat_lit 249, { cls := Value.type "function", data := Data.func (fnOf (mth 22 10) (Str.ofString "Host.enter") (Value.none) (Value.none) (Value.str (Str.ofString "phpcore.host") 398) (Value.ref 248)) }) ::
  (nat_lit 250, { cls := Value.type "tuple", data := Data.seq #[] }) ::
  (nat_lit 252, { cls := Value.type "tuple", data := Data.seq #[Value.str (Str.ofString "self") 506] }) ::
  (nat_lit 253, { cls := Value.type "tuple", data := Data.seq #[] }) ::
  (nat_lit 255, { cls := Value.type "code", data := Data.fields #[Value.str (Str.ofString "leave") 503, Value.str (Str.ofString "Host.leave") 504, Value.str (Str.ofString "/claim/cut.py") 505, Value.int 151 0, Value.int 1 0, Value.int 0 0, Value.int 0 0, Value.int 3 0, Value.ref 250, Value.bool true, Value.int 181 0, Value.ref 251, Value.none, Value.ref 252, Value.ref 253, Value.ref 254, Value.int 507 0, Value.int 151 0, Value.str (Str.ofString "/claim/cut.py") 508] }) ::
  (nat_lit 256, { cls := Value.type "function", data := Data.func (fnOf (mth 22 11) (Str.ofString "Host.leave") (Value.none) (Value.none) (Value.str (Str.ofString "phpcore.host") 398) (Value.ref 255)) }) ::
  (nat_lit 257, { cls := Value.type "tuple", data := Data.seq #[Value.str (Str.ofString "autoload_order") 510, Value.str (Str.ofString "buffers") 511, Value.str (Str.ofString "classes") 512, Value.str (Str.ofString "constants") 513, Value.str (Str.ofString "depth") 514, Value.str (Str.ofString "evals") 515, Value.str (Str.ofString "execs") 516, Value.str (Str.ofString "frame") 517, Value.str (Str.ofString "fuel") 518, Value.str (Str.ofString "functions") 519, Value.str (Str.ofString "handles") 520, Value.str (Str.ofString "is_strict") 521, Value.str (Str.ofString "limit") 522, Value.str (Str.ofString "made") 523, Value.str (Str.ofString "notes") 524, Value.str (Str.ofString "parts") 525, Value.str (Str.ofString "silent") 526, Value.str (Str.ofString "spent") 527, Value.str (Str.ofString "tools") 528, Value.str (Str.ofString "top") 529] }) ::
  (nat_lit 258, { cls := Value.type "dict", data := Data.dict #[{ hash := PyData.keyHash P (Str.ofString "__module__"), key := Value.str (Str.ofString "__module__") 407, val := Value.str (Str.ofString "phpcore.host") 398 }, { hash := PyData.keyHash P (Str.ofString "__firstlineno__"), key := Value.str (Str.ofString "__firstlineno__") 411, val := Value.int 97 410 }, { hash := PyData.keyHash P (Str.ofString "__init__"), key := Value.str (Str.ofString "__init__") 421, val := Value.ref 179 }, { hash := PyData.keyHash P (Str.ofString "tool"), key := Value.str (Str.ofString "tool") 429, val := Value.ref 186 }, { hash := PyData.keyHash P (Str.ofString "warn"), key := Value.str (Str.ofString "warn") 438, val := Value.ref 193 }, { hash := PyData.keyHash P (Str.ofString "echo"), key := Value.str (Str.ofString "echo") 446, val := Value.ref 200 }, { hash := PyData.keyHash P (Str.ofString "spend"), key := Value.str (Str.ofString "spend") 453, val := Value.ref 207 }, { hash := PyData.keyHash P (Str.ofString "eval"), key := Value.str (Str.ofString "eval") 461, val := Value.ref 214 }, { hash := PyData.keyHash P (Str.ofString "exec"), key := Value.str (Str.ofString "exec") 469, val := Value.ref 221 }, { hash := PyData.keyHash P (Str.ofString "call"), key := Value.str (Str.ofString "call") 478, val := Value.ref 228 }, { hash := PyData.keyHash P (Str.ofString "method"), key := Value.str (Str.ofString "method") 488, val := Value.ref 235 }, { hash := PyData.keyHash P (Str.ofString "new_handle"), key := Value.str (Str.ofString "new_handle") 495, val := Value.ref 242 }, { hash := PyData.keyHash P (Str.ofString "enter"), key := Value.str (Str.ofString "enter") 502, val := Value.ref 249 }, { hash := PyData.keyHash P (Str.ofString "leave"), key := Value.str (Str.ofString "leave") 509, val := Value.ref 256 }, { hash := PyData.keyHash P (Str.ofString "__static_attributes__"), key := Value.str (Str.ofString "__static_attributes__") 530, val := Value.ref 257 }, { hash := PyData.keyHash P (Str.ofString "__dict__"), key := Value.str (Str.ofString "__dict__") 532, val := Value.ref 260 }, { hash := PyData.keyHash P (Str.ofString "__weakref__"), key := Value.str (Str.ofString "__weakref__") 534, val := Value.ref 261 }, { hash := PyData.keyHash P (Str.ofString "__doc__"), key := Value.str (Str.ofString "__doc__") 535, val := Value.none }] 4 }) ::
  (nat_lit 259, { cls := Value.type "type", data := Data.cls { name := Str.ofString "Host", bases := [Value.type "object"], mro := [Value.ref 259, Value.type "object"], ns := 258, qualname := Str.ofString "Host" }, slots := #[none, none, some (Value.str (Str.ofString "Host") 400), some (Value.str (Str.ofString "Host") 408), some (Value.builtin "object.__new__"), some (Value.bool true)] }) ::
  (nat_lit 260, { cls := Value.type "getset_descriptor", data := Data.fields #[Value.str (Str.ofString "__dict__") 531, Value.ref 259, Value.builtin "function.__dict__", Value.builtin "function.__dict__#set"] }) ::
  (nat_lit 261, { cls := Value.type "getset_descriptor", data := Data.fields #[Value.str (Str.ofString "__weakref__") 533, Value.ref 259, Value.builtin "ExceptionGroup.__weakref__", Value.none] }) ::
  (nat_lit 264, { cls := Value.type "tuple", data := Data.seq #[] }) ::
  (nat_lit 266, { cls := Value.type "tuple", data := Data.seq #[Value.str (Str.ofString "script") 543, Value.str (Str.ofString "nth") 544, Value.str (Str.ofString "number") 545, Value.str (Str.ofString "cell") 546] }) ::
  (nat_lit 267, { cls := Value.type "tuple", data := Data.seq #[] }) ::
  (nat_lit 269, { cls := Value.type "code", data := Data.fields #[Value.str (Str.ofString "_law_pen") 540, Value.str (Str.ofString "_law_pen") 541, Value.str (Str.ofString "/claim/cut.py") 542, Value.int 154 0, Value.int 2 0, Value.int 0 0, Value.int 0 0, Value.int 3 0, Value.ref 264, Value.bool true, Value.int 181 0, Value.ref 265, Value.none, Value.ref 266, Value.ref 267, Value.ref 268, Value.int 547 0, Value.int 154 0, Value.str (Str.ofString "/claim/cut.py") 548] }) ::
  (nat_lit 270, { cls := Value.type "function", data := Data.func (fnOf (st 24) (Str.ofString "_law_pen") (Value.none) (Value.none) (Value.str (Str.ofString "law_pc0254_01") 538) (Value.ref 269)) }) ::
  (nat_lit 271, { cls := Value.type "tuple", data := Data.seq #[] }) ::
  (nat_lit 273, { cls := Value.type "tuple", data := Data.seq #[Value.str (Str.ofString "pen") 553, Value.str (Str.ofString "many") 554, Value.str (Str.ofString "drawn") 555] }) ::
  (nat_lit 274, { cls := Value.type "tuple", data := Data.seq #[] }) ::
  (nat_lit 276, { cls := Value.type "code", data := Data.fields #[Value.str (Str.ofString "_law_take") 550, Value.str (Str.ofString "_law_take") 551, Value.str (Str.ofString "/claim/cut.py") 552, Value.int 159 0, Value.int 2 0, Value.int 0 0, Value.int 0 0, Value.int 3 0, Value.ref 271, Value.bool true, Value.int 181 0, Value.ref 272, Value.none, Value.ref 273, Value.ref 274, Value.ref 275, Value.int 556 0, Value.int 159 0, Value.str (Str.ofString "/claim/cut.py") 557] }) ::
  (nat_lit 277, { cls := Value.type "function", data := Data.func (fnOf (st 25) (Str.ofString "_law_take") (Value.none) (Value.none) (Value.str (Str.ofString "law_pc0254_01") 538) (Value.ref 276)) }) ::
  (nat_lit 278, { cls := Value.type "tuple", data := Data.seq #[] }) ::
  (nat_lit 281, { cls := Value.type "code", data := Data.fields #[Value.str (Str.ofString "_law_text") 559, Value.str (Str.ofString "_law_text") 560, Value.str (Str.ofString "/claim/cut.py") 561, Value.int 164 0, Value.int 3 0, Value.int 0 0, Value.int 0 0, Value.int 3 0, Value.ref 278, Value.bool true, Value.int 181 0, Value.ref 279, Value.none, Value.none, Value.none, Value.ref 280, Value.int 562 0, Value.int 164 0, Value.str (Str.ofString "/claim/cut.py") 563] }) ::
  (nat_lit 282, { cls := Value.type "function", data := Data.func (fnOf (st 26) (Str.ofString "_law_text") (Value.none) (Value.none) (Value.str (Str.ofString "law_pc0254_01") 538) (Value.ref 281)) }) ::
  (nat_lit 283, { cls := Value.type "tuple", data := Data.seq #[] }) ::
  (nat_lit 285, { cls := Value.type "tuple", data := Data.seq #[Value.str (Str.ofString "a") 568, Value.str (Str.ofString "b") 569, Value.str (Str.ofString "into") 570, Value.str (Str.ofString "other") 571, Value.str (Str.ofString "away") 572, Value.str (Str.ofString "table") 573, Value.str (Str.ofString "at") 574, Value.str (Str.ofString "to") 575, Value.str (Str.ofString "ways") 576] }) ::
  (nat_lit 286, { cls := Value.type "tuple", data := Data.seq #[] }) ::
  (nat_lit 288, { cls := Value.type "code", data := Data.fields #[Value.str (Str.ofString "_law_best") 565, Value.str (Str.ofString "_law_best") 566, Value.str (Str.ofString "/claim/cut.py") 567, Value.int 167 0, Value.int 5 0, Value.int 0 0, Value.int 0 0, Value.int 3 0, Value.ref 283, Value.bool true, Value.int 181 0, Value.ref 284, Value.none, Value.ref 285, Value.ref 286, Value.ref 287, Value.int 577 0, Value.int 167 0, Value.str (Str.ofString "/claim/cut.py") 578] }) ::
  (nat_lit 289, { cls := Value.type "function", data := Data.func (fnOf (st 27) (Str.ofString "_law_best") (Value.none) (Value.none) (Value.str (Str.ofString "law_pc0254_01") 538) (Value.ref 288)) }) ::
  (nat_lit 290, { cls := Value.type "tuple", data := Data.seq #[] }) ::
  (nat_lit 292, { cls := Value.type "tuple", data := Data.seq #[Value.str (Str.ofString "host") 583, Value.str (Str.ofString "a") 584, Value.str (Str.ofString "b") 585, Value.str (Str.ofString "into") 586, Value.str (Str.ofString "other") 587, Value.str (Str.ofString "away") 588] }) ::
  (nat_lit 293, { cls := Value.type "tuple", data := Data.seq #[] }) ::
  (nat_lit 295, { cls := Value.type "code", data := Data.fields #[Value.str (Str.ofString "_law_told") 580, Value.str (Str.ofString "_law_told") 581, Value.str (Str.ofString "/claim/cut.py") 582, Value.int 180 0, Value.int 6 0, Value.int 0 0, Value.int 0 0, Value.int 3 0, Value.ref 290, Value.bool true, Value.int 181 0, Value.ref 291, Value.none, Value.ref 292, Value.ref 293, Value.ref 294, Value.int 589 0, Value.int 180 0, Value.str (Str.ofString "/claim/cut.py") 590] }) ::
  (nat_lit 296, { cls := Value.type "function", data := Data.func (fnOf (st 28) (Str.ofString "_law_told") (Value.none) (Value.none) (Value.str (Str.ofString "law_pc0254_01") 538) (Value.ref 295)) }) ::
  (nat_lit 297, { cls := Value.type "tuple", data := Data.seq #[] }) ::
  (nat_lit 299, { cls := Value.type "tuple", data := Data.seq #[Value.str (Str.ofString "host") 595, Value.str (Str.ofString "a") 596, Value.str (Str.ofString "b") 597, Value.str (Str.ofString "into") 598, Value.str (Str.ofString "other") 599, Value.str (Str.ofString "away") 600, Value.str (Str.ofString "due") 601] }) ::
  (nat_lit 300, { cls := Value.type "tuple", data := Data.seq #[] }) ::
  (nat_lit 302, { cls := Value.type "code", data := Data.fields #[Value.str (Str.ofString "_law_is_least") 592, Value.str (Str.ofString "_law_is_least") 593, Value.str (Str.ofString "/claim/cut.py") 594, Value.int 185 0, Value.int 6 0, Value.int 0 0, Value.int 0 0, Value.int 3 0, Value.ref 297, Value.bool true, Value.int 181 0, Value.ref 298, Value.none, Value.ref 299, Value.ref 300, Value.ref 301, Value.int 602 0, Value.int 185 0, Value.str (Str.ofString "/claim/cut.py") 603] }) ::
  (nat_lit 303, { cls := Value.type "function", data := Data.func (fnOf (st 29) (Str.ofString "_law_is_least") (Value.none) (Value.none) (Value.str (Str.ofString "law_pc0254_01") 538) (Value.ref 302)) }) ::
  (nat_lit 304, { cls := Value.type "tuple", data := Data.seq #[] }) ::
  (nat_lit 306, { cls := Value.type "tuple", data := Data.seq #[Value.str (Str.ofString "pen") 608, Value.str (Str.ofString "text") 609, Value.str (Str.ofString "into") 610, Value.str (Str.ofString "other") 611, Value.str (Str.ofString "away") 612, Value.str (Str.ofString "cost") 613, Value.str (Str.ofString "turn") 614, Value.str (Str.ofString "sort") 615, Value.str (Str.ofString "place") 616, Value.str (Str.ofString "sign") 617] }) ::
  (nat_lit 307, { cls := Value.type "tuple", data := Data.seq #[] }) ::
  (nat_lit 309, { cls := Value.type "code", data := Data.fields #[Value.str (Str.ofString "_law_edited") 605, Value.str (Str.ofString "_law_edited") 606, Value.str (Str.ofString "/claim/cut.py") 607, Value.int 192 0, Value.int 5 0, Value.int 0 0, Value.int 0 0, Value.int 3 0, Value.ref 304, Value.bool true, Value.int 181 0, Value.ref 305, Value.none, Value.ref 306, Value.ref 307, Value.ref 308, Value.int 618 0, Value.int 192 0, Value.str (Str.ofString "/claim/cut.py") 619] }) ::
  (nat_lit 310, { cls := Value.type "function", data := Data.func (fnOf (st 30) (Str.ofString "_law_edited") (Value.none) (Value.none) (Value.str (Str.ofString "law_pc0254_01") 538) (Value.ref 309)) }) ::
  (nat_lit 311, { cls := Value.type "tuple", data := Data.seq #[] }) ::
  (nat_lit 313, { cls := Value.type "tuple", data := Data.seq #[Value.str (Str.ofString "a") 624, Value.str (Str.ofString "b") 625] }) ::
  (nat_lit 314, { cls := Value.type "tuple", data := Data.seq #[] }) ::
  (nat_lit 316, { cls := Value.type "code", data := Data.fields #[Value.str (Str.ofString "_law_one") 621, Value.str (Str.ofString "_law_one") 622, Value.str (Str.ofString "/claim/cut.py") 623, Value.int 204 0, Value.int 2 0, Value.int 0 0, Value.int 0 0, Value.int 3 0, Value.ref 311, Value.bool true, Value.int 181 0, Value.ref 312, Value.none, Value.ref 313, Value.ref 314, Value.ref 315, Value.int 626 0, Value.int 204 0, Value.str (Str.ofString "/claim/cut.py") 627] }) ::
  (nat_lit 317, { cls := Value.type "function", data := Data.func (fnOf (st 31) (Str.ofString "_law_one") (Value.none) (Value.none) (Value.str (Str.ofString "law_pc0254_01") 538) (Value.ref 316)) }) ::
  (nat_lit 318, { cls := Value.type "tuple", data := Data.seq #[] }) ::
  (nat_lit 320, { cls := Value.type "tuple", data := Data.seq #[Value.str (Str.ofString "a") 632, Value.str (Str.ofString "b") 633, Value.str (Str.ofString "c") 634, Value.str (Str.ofString "ab") 635, Value.str (Str.ofString "bc") 636, Value.str (Str.ofString "ac") 637] }) ::
  (nat_lit 321, { cls := Value.type "tuple", data := Data.seq #[] }) ::
  (nat_lit 323, { cls := Value.type "code", data := Data.fields #[Value.str (Str.ofString "_law_is_metric") 629, Value.str (Str.ofString "_law_is_metric") 630, Value.str (Str.ofString "/claim/cut.py") 631, Value.int 206 0, Value.int 3 0, Value.int 0 0, Value.int 0 0, Value.int 3 0, Value.ref 318, Value.bool true, Value.int 181 0, Value.ref 319, Value.none, Value.ref 320, Value.ref 321, Value.ref 322, Value.int 638 0, Value.int 206 0, Value.str (Str.ofString "/claim/cut.py") 639] }) ::
  (nat_lit 324, { cls := Value.type "function", data := Data.func (fnOf (st 32) (Str.ofString "_law_is_metric") (Value.none) (Value.none) (Value.str (Str.ofString "law_pc0254_01") 538) (Value.ref 323)) }) ::
  (nat_lit 325, { cls := Value.type "tuple", data := Data.seq #[] }) ::
  (nat_lit 327, { cls := Value.type "tuple", data := Data.seq #[Value.str (Str.ofString "a") 644, Value.str (Str.ofString "b") 645, Value.str (Str.ofString "size") 646, Value.str (Str.ofString "at") 647, Value.str (Str.ofString "to") 648] }) ::
  (nat_lit 328, { cls := Value.type "tuple", data := Data.seq #[] }) ::
  (nat_lit 330, { cls := Value.type "code", data := Data.fields #[Value.str (Str.ofString "_law_piece") 641, Value.str (Str.ofString "_law_piece") 642, Value.str (Str.ofString "/claim/cut.py") 643, Value.int 213 0, Value.int 2 0, Value.int 0 0, Value.int 0 0, Value.int 3 0, Value.ref 325, Value.bool true, Value.int 181 0, Value.ref 326, Value.none, Value.ref 327, Value.ref 328, Value.ref 329, Value.int 649 0, Value.int 213 0, Value.str (Str.ofString "/claim/cut.py") 650] }) ::
  (nat_lit 331, { cls := Value.type "function", data := Data.func (fnOf (st 33) (Str.ofString "_law_piece") (Value.none) (Value.none) (Value.str (Str.ofString "law_pc0254_01") 538) (Value.ref 330)) }) ::
  (nat_lit 332, { cls := Value.type "tuple", data := Data.seq #[] }) ::
  (nat_lit 334, { cls := Value.type "tuple", data := Data.seq #[Value.str (Str.ofString "a") 655, Value.str (Str.ofString "b") 656, Value.str (Str.ofString "at") 657, Value.str (Str.ofString "to") 658, Value.str (Str.ofString "size") 659] }) ::
  (nat_lit 335, { cls := Value.type "tuple", data := Data.seq #[] }) ::
  (nat_lit 337, { cls := Value.type "code", data := Data.fields #[Value.str (Str.ofString "_law_shared") 652, Value.str (Str.ofString "_law_shared") 653, Value.str (Str.ofString "/claim/cut.py") 654, Value.int 220 0, Value.int 2 0, Value.int 0 0, Value.int 0 0, Value.int 3 0, Value.ref 332, Value.bool true, Value.int 181 0, Value.ref 333, Value.none, Value.ref 334, Value.ref 335, Value.ref 336, Value.int 660 0, Value.int 220 0, Value.str (Str.ofString "/claim/cut.py") 661] }) ::
  (nat_lit 338, { cls := Value.type "function", data := Data.func (fnOf (st 34) (Str.ofString "_law_shared") (Value.none) (Value.none) (Value.str (Str.ofString "law_pc0254_01") 538) (Value.ref 337)) }) ::
  (nat_lit 339, { cls := Value.type "tuple", data := Data.seq #[] }) ::
  (nat_lit 341, { cls := Value.type "tuple", data := Data.seq #[Value.str (Str.ofString "host") 666, Value.str (Str.ofString "a") 667, Value.str (Str.ofString "b") 668, Value.str (Str.ofString "many") 669] }) ::
  (nat_lit 342, { cls := Value.type "tuple", data := Data.seq #[] }) ::
  (nat_lit 344, { cls := Value.type "code", data := Data.fields #[Value.str (Str.ofString "_law_is_similar") 663, Value.str (Str.ofString "_law_is_similar") 664, Value.str (Str.ofString "/claim/cut.py") 665, Value.int 225 0, Value.int 3 0, Value.int 0 0, Value.int 0 0, Value.int 3 0, Value.ref 339, Value.bool true, Value.int 181 0, Value.ref 340, Value.none, Value.ref 341, Value.ref 342, Value.ref 343, Value.int 670 0, Value.int 225 0, Value.str (Str.ofString "/claim/cut.py") 671] }) ::
  (nat_lit 345, { cls := Value.type "function", data := Data.func (fnOf (st 35) (Str.ofString "_law_is_similar") (Value.none) (Value.none) (Value.str (Str.ofString "law_pc0254_01") 538) (Value.ref 344)) }) ::
  (nat_lit 346, { cls := Value.type "tuple", data := Data.seq #[] }) ::
  (nat_lit 349, { cls := Value.type "code", data := Data.fields #[Value.str (Str.ofString "_law_code") 673, Value.str (Str.ofString "_law_code") 674, Value.str (Str.ofString "/claim/cut.py") 675, Value.int 230 0, Value.int 1 0, Value.int 0 0, Value.int 0 0, Value.int 3 0, Value.ref 346, Value.bool true, Value.int 181 0, Value.ref 347, Value.none, Value.none, Value.none, Value.ref 348, Value.int 676 0, Value.int 230 0, Value.str (Str.ofString "/claim/cut.py") 677] }) ::
  (nat_lit 350, { cls := Value.type "function", data := Data.func (fnOf (st 36) (Str.ofString "_law_code") (Value.none) (Value.none) (Value.str (Str.ofString "law_pc0254_01") 538) (Value.ref 349)) }) ::
  (nat_lit 351, { cls := Value.type "tuple", data := Data.seq #[] }) ::
  (nat_lit 354, { cls := Value.type "code", data := Data.fields #[Value.str (Str.ofString "_law_sound") 679, Value.str (Str.ofString "_law_sound") 680, Value.str (Str.ofString "/claim/cut.py") 681, Value.int 233 0, Value.int 1 0, Value.int 0 0, Value.int 0 0, Value.int 3 0, Value.ref 351, Value.bool true, Value.int 181 0, Value.ref 352, Value.none, Value.none, Value.none, Value.ref 353, Value.int 682 0, Value.int 233 0, Value.str (Str.ofString "/claim/cut.py") 683] }) ::
  (nat_lit 355, { cls := Value.type "function", data := Data.func (fnOf (st 37) (Str.ofString "_law_sound") (Value.none) (Value.none) (Value.str (Str.ofString "law_pc0254_01") 538) (Value.ref 354)) }) ::
  (nat_lit 356, { cls := Value.type "tuple", data := Data.seq #[] }) ::
  (nat_lit 359, { cls := Value.type "code", data := Data.fields #[Value.str (Str.ofString "law") 685, Value.str (Str.ofString "law") 686, Value.str (Str.ofString "/claim/cut.py") 687, Value.int 241 0, Value.int 1 0, Value.int 0 0, Value.int 0 0, Value.int 3 0, Value.ref 356, Value.bool true, Value.int 181 0, Value.ref 357, Value.none, Value.none, Value.none, Value.ref 358, Value.int 688 0, Value.int 241 0, Value.str (Str.ofString "/claim/cut.py") 689] }) ::
  (nat_lit 360, { cls := Value.type "function", data := Data.func (fnOf (st 38) (Str.ofString "law") (Value.none) (Value.none) (Value.str (Str.ofString "law_pc0254_01") 538) (Value.ref 359)) }) :: []
noncomputable abbrev asL : List Addr := [2, 3, 15, 17, 18, 20, 21, 22, 29, 31, 32, 34, 35, 36, 37, 38, 39, 42, 49, 50, 51, 54, 56, 57, 59, 60, 61, 63, 64, 66, 67, 68, 70, 71, 73, 74, 75, 77, 78, 80, 81, 82, 84, 85, 87, 88, 89, 91, 92, 94, 95, 96, 98, 99, 101, 102, 103, 105, 106, 108, 109, 110, 113, 114, 115, 117, 118, 120, 121, 122, 124, 125, 127, 128, 129, 131, 132, 134, 135, 136, 138, 139, 141, 142, 150, 151, 153, 154, 156, 157, 158, 159, 160, 161, 162, 172, 173, 175, 176, 178, 179, 180, 182, 183, 185, 186, 187, 189, 190, 192, 193, 194, 196, 197, 199, 200, 201, 203, 204, 206, 207, 208, 210, 211, 213, 214, 215, 217, 218, 220, 221, 222, 224, 225, 227, 228, 229, 231, 232, 234, 235, 236, 238, 239, 241, 242, 243, 245, 246, 248, 249, 250, 252, 253, 255, 256, 257, 258, 259, 260, 261, 264, 266, 267, 269, 270, 271, 273, 274, 276, 277, 278, 281, 282, 283, 285, 286, 288, 289, 290, 292, 293, 295, 296, 297, 299, 300, 302, 303, 304, 306, 307, 309, 310, 311, 313, 314, 316, 317, 318, 320, 321, 323, 324, 325, 327, 328, 330, 331, 332, 334, 335, 337, 338, 339, 341, 342, 344, 345, 346, 349, 350, 351, 354, 355, 356, 359, 360]
noncomputable def HK : Hook := kHook hd.heap_39 asL (fun _ => by kernel_rfl)
end
section
set_option maxRecDepth 1000000
set_option maxHeartbeats 0
noncomputable def restF : Params → Frag := fun P => (nat_lit 0, boot_o_0 P) ::
  (nat_lit 1, boot_o_1 P) ::
  (nat_lit 4, boot_o_4 P) ::
  (nat_lit 5, boot_o_5 P) ::
  (nat_lit 6, boot_o_6 P) ::
  (nat_lit 7, boot_o_7 P) ::
  (nat_lit 8, boot_o_8 P) ::
  (nat_lit 9, boot_o_9 P) ::
  (nat_lit 10, boot_o_10 P) ::
  (nat_lit 11, { cls := Value.type "tuple", data := Data.seq #[] }) ::
  (nat_lit 12, { cls := Value.none, data := Data.fields #[Value.int 1 0, Value.int 0 0, Value.ref 20, Value.int 5 0, Value.int 0 0, Value.ref 27, Value.int 10 0, Value.int 0 0, Value.ref 47, Value.int 12 0, Value.int 0 0, Value.ref 59, Value.int 14 0, Value.int 0 0, Value.ref 66, Value.int 16 0, Value.int 0 0, Value.ref 73, Value.int 21 0, Value.int 0 0, Value.ref 80, Value.int 27 0, Value.int 0 0, Value.ref 87, Value.int 32 0, Value.int 0 0, Value.ref 94, Value.int 40 0, Value.int 0 0, Value.ref 101, Value.int 51 0, Value.int 0 0, Value.ref 108, Value.int 53 0, Value.int 0 0, Value.ref 113, Value.int 66 0, Value.int 0 0, Value.ref 120, Value.int 68 0, Value.int 0 0, Value.ref 127, Value.int 70 0, Value.int 0 0, Value.ref 134, Value.int 84 0, Value.int 0 0, Value.ref 141, Value.int 87 0, Value.int 0 0, Value.ref 148, Value.int 97 0, Value.int 0 0, Value.ref 170, Value.int 154 0, Value.int 0 0, Value.ref 269, Value.int 159 0, Value.int 0 0, Value.ref 276, Value.int 164 0, Value.int 0 0, Value.ref 281, Value.int 167 0, Value.int 0 0, Value.ref 288, Value.int 180 0, Value.int 0 0, Value.ref 295, Value.int 185 0, Value.int 0 0, Value.ref 302, Value.int 192 0, Value.int 0 0, Value.ref 309, Value.int 204 0, Value.int 0 0, Value.ref 316, Value.int 206 0, Value.int 0 0, Value.ref 323, Value.int 213 0, Value.int 0 0, Value.ref 330, Value.int 220 0, Value.int 0 0, Value.ref 337, Value.int 225 0, Value.int 0 0, Value.ref 344, Value.int 230 0, Value.int 0 0, Value.ref 349, Value.int 233 0, Value.int 0 0, Value.ref 354, Value.int 241 0, Value.int 0 0, Value.ref 359] }) ::
  (nat_lit 13, { cls := Value.type "code", data := Data.fields #[Value.str (Str.ofString "<module>") 182, Value.str (Str.ofString "<module>") 183, Value.str (Str.ofString "/claim/cut.py") 184, Value.int 1 0, Value.int 0 0, Value.int 0 0, Value.int 0 0, Value.int 0 0, Value.ref 11, Value.bool false, Value.int 181 0, Value.ref 12, Value.none, Value.none, Value.none, Value.none, Value.int 185 0, Value.int 1 0, Value.str (Str.ofString "/claim/cut.py") 186] }) ::
  (nat_lit 14, { cls := Value.type "frame", slots := #[some (Value.ref 13), some (Value.ref 3), some (Value.ref 3), none, some (Value.str (Str.ofString "__main__") 164), none, some (Value.ref 0)] }) ::
  (nat_lit 16, { cls := Value.none, data := Data.fields #[] }) ::
  (nat_lit 19, { cls := Value.none, data := Data.func { fnOf (st 0) (Str.ofString "_wall") (Value.none) (Value.none) (Value.none) (Value.none) with globals := 0 } }) ::
  (nat_lit 23, { cls := Value.type "builtin_function_or_method", data := Data.fields #[Value.builtin "type.__prepare__", Value.type "type"] }) ::
  (nat_lit 24, { cls := Value.type "dict", data := Data.dict #[{ hash := PyData.keyHash P (Str.ofString "__module__"), key := Value.str (Str.ofString "__module__") 203, val := Value.str (Str.ofString "phpcore.faults") 194 }, { hash := PyData.keyHash P (Str.ofString "__qualname__"), key := Value.str (Str.ofString "__qualname__") 205, val := Value.str (Str.ofString "PhpFault") 204 }, { hash := PyData.keyHash P (Str.ofString "__firstlineno__"), key := Value.str (Str.ofString "__firstlineno__") 207, val := Value.int 5 206 }, { hash := PyData.keyHash P (Str.ofString "__init__"), key := Value.str (Str.ofString "__init__") 215, val := Value.ref 35 }, { hash := PyData.keyHash P (Str.ofString "__static_attributes__"), key := Value.str (Str.ofString "__static_attributes__") 217, val := Value.ref 36 }] 5 }) ::
  (nat_lit 25, { cls := Value.type "tuple", data := Data.seq #[] }) ::
  (nat_lit 26, { cls := Value.none, data := Data.fields #[Value.int 7 0, Value.int 4 0, Value.ref 34] }) ::
  (nat_lit 27, { cls := Value.type "code", data := Data.fields #[Value.str (Str.ofString "PhpFault") 198, Value.str (Str.ofString "PhpFault") 199, Value.str (Str.ofString "/claim/cut.py") 200, Value.int 5 0, Value.int 0 0, Value.int 0 0, Value.int 0 0, Value.int 0 0, Value.ref 25, Value.bool false, Value.int 181 0, Value.ref 26, Value.none, Value.none, Value.none, Value.none, Value.int 201 0, Value.int 5 0, Value.str (Str.ofString "/claim/cut.py") 202] }) ::
  (nat_lit 28, { cls := Value.type "frame", slots := #[some (Value.ref 27), some (Value.ref 3), some (Value.ref 24), none, some (Value.str (Str.ofString "phpcore.faults") 194), none, some (Value.ref 0)] }) ::
  (nat_lit 30, { cls := Value.none, data := Data.fields #[] }) ::
  (nat_lit 33, { cls := Value.none, data := Data.func { fnOf (mth 2 0) (Str.ofString "PhpFault.__init__") (Value.none) (Value.none) (Value.none) (Value.none) with globals := 0 } }) ::
  (nat_lit 40, { cls := Value.type "super", data := Data.fields #[Value.ref 38, Value.ref 38, Value.ref 38] }) ::
  (nat_lit 41, { cls := Value.type "builtin_function_or_method", data := Data.fields #[Value.builtin "object.__init_subclass__", Value.ref 38] }) ::
  (nat_lit 43, { cls := Value.type "builtin_function_or_method", data := Data.fields #[Value.builtin "type.__prepare__", Value.type "type"] }) ::
  (nat_lit 44, { cls := Value.type "dict", data := Data.dict #[{ hash := PyData.keyHash P (Str.ofString "__module__"), key := Value.str (Str.ofString "__module__") 232, val := Value.str (Str.ofString "phpcore.faults") 194 }, { hash := PyData.keyHash P (Str.ofString "__qualname__"), key := Value.str (Str.ofString "__qualname__") 234, val := Value.str (Str.ofString "LeftOut") 233 }, { hash := PyData.keyHash P (Str.ofString "__firstlineno__"), key := Value.str (Str.ofString "__firstlineno__") 236, val := Value.int 10 235 }, { hash := PyData.keyHash P (Str.ofString "__static_attributes__"), key := Value.str (Str.ofString "__static_attributes__") 237, val := Value.ref 49 }] 4 }) ::
  (nat_lit 45, { cls := Value.type "tuple", data := Data.seq #[] }) ::
  (nat_lit 46, { cls := Value.none, data := Data.fields #[] }) ::
  (nat_lit 47, { cls := Value.type "code", data := Data.fields #[Value.str (Str.ofString "LeftOut") 227, Value.str (Str.ofString "LeftOut") 228, Value.str (Str.ofString "/claim/cut.py") 229, Value.int 10 0, Value.int 0 0, Value.int 0 0, Value.int 0 0, Value.int 0 0, Value.ref 45, Value.bool false, Value.int 181 0, Value.ref 46, Value.none, Value.none, Value.none, Value.none, Value.int 230 0, Value.int 10 0, Value.str (Str.ofString "/claim/cut.py") 231] }) ::
  (nat_lit 48, { cls := Value.type "frame", slots := #[some (Value.ref 47), some (Value.ref 3), some (Value.ref 44), none, some (Value.str (Str.ofString "phpcore.faults") 194), none, some (Value.ref 0)] }) ::
  (nat_lit 52, { cls := Value.type "super", data := Data.fields #[Value.ref 51, Value.ref 51, Value.ref 51] }) ::
  (nat_lit 53, { cls := Value.type "builtin_function_or_method", data := Data.fields #[Value.builtin "object.__init_subclass__", Value.ref 51] }) ::
  (nat_lit 55, { cls := Value.none, data := Data.fields #[] }) ::
  (nat_lit 58, { cls := Value.none, data := Data.func { fnOf (st 4) (Str.ofString "least") (Value.none) (Value.none) (Value.none) (Value.none) with globals := 0 } }) ::
  (nat_lit 62, { cls := Value.none, data := Data.fields #[] }) ::
  (nat_lit 65, { cls := Value.none, data := Data.func { fnOf (st 5) (Str.ofString "greatest") (Value.none) (Value.none) (Value.none) (Value.none) with globals := 0 } }) ::
  (nat_lit 69, { cls := Value.none, data := Data.fields #[] }) ::
  (nat_lit 72, { cls := Value.none, data := Data.func { fnOf (st 6) (Str.ofString "whole") (Value.none) (Value.none) (Value.none) (Value.none) with globals := 0 } }) ::
  (nat_lit 76, { cls := Value.none, data := Data.fields #[] }) ::
  (nat_lit 79, { cls := Value.none, data := Data.func { fnOf (st 8) (Str.ofString "raised_case") (Value.none) (Value.none) (Value.none) (Value.none) with globals := 0 } }) ::
  (nat_lit 83, { cls := Value.none, data := Data.fields #[] }) ::
  (nat_lit 86, { cls := Value.none, data := Data.func { fnOf (st 10) (Str.ofString "common_length") (Value.none) (Value.none) (Value.none) (Value.none) with globals := 0 } }) ::
  (nat_lit 90, { cls := Value.none, data := Data.fields #[] }) ::
  (nat_lit 93, { cls := Value.none, data := Data.func { fnOf (st 11) (Str.ofString "common_piece") (Value.none) (Value.none) (Value.none) (Value.none) with globals := 0 } }) ::
  (nat_lit 97, { cls := Value.none, data := Data.fields #[] }) ::
  (nat_lit 100, { cls := Value.none, data := Data.func { fnOf (st 12) (Str.ofString "similar") (Value.none) (Value.none) (Value.none) (Value.none) with globals := 0 } }) ::
  (nat_lit 104, { cls := Value.none, data := Data.fields #[] }) ::
  (nat_lit 107, { cls := Value.none, data := Data.func { fnOf (st 13) (Str.ofString "php_similar_text") (Value.none) (Value.none) (Value.none) (Value.none) with globals := 0 } }) ::
  (nat_lit 111, { cls := Value.none, data := Data.fields #[] }) ::
  (nat_lit 112, { cls := Value.none, data := Data.func { fnOf (st 14) (Str.ofString "distance") (Value.none) (Value.none) (Value.none) (Value.none) with globals := 0 } }) ::
  (nat_lit 116, { cls := Value.none, data := Data.fields #[] }) ::
  (nat_lit 119, { cls := Value.none, data := Data.func { fnOf (st 15) (Str.ofString "php_levenshtein") (Value.none) (Value.none) (Value.none) (Value.none) with globals := 0 } }) ::
  (nat_lit 123, { cls := Value.none, data := Data.fields #[] }) ::
  (nat_lit 126, { cls := Value.none, data := Data.func { fnOf (st 16) (Str.ofString "soundex_code") (Value.none) (Value.none) (Value.none) (Value.none) with globals := 0 } }) ::
  (nat_lit 130, { cls := Value.none, data := Data.fields #[] }) ::
  (nat_lit 133, { cls := Value.none, data := Data.func { fnOf (st 17) (Str.ofString "soundex_key") (Value.none) (Value.none) (Value.none) (Value.none) with globals := 0 } }) ::
  (nat_lit 137, { cls := Value.none, data := Data.fields #[] }) ::
  (nat_lit 140, { cls := Value.none, data := Data.func { fnOf (st 18) (Str.ofString "php_soundex") (Value.none) (Value.none) (Value.none) (Value.none) with globals := 0 } }) ::
  (nat_lit 143, { cls := Value.type "tuple", data := Data.seq #[] }) ::
  (nat_lit 144, { cls := Value.type "builtin_function_or_method", data := Data.fields #[Value.builtin "type.__prepare__", Value.type "type"] }) ::
  (nat_lit 145, { cls := Value.type "dict", data := Data.dict #[{ hash := PyData.keyHash P (Str.ofString "__module__"), key := Value.str (Str.ofString "__module__") 368, val := Value.str (Str.ofString "phpcore.frames") 359 }, { hash := PyData.keyHash P (Str.ofString "__qualname__"), key := Value.str (Str.ofString "__qualname__") 370, val := Value.str (Str.ofString "Frame") 369 }, { hash := PyData.keyHash P (Str.ofString "__firstlineno__"), key := Value.str (Str.ofString "__firstlineno__") 372, val := Value.int 87 371 }, { hash := PyData.keyHash P (Str.ofString "__init__"), key := Value.str (Str.ofString "__init__") 383, val := Value.ref 157 }, { hash := PyData.keyHash P (Str.ofString "__static_attributes__"), key := Value.str (Str.ofString "__static_attributes__") 390, val := Value.ref 158 }] 5 }) ::
  (nat_lit 146, { cls := Value.type "tuple", data := Data.seq #[] }) ::
  (nat_lit 147, { cls := Value.none, data := Data.fields #[Value.int 89 0, Value.int 4 0, Value.ref 156] }) ::
  (nat_lit 148, { cls := Value.type "code", data := Data.fields #[Value.str (Str.ofString "Frame") 363, Value.str (Str.ofString "Frame") 364, Value.str (Str.ofString "/claim/cut.py") 365, Value.int 87 0, Value.int 0 0, Value.int 0 0, Value.int 0 0, Value.int 0 0, Value.ref 146, Value.bool false, Value.int 181 0, Value.ref 147, Value.none, Value.none, Value.none, Value.none, Value.int 366 0, Value.int 87 0, Value.str (Str.ofString "/claim/cut.py") 367] }) ::
  (nat_lit 149, { cls := Value.type "frame", slots := #[some (Value.ref 148), some (Value.ref 3), some (Value.ref 145), none, some (Value.str (Str.ofString "phpcore.frames") 359), none, some (Value.ref 0)] }) ::
  (nat_lit 152, { cls := Value.none, data := Data.fields #[] }) ::
  (nat_lit 155, { cls := Value.none, data := Data.func { fnOf (mth 20 0) (Str.ofString "Frame.__init__") (Value.none) (Value.none) (Value.none) (Value.none) with globals := 0 } }) ::
  (nat_lit 163, { cls := Value.type "super", data := Data.fields #[Value.ref 160, Value.ref 160, Value.ref 160] }) ::
  (nat_lit 164, { cls := Value.type "builtin_function_or_method", data := Data.fields #[Value.builtin "object.__init_subclass__", Value.ref 160] }) ::
  (nat_lit 165, { cls := Value.type "tuple", data := Data.seq #[] }) ::
  (nat_lit 166, { cls := Value.type "builtin_function_or_method", data := Data.fields #[Value.builtin "type.__prepare__", Value.type "type"] }) ::
  (nat_lit 167, { cls := Value.type "dict", data := Data.dict #[{ hash := PyData.keyHash P (Str.ofString "__module__"), key := Value.str (Str.ofString "__module__") 407, val := Value.str (Str.ofString "phpcore.host") 398 }, { hash := PyData.keyHash P (Str.ofString "__qualname__"), key := Value.str (Str.ofString "__qualname__") 409, val := Value.str (Str.ofString "Host") 408 }, { hash := PyData.keyHash P (Str.ofString "__firstlineno__"), key := Value.str (Str.ofString "__firstlineno__") 411, val := Value.int 97 410 }, { hash := PyData.keyHash P (Str.ofString "__init__"), key := Value.str (Str.ofString "__init__") 421, val := Value.ref 179 }, { hash := PyData.keyHash P (Str.ofString "tool"), key := Value.str (Str.ofString "tool") 429, val := Value.ref 186 }, { hash := PyData.keyHash P (Str.ofString "warn"), key := Value.str (Str.ofString "warn") 438, val := Value.ref 193 }, { hash := PyData.keyHash P (Str.ofString "echo"), key := Value.str (Str.ofString "echo") 446, val := Value.ref 200 }, { hash := PyData.keyHash P (Str.ofString "spend"), key := Value.str (Str.ofString "spend") 453, val := Value.ref 207 }, { hash := PyData.keyHash P (Str.ofString "eval"), key := Value.str (Str.ofString "eval") 461, val := Value.ref 214 }, { hash := PyData.keyHash P (Str.ofString "exec"), key := Value.str (Str.ofString "exec") 469, val := Value.ref 221 }, { hash := PyData.keyHash P (Str.ofString "call"), key := Value.str (Str.ofString "call") 478, val := Value.ref 228 }, { hash := PyData.keyHash P (Str.ofString "method"), key := Value.str (Str.ofString "method") 488, val := Value.ref 235 }, { hash := PyData.keyHash P (Str.ofString "new_handle"), key := Value.str (Str.ofString "new_handle") 495, val := Value.ref 242 }, { hash := PyData.keyHash P (Str.ofString "enter"), key := Value.str (Str.ofString "enter") 502, val := Value.ref 249 }, { hash := PyData.keyHash P (Str.ofString "leave"), key := Value.str (Str.ofString "leave") 509, val := Value.ref 256 }, { hash := PyData.keyHash P (Str.ofString "__static_attributes__"), key := Value.str (Str.ofString "__static_attributes__") 530, val := Value.ref 257 }] 16 }) ::
  (nat_lit 168, { cls := Value.type "tuple", data := Data.seq #[] }) ::
  (nat_lit 169, { cls := Value.none, data := Data.fields #[Value.int 99 0, Value.int 4 0, Value.ref 178, Value.int 121 0, Value.int 4 0, Value.ref 185, Value.int 124 0, Value.int 4 0, Value.ref 192, Value.int 127 0, Value.int 4 0, Value.ref 199, Value.int 130 0, Value.int 4 0, Value.ref 206, Value.int 133 0, Value.int 4 0, Value.ref 213, Value.int 136 0, Value.int 4 0, Value.ref 220, Value.int 139 0, Value.int 4 0, Value.ref 227, Value.int 142 0, Value.int 4 0, Value.ref 234, Value.int 145 0, Value.int 4 0, Value.ref 241, Value.int 148 0, Value.int 4 0, Value.ref 248, Value.int 151 0, Value.int 4 0, Value.ref 255] }) ::
  (nat_lit 170, { cls := Value.type "code", data := Data.fields #[Value.str (Str.ofString "Host") 402, Value.str (Str.ofString "Host") 403, Value.str (Str.ofString "/claim/cut.py") 404, Value.int 97 0, Value.int 0 0, Value.int 0 0, Value.int 0 0, Value.int 0 0, Value.ref 168, Value.bool false, Value.int 181 0, Value.ref 169, Value.none, Value.none, Value.none, Value.none, Value.int 405 0, Value.int 97 0, Value.str (Str.ofString "/claim/cut.py") 406] }) ::
  (nat_lit 171, { cls := Value.type "frame", slots := #[some (Value.ref 170), some (Value.ref 3), some (Value.ref 167), none, some (Value.str (Str.ofString "phpcore.host") 398), none, some (Value.ref 0)] }) ::
  (nat_lit 174, { cls := Value.none, data := Data.fields #[] }) ::
  (nat_lit 177, { cls := Value.none, data := Data.func { fnOf (mth 22 0) (Str.ofString "Host.__init__") (Value.none) (Value.none) (Value.none) (Value.none) with globals := 0 } }) ::
  (nat_lit 181, { cls := Value.none, data := Data.fields #[] }) ::
  (nat_lit 184, { cls := Value.none, data := Data.func { fnOf (mth 22 1) (Str.ofString "Host.tool") (Value.none) (Value.none) (Value.none) (Value.none) with globals := 0 } }) ::
  (nat_lit 188, { cls := Value.none, data := Data.fields #[] }) ::
  (nat_lit 191, { cls := Value.none, data := Data.func { fnOf (mth 22 2) (Str.ofString "Host.warn") (Value.none) (Value.none) (Value.none) (Value.none) with globals := 0 } }) ::
  (nat_lit 195, { cls := Value.none, data := Data.fields #[] }) ::
  (nat_lit 198, { cls := Value.none, data := Data.func { fnOf (mth 22 3) (Str.ofString "Host.echo") (Value.none) (Value.none) (Value.none) (Value.none) with globals := 0 } }) ::
  (nat_lit 202, { cls := Value.none, data := Data.fields #[] }) ::
  (nat_lit 205, { cls := Value.none, data := Data.func { fnOf (mth 22 4) (Str.ofString "Host.spend") (Value.none) (Value.none) (Value.none) (Value.none) with globals := 0 } }) ::
  (nat_lit 209, { cls := Value.none, data := Data.fields #[] }) ::
  (nat_lit 212, { cls := Value.none, data := Data.func { fnOf (mth 22 5) (Str.ofString "Host.eval") (Value.none) (Value.none) (Value.none) (Value.none) with globals := 0 } }) ::
  (nat_lit 216, { cls := Value.none, data := Data.fields #[] }) ::
  (nat_lit 219, { cls := Value.none, data := Data.func { fnOf (mth 22 6) (Str.ofString "Host.exec") (Value.none) (Value.none) (Value.none) (Value.none) with globals := 0 } }) ::
  (nat_lit 223, { cls := Value.none, data := Data.fields #[] }) ::
  (nat_lit 226, { cls := Value.none, data := Data.func { fnOf (mth 22 7) (Str.ofString "Host.call") (Value.none) (Value.none) (Value.none) (Value.none) with globals := 0 } }) ::
  (nat_lit 230, { cls := Value.none, data := Data.fields #[] }) ::
  (nat_lit 233, { cls := Value.none, data := Data.func { fnOf (mth 22 8) (Str.ofString "Host.method") (Value.none) (Value.none) (Value.none) (Value.none) with globals := 0 } }) ::
  (nat_lit 237, { cls := Value.none, data := Data.fields #[] }) ::
  (nat_lit 240, { cls := Value.none, data := Data.func { fnOf (mth 22 9) (Str.ofString "Host.new_handle") (Value.none) (Value.none) (Value.none) (Value.none) with globals := 0 } }) ::
  (nat_lit 244, { cls := Value.none, data := Data.fields #[] }) ::
  (nat_lit 247, { cls := Value.none, data := Data.func { fnOf (mth 22 10) (Str.ofString "Host.enter") (Value.none) (Value.none) (Value.none) (Value.none) with globals := 0 } }) ::
  (nat_lit 251, { cls := Value.none, data := Data.fields #[] }) ::
  (nat_lit 254, { cls := Value.none, data := Data.func { fnOf (mth 22 11) (Str.ofString "Host.leave") (Value.none) (Value.none) (Value.none) (Value.none) with globals := 0 } }) ::
  (nat_lit 262, { cls := Value.type "super", data := Data.fields #[Value.ref 259, Value.ref 259, Value.ref 259] }) ::
  (nat_lit 263, { cls := Value.type "builtin_function_or_method", data := Data.fields #[Value.builtin "object.__init_subclass__", Value.ref 259] }) ::
  (nat_lit 265, { cls := Value.none, data := Data.fields #[] }) ::
  (nat_lit 268, { cls := Value.none, data := Data.func { fnOf (st 24) (Str.ofString "_law_pen") (Value.none) (Value.none) (Value.none) (Value.none) with globals := 0 } }) ::
  (nat_lit 272, { cls := Value.none, data := Data.fields #[] }) ::
  (nat_lit 275, { cls := Value.none, data := Data.func { fnOf (st 25) (Str.ofString "_law_take") (Value.none) (Value.none) (Value.none) (Value.none) with globals := 0 } }) ::
  (nat_lit 279, { cls := Value.none, data := Data.fields #[] }) ::
  (nat_lit 280, { cls := Value.none, data := Data.func { fnOf (st 26) (Str.ofString "_law_text") (Value.none) (Value.none) (Value.none) (Value.none) with globals := 0 } }) ::
  (nat_lit 284, { cls := Value.none, data := Data.fields #[] }) ::
  (nat_lit 287, { cls := Value.none, data := Data.func { fnOf (st 27) (Str.ofString "_law_best") (Value.none) (Value.none) (Value.none) (Value.none) with globals := 0 } }) ::
  (nat_lit 291, { cls := Value.none, data := Data.fields #[] }) ::
  (nat_lit 294, { cls := Value.none, data := Data.func { fnOf (st 28) (Str.ofString "_law_told") (Value.none) (Value.none) (Value.none) (Value.none) with globals := 0 } }) ::
  (nat_lit 298, { cls := Value.none, data := Data.fields #[] }) ::
  (nat_lit 301, { cls := Value.none, data := Data.func { fnOf (st 29) (Str.ofString "_law_is_least") (Value.none) (Value.none) (Value.none) (Value.none) with globals := 0 } }) ::
  (nat_lit 305, { cls := Value.none, data := Data.fields #[] }) ::
  (nat_lit 308, { cls := Value.none, data := Data.func { fnOf (st 30) (Str.ofString "_law_edited") (Value.none) (Value.none) (Value.none) (Value.none) with globals := 0 } }) ::
  (nat_lit 312, { cls := Value.none, data := Data.fields #[] }) ::
  (nat_lit 315, { cls := Value.none, data := Data.func { fnOf (st 31) (Str.ofString "_law_one") (Value.none) (Value.none) (Value.none) (Value.none) with globals := 0 } }) ::
  (nat_lit 319, { cls := Value.none, data := Data.fields #[] }) ::
  (nat_lit 322, { cls := Value.none, data := Data.func { fnOf (st 32) (Str.ofString "_law_is_metric") (Value.none) (Value.none) (Value.none) (Value.none) with globals := 0 } }) ::
  (nat_lit 326, { cls := Value.none, data := Data.fields #[] }) ::
  (nat_lit 329, { cls := Value.none, data := Data.func { fnOf (st 33) (Str.ofString "_law_piece") (Value.none) (Value.none) (Value.none) (Value.none) with globals := 0 } }) ::
  (nat_lit 333, { cls := Value.none, data := Data.fields #[] }) ::
  (nat_lit 336, { cls := Value.none, data := Data.func { fnOf (st 34) (Str.ofString "_law_shared") (Value.none) (Value.none) (Value.none) (Value.none) with globals := 0 } }) ::
  (nat_lit 340, { cls := Value.none, data := Data.fields #[] }) ::
  (nat_lit 343, { cls := Value.none, data := Data.func { fnOf (st 35) (Str.ofString "_law_is_similar") (Value.none) (Value.none) (Value.none) (Value.none) with globals := 0 } }) ::
  (nat_lit 347, { cls := Value.none, data := Data.fields #[] }) ::
  (nat_lit 348, { cls := Value.none, data := Data.func { fnOf (st 36) (Str.ofString "_law_code") (Value.none) (Value.none) (Value.none) (Value.none) with globals := 0 } }) ::
  (nat_lit 352, { cls := Value.none, data := Data.fields #[] }) ::
  (nat_lit 353, { cls := Value.none, data := Data.func { fnOf (st 37) (Str.ofString "_law_sound") (Value.none) (Value.none) (Value.none) (Value.none) with globals := 0 } }) ::
  (nat_lit 357, { cls := Value.none, data := Data.fields #[] }) ::
  (nat_lit 358, { cls := Value.none, data := Data.func { fnOf (st 38) (Str.ofString "law") (Value.none) (Value.none) (Value.none) (Value.none) with globals := 0 } }) :: []
noncomputable def mergeH : Nat → Frag → Frag → List Obj
  | 0, _, _ => []
  | _ + 1, [], [] => []
  | n + 1, (_, o) :: a, [] => o :: mergeH n a []
  | n + 1, [], (_, o) :: b => o :: mergeH n [] b
  | n + 1, (i, o) :: a, (j, p) :: b => match Nat.ble i j with
    | true => o :: mergeH n a ((j, p) :: b)
    | false => p :: mergeH n ((i, o) :: a) b
noncomputable def heapE (P : Params) : Heap := { objs := Array.mk (mergeH 361 (hd.heap_39 P) (restF P)), life := {} }
noncomputable abbrev rowP : Program := PySem.Challenge.rw_pc0254_01.row.prog
noncomputable abbrev endS (w : World) (os : OsState) : Shared := ⟨heapE w.params, Array.mk [], {}, 691, os⟩
noncomputable abbrev seenE (w : World) (os : OsState) := openSeen hd.view_39 [] (importedModules rowP.main.body) (fun s => xlAt hd.view_39 [] s && recOk (RowW.records (OpenRow.toRowW PySem.Challenge.rw_pc0254_01.row)) s) true (endS w os)
theorem top_runs (w : World) (os : OsState) : topRun treeTable rowP w 11 (some (.ref 6)) 2300 ⟨boot_heap w.params, Array.mk [], boot_drawn, boot_toks, os⟩ (topStub rowP) = some (endS w os) := by
  rw [PySem.W.Fast.te14082659384304107361, PySem.W.Fast.te14364793385576792824]
  kernel_rfl
theorem look_0 (w : World) (os : OsState) : (staticsOk (importedModules rowP.main.body) (boot_heap w.params) (heapE w.params) && namesBound rowP (heapE w.params) && gensDone (endS w os) && laidKept (boot_heap w.params) (heapE w.params)) = true := by kernel_rfl
theorem look_s (w : World) (os : OsState) : seenE w os = openGood hd.view_39 [] := by
  unfold seenE
  rw [PySem.W.Fast.te4187177175401517315]
  kernel_rfl
theorem look_y (w : World) (os : OsState) : Hook.obs HK (endS w os) = Hook.val HK w := by kernel_rfl
theorem left_top : LeftO rowP hd.view_39 [] (fun s => xlAt hd.view_39 [] s && recOk (RowW.records (OpenRow.toRowW PySem.Challenge.rw_pc0254_01.row)) s) (Hook.obs HK) (Hook.val HK) 4570 :=
  LeftO.of_pieces (H₀ := boot_heap) (H₁ := heapE) (gs₀ := Array.mk []) (gs₁ := Array.mk []) (d₀ := boot_drawn) (d₁ := {}) (k₀ := boot_toks) (k₁ := 691) (m₀ := 11) (ann := some (.ref 6)) (M := 2300)
    (boot_open (by kernel_rfl) (by rfl) (fun s => by kernel_rfl)) (fun w => by kernel_rfl) top_runs (by rfl)
    (fun w => funext fun os => looks_pair (look_0 w os) (looks_pair (look_s w os) (look_y w os)))
theorem law_said : PySem.Challenge.rw_pc0254_01.wellSaid = true := by
  rw [PySem.W.Fast.te9446332074065402090]
  kernel_rfl
end
section
theorem News.sub {g h : Heap} {L : Addr} {news news' : List (Addr × Obj)} (N : News g L h news) (hs : ∀ p ∈ news', p ∈ news) : News g L h news' := fun p hp => N p (hs p hp)
theorem room_a {n a m c : Nat} (h : n + m < c) (hk : Nat.ble a m = true) : n + a < c := Nat.lt_of_le_of_lt (Nat.add_le_add_left (Nat.le_of_ble_eq_true hk) n) h
theorem room_b {n a b m c : Nat} (h : n + m < c) (hk : Nat.ble (a + b) m = true) : n + a + b < c := by rw [Nat.add_assoc]; exact room_a h hk
structure Gd (w : World) (mean : ExcName → Option Value) (mg mb : Str → Option Value) (g : Heap) : Prop where
  k : (hd.heap_39 w.params).In g
  t : Top hd.view_39 (looseW hd.view_39 []) mean mg mb g
noncomputable def Con (w : World) (f : Addr) (d u : Nat) (old : List (Addr × Obj)) (vs : List Value) (R : Value → List (Addr × Obj) → Prop) : Prop :=
  ∀ (mean : ExcName → Option Value) (mg mb : Str → Option Value) (A : Around) (s : Shared) (Q : Value → Shared → Prop) (g : Heap),
    (∀ b o, g.get? b = some o → s.heap.get? b = some o) → g.objs.size ≤ s.heap.objs.size → Gd w mean mg mb g →
    (∀ p ∈ old, s.heap.get? p.1 = some p.2 ∧ g.get? p.1 = none) → A.handled = none → A.depth + d < recursionLimit → A.units + u < cLine →
    (∀ v new h' tk, (∀ b o, g.get? b = some o → h'.get? b = some o) → (∀ p ∈ new, h'.get? p.1 = some p.2 ∧ g.get? p.1 = none) → R v new → Q v { s with heap := h', toks := tk }) →
    wpAny (model PySem.Challenge.rw_pc0254_01.row.prog w) A (call (.ref f) vs) Q (fun _ _ => False) s
section
variable {w : World} {f : Addr} {d u : Nat} {old : List (Addr × Obj)} {vs : List Value} {R : Value → List (Addr × Obj) → Prop}
  {mean : ExcName → Option Value} {mg mb : Str → Option Value} {A : Around} {s : Shared} {Q E : Value → Shared → Prop} {h₀ : Heap} {L : Addr} {m : Str → Option Value} {news : List (Addr × Obj)}
theorem con_use (C : Con w f d u old vs R) (F : Fr h₀ L s.heap m) (N : News h₀ L s.heap news) (X : (hd.heap_39 w.params).In h₀) (T : Top hd.view_39 (looseW hd.view_39 []) mean mg mb h₀)
    (hold : ∀ p ∈ old, p ∈ news) (hA : A.handled = none) (hdp : A.depth + d < recursionLimit) (hun : A.units + u < cLine)
    (h : ∀ v new h' tk, Fr h₀ L h' m → (∀ p ∈ new, h'.get? p.1 = some p.2 ∧ p.1 ≠ L ∧ h₀.get? p.1 = none) → (∀ p ∈ news, p.1 ∉ old.map (·.1) → h'.get? p.1 = some p.2 ∧ p.1 ≠ L ∧ h₀.get? p.1 = none) → R v new → Q v { s with heap := h', toks := tk }) :
    wpAny (model PySem.Challenge.rw_pc0254_01.row.prog w) A (call (.ref f) vs) Q E s := by
  obtain ⟨oL, es, ep, hL, hLd, hLk, hLf⟩ := F.ns
  have nL : L ∉ old.map (·.1) := fun q => by
    obtain ⟨p, hp, e⟩ := List.mem_map.mp q
    exact (N p (hold p hp)).2.1 e
  have nm : ∀ b o, h₀.get? b = some o → b ∉ old.map (·.1) := fun b o e q => by
    obtain ⟨p, hp, rfl⟩ := List.mem_map.mp q
    rw [(N p (hold p hp)).2.2] at e; cases e
  have st : ∀ b o, h₀.get? b = some o → (hideAll s.heap (old.map (·.1))).get? b = some o := fun b o e => hideAll_get _ (F.keep b o e) (nm b o e)
  refine wpAny_noRaise (C mean mg mb A s Q (hideAll s.heap (old.map (·.1))) (fun b o e => of_hideAll _ e) (Nat.le_of_eq (hideAll_size _ _)) ⟨X.keeps st, T.keeps st⟩
    (fun p hp => ⟨(N p (hold p hp)).1, hideAll_none _ (List.mem_map_of_mem hp)⟩) hA hdp hun ?_)
  intro v new h' tk hk hn hR
  refine h v new h' tk ⟨⟨oL, es, ep, hk _ _ (hideAll_get _ hL nL), hLd, hLk, hLf⟩, fun b o e => hk _ _ (st b o e), F.above⟩ (fun p hp => ⟨(hn p hp).1, fun q => ?_, ?_⟩)
    (fun p hp hq => ⟨hk _ _ (hideAll_get _ (N p hp).1 hq), (N p hp).2⟩) hR
  · have h1 := (hn p hp).2
    rw [q, hideAll_get _ hL nL] at h1; cases h1
  · cases q : h₀.get? p.1 with
    | none => rfl
    | some o => have h1 := (hn p hp).2; rw [st _ _ q] at h1; cases h1
theorem con_use0 (C : Con w f d u [] vs R) (F : Fr h₀ L s.heap m) (N : News h₀ L s.heap news) (X : (hd.heap_39 w.params).In h₀) (T : Top hd.view_39 (looseW hd.view_39 []) mean mg mb h₀)
    (hA : A.handled = none) (hdp : A.depth + d < recursionLimit) (hun : A.units + u < cLine)
    (h : ∀ v new h' tk, Fr h₀ L h' m → News h₀ L h' (new ++ news) → R v new → Q v { s with heap := h', toks := tk }) :
    wpAny (model PySem.Challenge.rw_pc0254_01.row.prog w) A (call (.ref f) vs) Q E s :=
  con_use C F N X T (fun _ hp => nomatch hp) hA hdp hun fun v new h' tk F' N1 N2 hR => h v new h' tk F' (fun p hp => (List.mem_append.mp hp).elim (N1 p) fun hp => N2 p hp fun q => nomatch q) hR
theorem con_enter {name qual : Str} {params : Arguments} {body : List Stmt} {scope : Scope} {dV kV doc pm cdv ct oc : Value} {an od : Option Addr} {osl : Array (Option Value)} {binds : List (Str × Value)}
    (ho : (hd.heap_39 w.params).lookup f = some ⟨oc, od, .func (fnX name qual params body scope [] dV kV doc pm an cdv ct), osl⟩) (hcd : codeIn (hd.heap_39 w.params) cdv qual = true)
    (hbind : ∀ s, BindsTo s (fnX name qual params body scope [] dV kV doc pm an cdv ct) ⟨vs, []⟩ binds) (hloc : ∀ y ∈ binds, scope.names.lookup y.1 = some .local) (hd1 : 0 < d)
    (h : ∀ (mean : ExcName → Option Value) (mg mb : Str → Option Value) (dp : Nat) (fr : Option (List Env)) (gd : Option (List Code)) (un : Nat) (s : Shared) (Q : Value → Shared → Prop) (g : Heap) (L : Addr) (h₁ : Heap),
      Fr g L h₁ (fun y => binds.reverse.lookup y) → News g L h₁ old → (hd.heap_39 w.params).In g → Top hd.view_39 (looseW hd.view_39 []) mean mg mb g → dp + d < recursionLimit → un + u < cLine →
      (∀ v new h' tk m' news', Fr g L h' m' → News g L h' news' → (∀ p ∈ new, p ∈ news') → R v new → Q v { s with heap := h', toks := tk }) →
      wpAny (model PySem.Challenge.rw_pc0254_01.row.prog w) (Around.deeper ⟨none, dp, fr, gd, un⟩ (envX qual scope L f cdv [])) (execs body (envX qual scope L f cdv []))
        (fun fl s' => Q (match fl with | .ret v => v | _ => .none) s') (fun _ _ => False) { s with heap := h₁, toks := s.toks + binds.length })
    (hcell : ∀ x ∈ scope.names, x.2 ≠ .cell) (hco : scope.isCoroutine = false) (hgen : scope.isGenerator = false) (hk : scope.kind = .function) :
    Con w f d u old vs R := by
  intro mean mg mb A s Q g hg hsz G hold hA hdp hun hret
  obtain ⟨hd', dp, fr, gd, un⟩ := A
  dsimp only at hA hdp hun
  subst hA
  refine wpAny_call (codeAny_call_def (fd := fnX name qual params body scope [] dV kV doc pm an cdv ct) (body := body) (binds := binds) (by dsimp only; omega) (hg _ _ (G.k _ _ ho)) rfl (G.t.nolimit.keeps hg) (codeRec_of (G.k.keeps hg) hcd) rfl (hbind s) hcell hloc (fun h₁ hns hk₁ => ?_) hco hgen hk)
  refine wpAny_mono (h mean mg mb dp fr gd un s Q g s.heap.objs.size h₁ ⟨hns, fun b o e => hk₁ b o (hg b o e), hsz⟩ (fun p hp => ⟨hk₁ _ _ (hold p hp).1, Nat.ne_of_lt (Heap.lt_size (hold p hp).1), (hold p hp).2⟩) G.k G.t hdp hun ?_) (fun _ _ x => x) (fun _ _ x => x.elim)
  intro v new h' tk m' news' F N hn hR
  exact hret v new h' tk F.keep (fun p hp => ⟨(N p (hn p hp)).1, (N p (hn p hp)).2.2⟩) hR
end
end
section
noncomputable def Names (m : Str → Option Value) : List (Str × Value) → Prop
  | [] => True
  | p :: r => m p.1 = some p.2 ∧ Names m r
theorem Names.all {m : Str → Option Value} : ∀ {l : List (Str × Value)}, Names m l → ∀ p ∈ l, m p.1 = some p.2
  | _ :: _, h, _, .head _ => h.1
  | _ :: _, h, _, .tail _ hp => Names.all h.2 _ hp
theorem Names.kst {m : Str → Option Value} {l : List (Str × Value)} (h : Names m l) : kstB m l = m := funext fun _ => kstB_eq h.all fun _ => rfl
noncomputable def Solid (o : Obj) : Prop := ∀ vs, o.data ≠ .fields vs
noncomputable def AllSolid : List (Addr × Obj) → Prop
  | [] => True
  | p :: r => Solid p.2 ∧ AllSolid r
theorem AllSolid.all {l : List (Addr × Obj)} (h : AllSolid l) : ∀ p ∈ l, Solid p.2 := by
  induction l with
  | nil => intro p hp; cases hp
  | cons a r ih =>
    intro p hp
    rcases List.mem_cons.mp hp with e | hp
    · rw [e]; exact h.1
    · exact ih h.2 p hp
structure Src (prog : Program) (w : World) (A : Around) (I : Addr) (fp : List Addr) (n : Nat) (P : Nat → Value → Prop) (St : Nat → Heap → Prop) : Prop where
  W : Walks prog w A I fp [I] n P St
  it : ∀ i h, St i h → ∃ o vs, h.get? I = some o ∧ o.data = .fields vs
theorem sub_cons {α : Type} {a : α} {as l : List α} (h : a ∈ l) (r : ∀ p ∈ as, p ∈ l) : ∀ p ∈ a :: as, p ∈ l := fun p hp => (List.mem_cons.mp hp).elim (fun e => e ▸ h) (r p)
theorem sub_nil {α : Type} {l : List α} : ∀ p ∈ ([] : List α), p ∈ l := fun _ hp => nomatch hp
theorem sub_tl {α : Type} {a : α} {as l : List α} (r : ∀ p ∈ as, p ∈ l) : ∀ p ∈ as, p ∈ a :: l := fun p hp => List.mem_cons_of_mem _ (r p hp)
theorem sub_r {α : Type} {as l l' : List α} (r : ∀ p ∈ as, p ∈ l) : ∀ p ∈ as, p ∈ l' ++ l := fun p hp => List.mem_append_right _ (r p hp)
theorem sub_l {α : Type} {as l l' : List α} (r : ∀ p ∈ as, p ∈ l) : ∀ p ∈ as, p ∈ l ++ l' := fun p hp => List.mem_append_left _ (r p hp)
theorem sub_rfl {α : Type} {as : List α} : ∀ p ∈ as, p ∈ as := fun _ hp => hp
theorem sub_app {α : Type} {as bs l : List α} (h : ∀ p ∈ as, p ∈ l) (r : ∀ p ∈ bs, p ∈ l) : ∀ p ∈ as ++ bs, p ∈ l := fun p hp => (List.mem_append.mp hp).elim (h p) (r p)
section
variable {prog : Program} {w : World} {A : Around} {E : Value → Shared → Prop} {s : Shared} {env : Env} {h₀ : Heap} {L : Addr} {x : Str} {body : List Stmt} {Q : Flow → Shared → Prop}
noncomputable def ForEnd {σ : Type} (h₀ : Heap) (L : Addr) (s : Shared) (Led : σ → List (Addr × Obj)) (ps : σ → List (Str × Value)) (J : σ → Prop) (own : List (Addr × Obj)) (Q : Flow → Shared → Prop) (f : Flow) (s₂ : Shared) : Prop :=
  match f with
  | .ret v => Q (.ret v) s₂
  | .brk => Q .next s₂
  | _ => ∃ c' h' tk m' news', s₂ = { s with heap := h', toks := tk } ∧ Fr h₀ L h' m' ∧ News h₀ L h' news' ∧ (∀ p ∈ Led c', p ∈ news') ∧ (∀ p ∈ own, p ∈ news') ∧ Names m' (ps c') ∧ J c'
theorem ForEnd.intro {σ : Type} {Led : σ → List (Addr × Obj)} {ps : σ → List (Str × Value)} {J : σ → Prop} {own news' : List (Addr × Obj)} {h' : Heap} {tk : Nat} {m' : Str → Option Value} (c' : σ)
    (F : Fr h₀ L h' m') (N : News h₀ L h' news') (h1 : ∀ p ∈ Led c', p ∈ news') (h2 : ∀ p ∈ own, p ∈ news') (h3 : Names m' (ps c')) (h4 : J c') :
    ForEnd h₀ L s Led ps J own Q .next { s with heap := h', toks := tk } := ⟨c', h', tk, m', news', rfl, F, N, h1, h2, h3, h4⟩
theorem ForEnd.introC {σ : Type} {Led : σ → List (Addr × Obj)} {ps : σ → List (Str × Value)} {J : σ → Prop} {own news' : List (Addr × Obj)} {h' : Heap} {tk : Nat} {m' : Str → Option Value} (c' : σ)
    (F : Fr h₀ L h' m') (N : News h₀ L h' news') (h1 : ∀ p ∈ Led c', p ∈ news') (h2 : ∀ p ∈ own, p ∈ news') (h3 : Names m' (ps c')) (h4 : J c') :
    ForEnd h₀ L s Led ps J own Q .cont { s with heap := h', toks := tk } := ⟨c', h', tk, m', news', rfl, F, N, h1, h2, h3, h4⟩
theorem m_for {σ : Type} {I : Addr} {fp : List Addr} {n : Nat} {PV : Nat → Value → Prop} {St : Nat → Heap → Prop} {m₀ : Str → Option Value} {news : List (Addr × Obj)}
    (Led : σ → List (Addr × Obj)) (ps : σ → List (Str × Value)) (J : Nat → σ → Prop) (keep : List (Addr × Obj))
    (S : Src prog w A I fp n PV St) (hst : St 0 s.heap) (F : Fr h₀ env.locals s.heap m₀) (N : News h₀ env.locals s.heap news)
    (hI : h₀.get? I = none) (hL : env.locals ∉ fp) (hkI : ∀ p ∈ keep, p.1 ≠ I) (hkn : ∀ p ∈ keep, p ∈ news)
    (hfp : ∀ b ∈ fp, b = I ∨ (∃ o, h₀.get? b = some o) ∨ (∃ o, (b, o) ∈ keep))
    (start : ∃ c₀, (∀ p ∈ Led c₀, p ∈ news) ∧ Names m₀ (ps c₀) ∧ J 0 c₀)
    (solid : ∀ i c, J i c → AllSolid (Led c))
    (turn : ∀ i v c u h tk own, i < n → PV i v → J i c → (∀ q ∈ own, q ∈ keep ∨ ∀ p ∈ Led c, q.1 ≠ p.1) → (∀ q ∈ keep, q ∈ own) →
      Fr h₀ env.locals h (fun y => if y = x then some v else kstB u (ps c) y) → News h₀ env.locals h (Led c ++ own) →
      wpAny (model prog w) A (execs body env) (ForEnd h₀ env.locals { s with heap := h, toks := tk } Led ps (J (i + 1)) own Q) E { s with heap := h, toks := tk })
    (done : ∀ c u h tk, J n c → Fr h₀ env.locals h (kstB u (ps c)) → News h₀ env.locals h (Led c ++ keep) → Q .next { s with heap := h, toks := tk }) :
    LoopAtV prog w A h₀ env x body Q E (.ref I) s := by
  obtain ⟨c₀, hc1, hc2, hc3⟩ := start
  obtain ⟨o₀, vs₀, hI0, hI1⟩ := S.it _ _ hst
  have off : ∀ (h : Heap) (l : List (Addr × Obj)) i, St i h → (∀ p ∈ l, h.get? p.1 = some p.2) → (∀ p ∈ l, Solid p.2) → ∀ p ∈ l, p.1 ≠ I := by
    intro h l i st hl hs p hp e
    obtain ⟨o, vs, ho, hd⟩ := S.it _ _ st
    have := hl p hp
    rw [e, ho] at this
    exact hs p hp vs ((Option.some.inj this) ▸ hd)
  have N₀ : News h₀ env.locals s.heap (Led c₀ ++ keep) := fun p hp => N p ((List.mem_append.mp hp).elim (hc1 p) (hkn p))
  refine ⟨I, fp, [I], n, PV, St, m₀, Led c₀ ++ keep, (fun i m nx => ∃ c, nx = Led c ++ keep ∧ Names m (ps c) ∧ J i c), rfl, S.W, hL, ?_, ?_, hst, F, N₀, ⟨c₀, rfl, hc2, hc3⟩, ?_, ?_⟩
  · intro b hb
    rw [List.mem_singleton.mp hb]; exact hI
  · intro p hp hq
    rcases List.mem_append.mp hp with hp | hp
    · exact off _ _ 0 hst (fun p hp => (N₀ p (List.mem_append_left _ hp)).1) (solid _ _ hc3).all p hp (List.mem_singleton.mp hq)
    · exact hkI p hp (List.mem_singleton.mp hq)
  · rintro i v m₁ news₁ s₁ own ⟨hh', tk', rfl⟩ hin hP ⟨c, rfl, hn, hJ⟩ hoff hown hget hall hst₁ F₁ N₁
    let own' := (own.filter fun p => decide (p.1 = I)) ++ keep
    have hsep : ∀ q ∈ own', q ∈ keep ∨ ∀ p ∈ Led c, q.1 ≠ p.1 := by
      intro q hq
      rcases List.mem_append.mp hq with hq | hq
      · refine .inr fun p hp e => ?_
        have h1 : q.1 = I := by simpa using (List.mem_filter.mp hq).2
        exact hoff p (List.mem_append_left _ hp) (by rw [← e, h1]; exact List.mem_singleton.mpr rfl)
      · exact .inl hq
    have N₂ : News h₀ env.locals hh' (Led c ++ own') := fun p hp => by
      rcases List.mem_append.mp hp with h | h
      · exact N₁ p (List.mem_append_right _ (List.mem_append_left _ h))
      · rcases List.mem_append.mp h with h | h
        · exact N₁ p (List.mem_append_left _ (List.mem_filter.mp h).1)
        · exact N₁ p (List.mem_append_right _ (List.mem_append_right _ h))
    have F₂ : Fr h₀ env.locals hh' (fun y => if y = x then some v else kstB m₁ (ps c) y) := by rw [hn.kst]; exact F₁
    refine wpAny_mono (turn i v c m₁ hh' tk' own' hin hP hJ hsep (fun q hq => List.mem_append_right _ hq) F₂ N₂) (fun f s₂ p => ?_) fun _ _ e => e
    have fin : (∃ c' h' tk m' news', s₂ = { ({ s with heap := hh', toks := tk' } : Shared) with heap := h', toks := tk } ∧ Fr h₀ env.locals h' m' ∧ News h₀ env.locals h' news' ∧ (∀ p ∈ Led c', p ∈ news') ∧ (∀ p ∈ own', p ∈ news') ∧ Names m' (ps c') ∧ J (i + 1) c') →
        LoopStepU h₀ env.locals [I] own (fun m nx => ∃ c, nx = Led c ++ keep ∧ Names m (ps c) ∧ J (i + 1) c) { s with heap := hh', toks := tk' } .next s₂ := by
      rintro ⟨c', h', tk, m', news', e, F', N', h1, h2, h3, h4⟩
      obtain ⟨oI, vI, hoI, hdI⟩ := S.it _ _ hst₁
      have hIown : (I, oI) ∈ own := by
        refine hall I ?_ hI oI hoI
        exact S.W.sub I (List.mem_singleton.mpr rfl)
      have hI' : h'.get? I = some oI := (N' _ (h2 _ (List.mem_append_left _ (List.mem_filter.mpr ⟨hIown, by simp⟩)))).1
      refine ⟨rfl, h', tk, m', Led c' ++ keep, e, F', fun p hp => ?_, fun p hp hq => ?_, c', rfl, h3, h4⟩
      · rcases List.mem_append.mp hp with hp | hp
        · by_cases hpI : p.1 = I
          · exact N' p (h2 p (List.mem_append_left _ (List.mem_filter.mpr ⟨hp, by simpa using hpI⟩)))
          · rcases hfp p.1 (hown p hp) with q | ⟨o, q⟩ | ⟨o, q⟩
            · exact absurd q hpI
            · have := (N₁ p (List.mem_append_left _ hp)).2.2
              rw [q] at this; cases this
            · have e1 := (N₁ _ (List.mem_append_right _ (List.mem_append_right _ q))).1
              have e2 := hget p hp
              dsimp only at e1 e2
              rw [e1] at e2
              have e3 : p = (p.1, o) := Prod.ext rfl (Option.some.inj e2).symm
              rw [e3]
              exact N' _ (h2 _ (List.mem_append_right _ q))
        · exact (List.mem_append.mp hp).elim (fun hp => N' p (h1 p hp)) fun hp => N' p (h2 p (List.mem_append_right _ hp))
      · rcases List.mem_append.mp hp with hp | hp
        · have e1 := (N' p (h1 p hp)).1
          rw [List.mem_singleton.mp hq, hI'] at e1
          exact (solid _ _ h4).all p hp vI ((Option.some.inj e1) ▸ hdI)
        · exact hkI p hp (List.mem_singleton.mp hq)
    cases f with
    | ret v => exact .ret p
    | brk => exact .brk p
    | next => exact .next (fin p)
    | cont => exact .cont (fin p)
  · rintro h' tk m' news' F' N' _ ⟨c, rfl, hn, hJ⟩
    exact done c m' h' tk hJ (by rw [hn.kst]; exact F') N'
theorem fresh_of {m₀ : Str → Option Value} (F : Fr h₀ L s.heap m₀) : h₀.get? s.heap.objs.size = none := by
  cases q : h₀.get? s.heap.objs.size with
  | none => rfl
  | some o => exact absurd (Heap.lt_size (F.keep _ _ q)) (Nat.lt_irrefl _)
theorem keep_off {news keep : List (Addr × Obj)} (N : News h₀ L s.heap news) (hk : ∀ p ∈ keep, p ∈ news) : ∀ p ∈ keep, p.1 ≠ s.heap.objs.size := fun p hp => Nat.ne_of_lt (Heap.lt_size (N p (hk p hp)).1)
theorem m_for_range {σ : Type} {r : Addr} {a₀ b₀ c₁ : Int} {t₀ u₀ v₀ : Tok} {n : Nat} {m₀ : Str → Option Value} {news : List (Addr × Obj)}
    (Led : σ → List (Addr × Obj)) (ps : σ → List (Str × Value)) (J : Nat → σ → Prop) (keep : List (Addr × Obj))
    (hh : A.handled = none) (hr : IsRange s.heap r a₀ b₀ c₁ t₀ u₀ v₀) (hsmall : Builtin.Range.small a₀ b₀ c₁ = true) (hn : Builtin.Range.rangeSize a₀ b₀ c₁ = (n : Int))
    (F : Fr h₀ env.locals s.heap m₀) (N : News h₀ env.locals s.heap news) (hkn : ∀ p ∈ keep, p ∈ news)
    (start : ∃ c₀, (∀ p ∈ Led c₀, p ∈ news) ∧ Names m₀ (ps c₀) ∧ J 0 c₀)
    (solid : ∀ i c, J i c → AllSolid (Led c))
    (turn : ∀ i t c u h tk own, i < n → J i c → (∀ q ∈ own, q ∈ keep ∨ ∀ p ∈ Led c, q.1 ≠ p.1) → (∀ q ∈ keep, q ∈ own) →
      Fr h₀ env.locals h (fun y => if y = x then some (.int (a₀ + (i : Int) * c₁) t) else kstB u (ps c) y) → News h₀ env.locals h (Led c ++ own) →
      wpAny (model prog w) A (execs body env) (ForEnd h₀ env.locals { s with heap := h, toks := tk } Led ps (J (i + 1)) own Q) E { s with heap := h, toks := tk })
    (done : ∀ c u h tk, J n c → Fr h₀ env.locals h (kstB u (ps c)) → News h₀ env.locals h (Led c ++ keep) → Q .next { s with heap := h, toks := tk }) :
    wpAny (model prog w) A (pyIter (.ref r)) (fun it s₂ => LoopAtV prog w A h₀ env x body Q E it s₂) E s := by
  refine wpAny_pyIter_range hr hsmall ?_
  have W : Walks prog w A s.heap.objs.size [s.heap.objs.size] [s.heap.objs.size] n (fun i v => i < n ∧ ∃ t, v = .int (a₀ + i * c₁) t)
      (fun i h => IsRangeIter h s.heap.objs.size (a₀ + (i : Nat) * c₁) ((n : Int) - (i : Nat)) c₁) := (Walks.range hh _ a₀ c₁ n).bound
  refine m_for Led ps J keep ⟨W, fun i h st => ⟨_, _, st, rfl⟩⟩ (by show IsRangeIter _ _ _ _ _; rw [hn]; simpa using Heap.get?_push_size _ rfl) (F.push _) (fun p hp => ⟨Heap.get?_push_of_some _ (N p hp).1, (N p hp).2⟩) (fresh_of F) ?_ (keep_off N hkn) hkn ?_ start solid ?_ done
  · intro hm
    exact absurd F.ns.lt ((List.mem_singleton.mp hm) ▸ Nat.lt_irrefl _)
  · intro b hb; exact .inl (List.mem_singleton.mp hb)
  · rintro i v c u h tk own hin ⟨_, t, rfl⟩ hJ hs hk F' N'
    exact turn i t c u h tk own hin hJ hs hk F' N'
theorem m_range0 {σ : Type} {r : Addr} {b₀ : Int} {t₀ u₀ v₀ : Tok} {m₀ : Str → Option Value} {news : List (Addr × Obj)}
    (Led : σ → List (Addr × Obj)) (ps : σ → List (Str × Value)) (J : Nat → σ → Prop) (keep : List (Addr × Obj)) (n : Nat)
    (hh : A.handled = none) (hr : IsRange s.heap r 0 b₀ 1 t₀ u₀ v₀) (hb : b₀ < 2 ^ 62) (hb' : -(2 ^ 62) ≤ b₀) (hn : n = b₀.toNat)
    (F : Fr h₀ env.locals s.heap m₀) (N : News h₀ env.locals s.heap news) (hkn : ∀ p ∈ keep, p ∈ news)
    (start : ∃ c₀, (∀ p ∈ Led c₀, p ∈ news) ∧ Names m₀ (ps c₀) ∧ J 0 c₀)
    (solid : ∀ i c, J i c → AllSolid (Led c))
    (turn : ∀ i t c u h tk own, i < n → J i c → (∀ q ∈ own, q ∈ keep ∨ ∀ p ∈ Led c, q.1 ≠ p.1) → (∀ q ∈ keep, q ∈ own) →
      Fr h₀ env.locals h (fun y => if y = x then some (.int (i : Int) t) else kstB u (ps c) y) → News h₀ env.locals h (Led c ++ own) →
      wpAny (model prog w) A (execs body env) (ForEnd h₀ env.locals { s with heap := h, toks := tk } Led ps (J (i + 1)) own Q) E { s with heap := h, toks := tk })
    (done : ∀ c u h tk, J n c → Fr h₀ env.locals h (kstB u (ps c)) → News h₀ env.locals h (Led c ++ keep) → Q .next { s with heap := h, toks := tk }) :
    wpAny (model prog w) A (pyIter (.ref r)) (fun it s₂ => LoopAtV prog w A h₀ env x body Q E it s₂) E s := by
  refine m_for_range (n := n) Led ps J keep hh hr (small_one (by decide) (by decide) hb' hb) (by rw [rangeSize_nat, hn]; congr 1; omega) F N hkn start solid ?_ done
  intro i t c u h tk own hin hJ hs hk F' N'
  have e : (0 : Int) + (i : Int) * 1 = (i : Int) := by omega
  rw [e] at F'
  exact turn i t c u h tk own hin hJ hs hk F' N'
theorem m_range_down {σ : Type} {r : Addr} {a₀ b₀ : Int} {t₀ u₀ v₀ : Tok} {m₀ : Str → Option Value} {news : List (Addr × Obj)}
    (Led : σ → List (Addr × Obj)) (ps : σ → List (Str × Value)) (J : Nat → σ → Prop) (keep : List (Addr × Obj)) (n : Nat)
    (hh : A.handled = none) (hr : IsRange s.heap r a₀ b₀ (-1) t₀ u₀ v₀) (ha : a₀ < 2 ^ 62) (ha' : -(2 ^ 62) ≤ a₀) (hb : b₀ < 2 ^ 62) (hb' : -(2 ^ 62) ≤ b₀) (hn : n = (a₀ - b₀).toNat)
    (F : Fr h₀ env.locals s.heap m₀) (N : News h₀ env.locals s.heap news) (hkn : ∀ p ∈ keep, p ∈ news)
    (start : ∃ c₀, (∀ p ∈ Led c₀, p ∈ news) ∧ Names m₀ (ps c₀) ∧ J 0 c₀)
    (solid : ∀ i c, J i c → AllSolid (Led c))
    (turn : ∀ i t c u h tk own, i < n → J i c → (∀ q ∈ own, q ∈ keep ∨ ∀ p ∈ Led c, q.1 ≠ p.1) → (∀ q ∈ keep, q ∈ own) →
      Fr h₀ env.locals h (fun y => if y = x then some (.int (a₀ - (i : Int)) t) else kstB u (ps c) y) → News h₀ env.locals h (Led c ++ own) →
      wpAny (model prog w) A (execs body env) (ForEnd h₀ env.locals { s with heap := h, toks := tk } Led ps (J (i + 1)) own Q) E { s with heap := h, toks := tk })
    (done : ∀ c u h tk, J n c → Fr h₀ env.locals h (kstB u (ps c)) → News h₀ env.locals h (Led c ++ keep) → Q .next { s with heap := h, toks := tk }) :
    wpAny (model prog w) A (pyIter (.ref r)) (fun it s₂ => LoopAtV prog w A h₀ env x body Q E it s₂) E s := by
  have hsz : Builtin.Range.rangeSize a₀ b₀ (-1) = if a₀ > b₀ then a₀ - b₀ else 0 := by
    unfold Builtin.Range.rangeSize
    simp only [show ¬ (-1 : Int) > 0 by decide, if_false, show -(-1 : Int) = 1 by decide, Int.ediv_one]
    split <;> omega
  have hsm : Builtin.Range.small a₀ b₀ (-1) = true := by
    unfold Builtin.Range.small
    rw [hsz]
    simp only [Builtin.Range.rangeFitsLong, Bool.and_eq_true, Bool.or_eq_true, decide_eq_true_eq, beq_iff_eq, show ¬ (-1 : Int) > 0 by decide, if_false]
    split <;> omega
  refine m_for_range (n := n) Led ps J keep hh hr hsm (by rw [hsz, hn]; split <;> omega) F N hkn start solid ?_ done
  intro i t c u h tk own hin hJ hs hk F' N'
  have e : a₀ + (i : Int) * (-1) = a₀ - (i : Int) := by omega
  rw [e] at F'
  exact turn i t c u h tk own hin hJ hs hk F' N'
theorem m_for_str {σ : Type} {xt : Str} {tx : Tok} {m₀ : Str → Option Value} {news : List (Addr × Obj)}
    (Led : σ → List (Addr × Obj)) (ps : σ → List (Str × Value)) (J : Nat → σ → Prop) (keep : List (Addr × Obj))
    (hh : A.handled = none) (F : Fr h₀ env.locals s.heap m₀) (N : News h₀ env.locals s.heap news) (hkn : ∀ p ∈ keep, p ∈ news)
    (start : ∃ c₀, (∀ p ∈ Led c₀, p ∈ news) ∧ Names m₀ (ps c₀) ∧ J 0 c₀)
    (solid : ∀ i c, J i c → AllSolid (Led c))
    (turn : ∀ i n t c u h tk own, xt.cps[i]? = some n → J i c → (∀ q ∈ own, q ∈ keep ∨ ∀ p ∈ Led c, q.1 ≠ p.1) → (∀ q ∈ keep, q ∈ own) →
      Fr h₀ env.locals h (fun y => if y = x then some (.str ⟨#[n]⟩ t) else kstB u (ps c) y) → News h₀ env.locals h (Led c ++ own) →
      wpAny (model prog w) A (execs body env) (ForEnd h₀ env.locals { s with heap := h, toks := tk } Led ps (J (i + 1)) own Q) E { s with heap := h, toks := tk })
    (done : ∀ c u h tk, J xt.cps.size c → Fr h₀ env.locals h (kstB u (ps c)) → News h₀ env.locals h (Led c ++ keep) → Q .next { s with heap := h, toks := tk }) :
    wpAny (model prog w) A (pyIter (.str xt tx)) (fun it s₂ => LoopAtV prog w A h₀ env x body Q E it s₂) E s := by
  have main : ∀ (o : Obj) (St : Nat → Heap → Prop), Src prog w A s.heap.objs.size [s.heap.objs.size] xt.cps.size (SignAt xt) St → St 0 (s.heap.push o) →
      LoopAtV prog w A h₀ env x body Q E (.ref s.heap.objs.size) { s with heap := s.heap.push o } := by
    intro o St S hst
    refine m_for Led ps J keep S hst (F.push _) (fun p hp => ⟨Heap.get?_push_of_some _ (N p hp).1, (N p hp).2⟩) (fresh_of F) ?_ (keep_off N hkn) hkn ?_ start solid ?_ done
    · intro hm
      exact absurd F.ns.lt ((List.mem_singleton.mp hm) ▸ Nat.lt_irrefl _)
    · intro b hb; exact .inl (List.mem_singleton.mp hb)
    · rintro i v c u h tk own hin ⟨n, t, hn, rfl⟩ hJ hs hk F' N'
      exact turn i n t c u h tk own hn hJ hs hk F' N'
  cases ha : xt.cps.all (· < 128)
  · refine wpAny_pyIter_wide ha (main _ _ ⟨Walks.strWide hh _ xt tx, fun i h st => ?_⟩ ⟨_, Heap.get?_push_size _ rfl, rfl, rfl⟩)
    obtain ⟨o, h1, _, h2⟩ := st
    exact ⟨o, _, h1, h2⟩
  · refine wpAny_pyIter_ascii ha (main _ _ ⟨Walks.strAscii hh _ xt tx, fun i h st => ?_⟩ ⟨_, Heap.get?_push_size _ rfl, rfl, rfl⟩)
    obtain ⟨o, h1, _, h2⟩ := st
    exact ⟨o, _, h1, h2⟩
theorem m_for_list {σ : Type} {l : Addr} {items : Array Value} {nn : Nat} {m₀ : Str → Option Value} {news : List (Addr × Obj)}
    (Led : σ → List (Addr × Obj)) (ps : σ → List (Str × Value)) (J : Nat → σ → Prop) (keep : List (Addr × Obj))
    (hh : A.handled = none) (F : Fr h₀ env.locals s.heap m₀) (N : News h₀ env.locals s.heap news) (hkn : ∀ p ∈ keep, p ∈ news) (hl : (l, listOf items nn) ∈ keep)
    (start : ∃ c₀, (∀ p ∈ Led c₀, p ∈ news) ∧ Names m₀ (ps c₀) ∧ J 0 c₀)
    (solid : ∀ i c, J i c → AllSolid (Led c))
    (turn : ∀ i v c u h tk own, items[i]? = some v → J i c → (∀ q ∈ own, q ∈ keep ∨ ∀ p ∈ Led c, q.1 ≠ p.1) → (∀ q ∈ keep, q ∈ own) →
      Fr h₀ env.locals h (fun y => if y = x then some v else kstB u (ps c) y) → News h₀ env.locals h (Led c ++ own) →
      wpAny (model prog w) A (execs body env) (ForEnd h₀ env.locals { s with heap := h, toks := tk } Led ps (J (i + 1)) own Q) E { s with heap := h, toks := tk })
    (done : ∀ c u h tk, J items.size c → Fr h₀ env.locals h (kstB u (ps c)) → News h₀ env.locals h (Led c ++ keep) → Q .next { s with heap := h, toks := tk }) :
    wpAny (model prog w) A (pyIter (.ref l)) (fun it s₂ => LoopAtV prog w A h₀ env x body Q E it s₂) E s := by
  have hol : s.heap.get? l = some (listOf items nn) := (N _ (hkn _ hl)).1
  have hls : s.heap.IsList l items := ⟨_, hol, rfl, nn, rfl⟩
  have hne : l ≠ s.heap.objs.size := Nat.ne_of_lt (Heap.lt_size hol)
  refine wpAny_pyIter_list hls ?_
  refine m_for Led ps J keep ⟨Walks.list hh s.heap.objs.size l hne items, fun i h st => ?_⟩ ⟨⟨_, Heap.get?_push_size _ rfl, rfl, rfl⟩, hls.at fun o e => Heap.get?_push_of_some _ e⟩ (F.push _) (fun p hp => ⟨Heap.get?_push_of_some _ (N p hp).1, (N p hp).2⟩) (fresh_of F) ?_ (keep_off N hkn) hkn ?_ start solid ?_ done
  · obtain ⟨⟨o, h1, _, h2⟩, _⟩ := st
    exact ⟨o, _, h1, h2⟩
  · intro hm
    rcases List.mem_cons.mp hm with hm | hm
    · exact absurd F.ns.lt (hm ▸ Nat.lt_irrefl _)
    · exact (N _ (hkn _ hl)).2.1 (List.mem_singleton.mp hm).symm
  · intro b hb
    rcases List.mem_cons.mp hb with hb | hb
    · exact .inl hb
    · rw [List.mem_singleton.mp hb]; exact .inr (.inr ⟨_, hl⟩)
  · rintro i v c u h tk own _ hP hJ hs hk F' N'
    exact turn i v c u h tk own hP hJ hs hk F' N'
noncomputable def WhEnd {σ : Type} (h₀ : Heap) (L : Addr) (s : Shared) (Led : σ → List (Addr × Obj)) (ps : σ → List (Str × Value)) (J : σ → Prop) (μ : σ → Nat) (c : σ) (Q : Flow → Shared → Prop) (f : Flow) (s₂ : Shared) : Prop :=
  match f with
  | .ret v => Q (.ret v) s₂
  | .brk => Q .next s₂
  | _ => ∃ c' h' tk m' news', s₂ = { s with heap := h', toks := tk } ∧ Fr h₀ L h' m' ∧ News h₀ L h' news' ∧ (∀ p ∈ Led c', p ∈ news') ∧ Names m' (ps c') ∧ J c' ∧ μ c' < μ c
theorem WhEnd.intro {σ : Type} {Led : σ → List (Addr × Obj)} {ps : σ → List (Str × Value)} {J : σ → Prop} {μ : σ → Nat} {c : σ} {news' : List (Addr × Obj)} {h' : Heap} {tk : Nat} {m' : Str → Option Value} (c' : σ)
    (F : Fr h₀ L h' m') (N : News h₀ L h' news') (h1 : ∀ p ∈ Led c', p ∈ news') (h3 : Names m' (ps c')) (h4 : J c') (h5 : μ c' < μ c) :
    WhEnd h₀ L s Led ps J μ c Q .next { s with heap := h', toks := tk } := ⟨c', h', tk, m', news', rfl, F, N, h1, h3, h4, h5⟩
theorem m_while {σ : Type} {test : Expr} {pos : Pos} {m₀ : Str → Option Value} {news : List (Addr × Obj)} (Led : σ → List (Addr × Obj)) (ps : σ → List (Str × Value)) (J : σ → Prop) (μ : σ → Nat)
    (F : Fr h₀ L s.heap m₀) (N : News h₀ L s.heap news) (start : ∃ c₀, (∀ p ∈ Led c₀, p ∈ news) ∧ Names m₀ (ps c₀) ∧ J c₀)
    (turn : ∀ c u h tk, J c → Fr h₀ L h (kstB u (ps c)) → News h₀ L h (Led c) →
      wpAny (model prog w) A (isTrue test env (eval test env)) (fun b s₂ =>
        if b = true then wpAny (model prog w) A (execs body env) (WhEnd h₀ L s Led ps J μ c Q) E s₂ else Q .next s₂) E { s with heap := h, toks := tk })
    (hE : PassesOwn (model prog w) A env E := by passes_own) :
    wpAny (model prog w) A (exec (.While test body [] pos) env) Q E s := by
  obtain ⟨c₀, hc1, hc2, hc3⟩ := start
  refine While_inv2 (fun n m nx => ∃ c : σ, nx = Led c ∧ μ c = n ∧ Names m (ps c) ∧ J c) F (fun p hp => N p (hc1 p hp)) ⟨c₀, rfl, rfl, hc2, hc3⟩ ?_ hE
  rintro n m₁ nx h tk F₁ N₁ ⟨c, rfl, rfl, hn, hJ⟩
  refine wpAny_mono (turn c m₁ h tk hJ (by rw [hn.kst]; exact F₁) N₁) (fun b s₂ p => ?_) fun _ _ x => x
  cases b with
  | false => simpa using p
  | true =>
    simp only [if_true] at p ⊢
    refine wpAny_mono p (fun f s₃ q => ?_) fun _ _ x => x
    have fin : (∃ c' h' tk m' news', s₃ = { s with heap := h', toks := tk } ∧ Fr h₀ L h' m' ∧ News h₀ L h' news' ∧ (∀ p ∈ Led c', p ∈ news') ∧ Names m' (ps c') ∧ J c' ∧ μ c' < μ c) →
        ∃ h' tk m₂ news₂ n', s₃ = { s with heap := h', toks := tk } ∧ Fr h₀ L h' m₂ ∧ News h₀ L h' news₂ ∧ n' < μ c ∧ (∃ c : σ, news₂ = Led c ∧ μ c = n' ∧ Names m₂ (ps c) ∧ J c) := by
      rintro ⟨c', h', tk, m', news', e, F', N', h1, h3, h4, h5⟩
      exact ⟨h', tk, m', Led c', μ c', e, F', fun p hp => N' p (h1 p hp), h5, c', rfl, rfl, h3, h4⟩
    cases f with
    | ret v => exact q
    | brk => exact q
    | next => exact fin q
    | cont => exact fin q
end
section
variable {w : World} {f : Addr} {d u : Nat} {vs : List Value}
  {mean : ExcName → Option Value} {mg mb : Str → Option Value} {A : Around} {s : Shared} {Q E : Value → Shared → Prop} {h₀ : Heap} {L : Addr} {m : Str → Option Value} {news : List (Addr × Obj)}
noncomputable abbrev ConI (w : World) (f : Addr) (d u : Nat) (vs : List Value) (x : Int) : Prop := Con w f d u [] vs (fun v new => ∃ t, v = .int x t ∧ new = [])
theorem con_useI {x : Int} (C : ConI w f d u vs x) (F : Fr h₀ L s.heap m) (N : News h₀ L s.heap news) (X : (hd.heap_39 w.params).In h₀) (T : Top hd.view_39 (looseW hd.view_39 []) mean mg mb h₀)
    (hA : A.handled = none) (hdp : A.depth + d < recursionLimit) (hun : A.units + u < cLine)
    (h : ∀ t h' tk, Fr h₀ L h' m → News h₀ L h' news → Q (.int x t) { s with heap := h', toks := tk }) :
    wpAny (model PySem.Challenge.rw_pc0254_01.row.prog w) A (call (.ref f) vs) Q E s :=
  con_use0 C F N X T hA hdp hun fun v new h' tk F' N' ⟨t, e1, e2⟩ => by subst e1 e2; exact h t h' tk F' N'
noncomputable abbrev ConB (w : World) (f : Addr) (d u : Nat) (vs : List Value) (x : Bool) : Prop := Con w f d u [] vs (fun v new => v = .bool x ∧ new = [])
theorem con_useB {x : Bool} (C : ConB w f d u vs x) (F : Fr h₀ L s.heap m) (N : News h₀ L s.heap news) (X : (hd.heap_39 w.params).In h₀) (T : Top hd.view_39 (looseW hd.view_39 []) mean mg mb h₀)
    (hA : A.handled = none) (hdp : A.depth + d < recursionLimit) (hun : A.units + u < cLine)
    (h : ∀ h' tk, Fr h₀ L h' m → News h₀ L h' news → Q (.bool x) { s with heap := h', toks := tk }) :
    wpAny (model PySem.Challenge.rw_pc0254_01.row.prog w) A (call (.ref f) vs) Q E s :=
  con_use0 C F N X T hA hdp hun fun v new h' tk F' N' ⟨e1, e2⟩ => by subst e1 e2; exact h h' tk F' N'
noncomputable abbrev ConS (w : World) (f : Addr) (d u : Nat) (vs : List Value) (x : Str) : Prop := Con w f d u [] vs (fun v new => ∃ t, v = .str x t ∧ new = [])
theorem con_useS {x : Str} (C : ConS w f d u vs x) (F : Fr h₀ L s.heap m) (N : News h₀ L s.heap news) (X : (hd.heap_39 w.params).In h₀) (T : Top hd.view_39 (looseW hd.view_39 []) mean mg mb h₀)
    (hA : A.handled = none) (hdp : A.depth + d < recursionLimit) (hun : A.units + u < cLine)
    (h : ∀ t h' tk, Fr h₀ L h' m → News h₀ L h' news → Q (.str x t) { s with heap := h', toks := tk }) :
    wpAny (model PySem.Challenge.rw_pc0254_01.row.prog w) A (call (.ref f) vs) Q E s :=
  con_use0 C F N X T hA hdp hun fun v new h' tk F' N' ⟨t, e1, e2⟩ => by subst e1 e2; exact h t h' tk F' N'
end
section
variable {prog : Program} {w : World} {A : Around} {E : Value → Shared → Prop} {s : Shared} {h₀ : Heap} {L D l : Addr} {m : Str → Option Value} {news rest : List (Addr × Obj)} {its : Array Value} {n : Nat}
theorem my_len {Q : Value → Shared → Prop} (N : News h₀ L s.heap news) (hm : (l, listOf its n) ∈ news) (hz : (its.size : Int) < 2 ^ 63)
    (h : ∀ t tk, Q (.int its.size t) { s with toks := tk }) : wpAny (model prog w) A (call (.builtin "len") [.ref l]) Q E s :=
  len_list ⟨_, (N _ hm).1, rfl, n, rfl⟩ hz (h _ _)
theorem kl_last_app (xs : List Value) (y : Value) : kl_last (xs ++ [y]) = some (xs, y) := by
  induction xs with
  | nil => rfl
  | cons x r ih => rw [List.cons_append, kl_last, ih]
theorem my_item {value slice : Expr} {k : Int} {u : Tok} {x : Value} {Q : Value → Shared → Prop} (N : News h₀ L s.heap news) (hm : (l, listOf its n) ∈ news) (h0 : 0 ≤ k) (hfit : k < 2 ^ 63) (hx : its[k.toNat]? = some x) (h : Q x s)
    (hs : subscripted slice false (.ref l) (.int k u) = operate [.ref l, .int k u] (getItem (.ref l) (.int k u)) := by with_unfolding_all rfl) (hg : ∀ r, letTemporaryGo value (.ref l) r = pure () := by intro _; with_unfolding_all rfl) :
    wpAny (model prog w) A (subscriptTail value slice (.ref l) (.int k u)) Q E s := item_list ⟨_, (N _ hm).1, rfl, n, rfl⟩ h0 hfit hx h hs hg
theorem my_itemI {value slice : Expr} {k : Int} {u : Tok} {vs : List Value} {ns : List Int} {Q : Value → Shared → Prop} (N : News h₀ L s.heap news) (hm : (l, listOf vs.toArray n) ∈ news) (hi : IntsAre vs ns) (h0 : 0 ≤ k) (hlt : k < ns.length) (hfit : k < 2 ^ 63) (h : ∀ t, Q (.int (ns.getD k.toNat 0) t) s)
    (hs : subscripted slice false (.ref l) (.int k u) = operate [.ref l, .int k u] (getItem (.ref l) (.int k u)) := by with_unfolding_all rfl) (hg : ∀ r, letTemporaryGo value (.ref l) r = pure () := by intro _; with_unfolding_all rfl) :
    wpAny (model prog w) A (subscriptTail value slice (.ref l) (.int k u)) Q E s := by
  have h1 : k.toNat < ns.length := by omega
  obtain ⟨t, ht⟩ := hi.get k.toNat ns[k.toNat] (by simp [h1])
  refine item_list ⟨_, (N _ hm).1, rfl, n, rfl⟩ h0 hfit (by simpa using ht) ?_ hs hg
  have := h t
  rw [List.getD_eq_getElem?_getD, List.getElem?_eq_getElem h1] at this
  exact this
end
noncomputable def isL (o : Obj) : Bool := match o.cls with
  | .type "list" => true
  | _ => false
noncomputable def Off (D : Addr) : List (Addr × Obj) → Prop
  | [] => True
  | p :: r => (p.1 ≠ D ∨ isL p.2 = false) ∧ Off D r
theorem Off.of {D : Addr} {l : List (Addr × Obj)} (h : ∀ p ∈ l, p.1 ≠ D) : Off D l := by
  induction l with
  | nil => trivial
  | cons a r ih => exact ⟨.inl (h a List.mem_cons_self), ih fun p hp => h p (List.mem_cons_of_mem _ hp)⟩
theorem Off.ofRaw {D : Addr} {l news : List (Addr × Obj)} (h : ∀ p ∈ news, p.1 < D) (hs : ∀ p ∈ l, p ∈ news) : Off D l := Off.of fun p hp => Nat.ne_of_lt (h p (hs p hp))
theorem Off.app {D : Addr} {l l' : List (Addr × Obj)} (h : Off D l) (h' : Off D l') : Off D (l ++ l') := by
  induction l with
  | nil => exact h'
  | cons a r ih => exact ⟨h.1, ih h.2⟩
inductive UpdO (D : Addr) (o o' : Obj) : List (Addr × Obj) → List (Addr × Obj) → Prop
  | head {r} : Off D r → UpdO D o o' ((D, o) :: r) ((D, o') :: r)
  | tail {p r r'} : (p.1 ≠ D ∨ isL p.2 = false) → UpdO D o o' r r' → UpdO D o o' (p :: r) (p :: r')
theorem Off.ne {D : Addr} {o : Obj} {h : Heap} (ho : h.get? D = some o) (hl : isL o = true) {l : List (Addr × Obj)} (hn : ∀ p ∈ l, h.get? p.1 = some p.2) (H : Off D l) : ∀ p ∈ l, p.1 ≠ D := by
  induction l with
  | nil => intro p hp; cases hp
  | cons a r ih =>
    intro p hp
    rcases List.mem_cons.mp hp with e | hp
    · rcases H.1 with h1 | h1
      · rw [e]; exact h1
      · intro h2
        have h3 := hn p (e ▸ List.mem_cons_self)
        rw [h2, ho] at h3
        rw [← e, ← Option.some.inj h3, hl] at h1
        cases h1
    · exact ih (fun q hq => hn q (List.mem_cons_of_mem _ hq)) H.2 p hp
theorem UpdO.mem {D : Addr} {o o' : Obj} {l l' : List (Addr × Obj)} (U : UpdO D o o' l l') : (D, o) ∈ l := by
  induction U with
  | head _ => exact List.mem_cons_self
  | tail _ _ ih => exact List.mem_cons_of_mem _ ih
theorem UpdO.toUpd {D : Addr} {o o' : Obj} {h : Heap} (ho : h.get? D = some o) (hl : isL o = true) {l l' : List (Addr × Obj)} (hn : ∀ p ∈ l, h.get? p.1 = some p.2) (U : UpdO D o o' l l') : Upd D o o' l l' := by
  induction U with
  | head H => exact .head (H.ne ho hl fun q hq => hn q (List.mem_cons_of_mem _ hq))
  | @tail p r r' H _ ih =>
    refine .tail ?_ (ih fun q hq => hn q (List.mem_cons_of_mem _ hq))
    rcases H with h1 | h1
    · exact h1
    · intro h2
      have h3 := hn p List.mem_cons_self
      rw [h2, ho] at h3
      rw [← Option.some.inj h3, hl] at h1
      cases h1
section
variable {prog : Program} {w : World} {A : Around} {E : Value → Shared → Prop} {s : Shared} {h₀ : Heap} {L D l : Addr} {m : Str → Option Value} {news news' rest : List (Addr × Obj)} {its : Array Value} {n : Nat}
theorem my_pop {xs : List Value} {y : Value} {Q : Value → Shared → Prop} (F : Fr h₀ L s.heap m) (N : News h₀ L s.heap news) (U : UpdO D (listOf (xs ++ [y]).toArray n) (listOf xs.toArray (n + 1)) news news') (hz : xs.length < sizeLine)
    (h : ∀ h', Fr h₀ L h' m → News h₀ L h' news' → Q y { s with heap := h' }) : wpAny (model prog w) A (call (.builtin "list.pop") [.ref D]) Q E s :=
  kl_pop F N (kl_last_app xs y) (U.toUpd (N _ U.mem).1 rfl fun p hp => (N p hp).1) (by simpa using Nat.succ_le_of_lt hz) h
theorem my_append {x : Value} {Q : Value → Shared → Prop} (F : Fr h₀ L s.heap m) (N : News h₀ L s.heap news) (U : UpdO D (listOf its n) (listOf (its.push x) (n + 1)) news news') (hsz : its.size ≤ sizeLine)
    (h : ∀ h', Fr h₀ L h' m → News h₀ L h' news' → Q .none { s with heap := h' }) : wpAny (model prog w) A (call (.builtin "list.append") [.ref D, x]) Q E s :=
  append_K F N (U.toUpd (N _ U.mem).1 rfl fun p hp => (N p hp).1) h hsz
end
end
section
section
variable {w : World} {f : Addr} {d u : Nat} {old : List (Addr × Obj)} {vs : List Value} {R : Value → List (Addr × Obj) → Prop}
  {mean : ExcName → Option Value} {mg mb : Str → Option Value} {A : Around} {s : Shared} {Q E : Value → Shared → Prop} {h₀ : Heap} {L : Addr} {m : Str → Option Value} {news : List (Addr × Obj)}
theorem con_enterC {name qual : Str} {params : Arguments} {body : List Stmt} {scope : Scope} {dV kV doc pm cdv ct oc : Value} {an od : Option Addr} {osl : Array (Option Value)} (binds locs : List (Str × Value)) (cs : Addr → List (Str × Addr))
    (ho : (hd.heap_39 w.params).lookup f = some ⟨oc, od, .func (fnX name qual params body scope [] dV kV doc pm an cdv ct), osl⟩) (hcd : codeIn (hd.heap_39 w.params) cdv qual = true)
    (hbind : ∀ s, BindsTo s (fnX name qual params body scope [] dV kV doc pm an cdv ct) ⟨vs, []⟩ binds) (hkind : (binds.all fun y => scope.names.lookup y.1 == some .local || scope.names.lookup y.1 == some .cell) = true) (hd1 : 0 < d)
    (hnd : ((cellsFrom 0 scope.names []).map (·.1)).Nodup)
    (hlocs : ∀ L, bindL (envOfC qual scope L f cdv).kindOf binds (fun _ => none) = kstB (fun _ => none) locs)
    (hcs : ∀ L, cellsFrom (L + 1) scope.names [] = cs L)
    (h : ∀ (mean : ExcName → Option Value) (mg mb : Str → Option Value) (dp : Nat) (fr : Option (List Env)) (gd : Option (List Code)) (un : Nat) (s : Shared) (Q : Value → Shared → Prop) (g : Heap) (L : Addr) (h₁ : Heap) (tk : Nat) (cells : List (Addr × Obj)),
      Fr g L h₁ (kstB (fun _ => none) locs) → News g L h₁ (cells ++ old) → CellsAre (bindC (envOfC qual scope L f cdv).kindOf binds fun _ => none) (cs L) cells → (∀ p ∈ old, p.1 < L) →
      (hd.heap_39 w.params).In g → Top hd.view_39 (looseW hd.view_39 []) mean mg mb g → dp + d < recursionLimit → un + u < cLine →
      (∀ v new h' tk m' news', Fr g L h' m' → News g L h' news' → (∀ p ∈ new, p ∈ news') → R v new → Q v { s with heap := h', toks := tk }) →
      wpAny (model PySem.Challenge.rw_pc0254_01.row.prog w) (Around.deeper ⟨none, dp, fr, gd, un⟩ (envX qual scope L f cdv (cs L))) (execs body (envX qual scope L f cdv (cs L)))
        (fun fl s' => Q (match fl with | .ret v => v | _ => .none) s') (fun _ _ => False) { s with heap := h₁, toks := tk })
    (hco : scope.isCoroutine = false) (hgen : scope.isGenerator = false) (hk : scope.kind = .function) :
    Con w f d u old vs R := by
  intro mean mg mb A s Q g hg hsz G hold hA hdp hun hret
  obtain ⟨hd', dp, fr, gd, un⟩ := A
  dsimp only at hA hdp hun
  subst hA
  refine wpAny_call (codeAny_call_function (by dsimp only; omega) (hg _ _ (G.k _ _ ho)) rfl hco hgen rfl (codeRec_of (G.k.keeps hg) hcd) (hbind s _ _ _ _ ?_))
  refine wpAny_newFunctionEnv_cells hk (kindsX hkind _) fun env' he s' x => ?_
  subst he
  refine ⟨(G.t.nolimit.keeps hg).keeps x.toInCall.keep, codeAny_func ?_⟩
  obtain ⟨h₁, tk, rfl, _⟩ := x.done
  have hk₁ := x.toInCall.keep
  obtain ⟨cells, NC, Y⟩ := Cl.news (h₀ := s.heap) (Nat.le_refl _) fun n c hm => ⟨x.cell n c (lookup_of_mem_nodup (cellsFrom_names scope.names 0 (s.heap.objs.size + 1) [] [] rfl ▸ hnd) hm), x.above n c hm⟩
  have F := x.toInCall.ns
  have hL := hlocs s.heap.objs.size
  have hC := hcs s.heap.objs.size
  have F1 : Fr g s.heap.objs.size h₁ (kstB (fun _ => none) locs) := ⟨hL ▸ F, fun b o e => hk₁ b o (hg b o e), hsz⟩
  have N1 : News g s.heap.objs.size h₁ (cells ++ old) := fun p hp => by
    rcases List.mem_append.mp hp with hp | hp
    · refine ⟨(NC p hp).1, (NC p hp).2.1, ?_⟩
      cases q : g.get? p.1 with
      | none => rfl
      | some o => have := hg _ _ q; rw [(NC p hp).2.2] at this; cases this
    · exact ⟨hk₁ _ _ (hold p hp).1, Nat.ne_of_lt (Heap.lt_size (hold p hp).1), (hold p hp).2⟩
  have Y1 : CellsAre (bindC (envOfC qual scope s.heap.objs.size f cdv).kindOf binds fun _ => none) (cs s.heap.objs.size) cells := hC ▸ Y
  have main := h mean mg mb dp fr gd un s Q g s.heap.objs.size h₁ tk cells F1 N1 Y1 (fun p hp => Heap.lt_size (hold p hp).1) G.k G.t hdp hun ?_
  · rw [← hC] at main
    exact wpAny_mono main (fun _ _ x => x) (fun _ _ x => x.elim)
  · intro v new h' tk' m' news' F N hn hR
    exact hret v new h' tk' F.keep (fun p hp => ⟨(N p (hn p hp)).1, (N p (hn p hp)).2.2⟩) hR
theorem UpdO.rest {D : Addr} {o o' : Obj} {l l' : List (Addr × Obj)} (U : UpdO D o o' l l') : ∀ p ∈ l', p = (D, o') ∨ p ∈ l := by
  induction U with
  | head _ => intro p hp; rcases List.mem_cons.mp hp with e | hp; exact .inl e; exact .inr (List.mem_cons_of_mem _ hp)
  | tail _ _ ih =>
    intro p hp
    rcases List.mem_cons.mp hp with e | hp
    · exact .inr (e ▸ List.mem_cons_self)
    · exact (ih p hp).imp id (List.mem_cons_of_mem _)
theorem updRest {D : Addr} {o o' : Obj} {l l' : List (Addr × Obj)} (U : Upd D o o' l l') : ∀ p ∈ l', p = (D, o') ∨ (p ∈ l ∧ p.1 ≠ D) := by
  induction U with
  | head h => intro p hp; rcases List.mem_cons.mp hp with e | hp; exact .inl e; exact .inr ⟨List.mem_cons_of_mem _ hp, h p hp⟩
  | tail h _ ih =>
    intro p hp
    rcases List.mem_cons.mp hp with e | hp
    · exact .inr ⟨e ▸ List.mem_cons_self, e ▸ h⟩
    · exact (ih p hp).imp id fun q => ⟨List.mem_cons_of_mem _ q.1, q.2⟩
theorem con_useU {P : Addr} {o : Obj} {R : Value → Obj → Prop} {go : Obj → List (Addr × Obj)} (C : Con w f d u [(P, o)] vs (fun v new => ∃ o', R v o' ∧ new = [(P, o')])) (F : Fr h₀ L s.heap m) (N : News h₀ L s.heap news) (X : (hd.heap_39 w.params).In h₀) (T : Top hd.view_39 (looseW hd.view_39 []) mean mg mb h₀)
    (hl : isL o = true) (U : ∀ o', UpdO P o o' news (go o')) (hA : A.handled = none) (hdp : A.depth + d < recursionLimit) (hun : A.units + u < cLine)
    (h : ∀ v o' h' tk, Fr h₀ L h' m → News h₀ L h' (go o') → R v o' → Q v { s with heap := h', toks := tk }) :
    wpAny (model PySem.Challenge.rw_pc0254_01.row.prog w) A (call (.ref f) vs) Q E s := by
  refine con_use C F N X T (fun p hp => by rw [List.mem_singleton.mp hp]; exact (U o).mem) hA hdp hun fun v new h' tk F' N1 N2 ⟨o', hR, e⟩ => ?_
  subst e
  have U' := (U o').toUpd (N _ (U o').mem).1 hl fun p hp => (N p hp).1
  refine h v o' h' tk F' (fun p hp => ?_) hR
  rcases updRest U' p hp with e | ⟨h1, h2⟩
  · rw [e]; exact N1 _ List.mem_cons_self
  · exact N2 p h1 (fun q => h2 (by simpa using q))
theorem con_use1 {l : Addr} {o : Obj} {R : Value → Prop} {rest : List (Addr × Obj)} (C : Con w f d u [(l, o)] vs (fun v new => R v ∧ new = [])) (F : Fr h₀ L s.heap m) (N : News h₀ L s.heap ((l, o) :: rest)) (X : (hd.heap_39 w.params).In h₀) (T : Top hd.view_39 (looseW hd.view_39 []) mean mg mb h₀)
    (hl : isL o = true) (U : Off l rest) (hA : A.handled = none) (hdp : A.depth + d < recursionLimit) (hun : A.units + u < cLine)
    (h : ∀ v h' tk, Fr h₀ L h' m → News h₀ L h' rest → R v → Q v { s with heap := h', toks := tk }) :
    wpAny (model PySem.Challenge.rw_pc0254_01.row.prog w) A (call (.ref f) vs) Q E s := by
  refine con_use C F N X T (fun p hp => by rw [List.mem_singleton.mp hp]; exact List.mem_cons_self) hA hdp hun fun v new h' tk F' N1 N2 ⟨hR, e⟩ => ?_
  have U' := U.ne (N (l, o) List.mem_cons_self).1 hl (fun p hp => (N p (List.mem_cons_of_mem _ hp)).1)
  exact h v h' tk F' (fun p hp => N2 p (List.mem_cons_of_mem _ hp) (fun q => U' p hp (by simpa using q))) hR
end
section
variable {prog : Program} {w : World} {A : Around} {s₂ : Shared} {env : Env}
noncomputable def CompEnd {σ : Type} (g : Heap) (C : Addr) (s : Shared) (Led : σ → List (Addr × Obj)) (keep : List (Addr × Obj)) (J : σ → Prop) (s' : Shared) : Prop :=
  ∃ c' h' tk m' news', s' = { s with heap := h', toks := tk } ∧ Fr g C h' m' ∧ News g C h' news' ∧ (∀ p ∈ Led c', p ∈ news') ∧ (∀ p ∈ keep, p ∈ news') ∧ J c'
theorem CompEnd.intro {σ : Type} {g : Heap} {C : Addr} {s : Shared} {Led : σ → List (Addr × Obj)} {keep news' : List (Addr × Obj)} {J : σ → Prop} {h' : Heap} {tk : Nat} {m' : Str → Option Value} (c' : σ)
    (F : Fr g C h' m') (N : News g C h' news') (h1 : ∀ p ∈ Led c', p ∈ news') (h2 : ∀ p ∈ keep, p ∈ news') (h3 : J c') : CompEnd g C s Led keep J { s with heap := h', toks := tk } := ⟨c', h', tk, m', news', rfl, F, N, h1, h2, h3⟩
theorem m_compBlock {σ : Type} {E : Value → Shared → Prop} {elt iter : Expr} {x : Str} {px : Pos} {ifs : List Expr} {scope : Scope} {cl : List (Str × Addr)} {pos : Pos} {I : Addr} {fp : List Addr} {n : Nat} {PV : Nat → Value → Prop} {St : Nat → Heap → Prop} {RR : Value → Addr → Result → Shared → Prop}
    (Led : σ → List (Addr × Obj)) (vis : List (Addr × Obj)) (adrs : List Addr) (J : Nat → Array Value → σ → Prop)
    (S : Src prog w A I fp n PV St) (hsz : n ≤ sizeLine) (hst : St 0 s₂.heap) (hfp : ∀ b ∈ fp, b < s₂.heap.objs.size)
    (hcell : ∀ y ∈ scope.names, y.2 ≠ .cell) (hkind : scope.kind = .function) (hx : scope.names.lookup x = some .local)
    (hvis : ∀ p ∈ vis, s₂.heap.get? p.1 = some p.2 ∧ p.1 ∉ fp) (start : ∃ c₀, (∀ p ∈ Led c₀, s₂.heap.get? p.1 = some p.2) ∧ J 0 #[] c₀)
    (hadr : ∀ i acc c, J i acc c → (Led c).map (·.1) = adrs) (hadrfp : ∀ a ∈ adrs, a ∉ fp)
    (hacc : ∀ i acc c, J i acc c → acc.size ≤ i)
    (turn : ∀ (g : Heap) (C : Addr) i v c acc (u : Str → Option Value) h tk own, (∀ b o, s₂.heap.get? b = some o → b ∉ fp ++ (adrs ++ vis.map (·.1)) → g.get? b = some o) → i < n → PV i v → J i acc c → (∀ q ∈ own, ∀ p ∈ Led c, q.1 ≠ p.1) →
      Fr g C h (fun y => if y = x then some v else u y) → News g C h (Led c ++ (vis ++ own)) →
      wpAny (model prog w) A (forIn ifs true fun c r => if r = true then do let ok ← isTrue c (compEnvC scope cl C env) (eval c (compEnvC scope cl C env)); pure (ForInStep.yield ok) else pure (ForInStep.yield r))
        (fun ok s₃ => if ok = true then wpAny (model prog w) A (eval elt (compEnvC scope cl C env)) (fun y s₄ => CompEnd g C { s₂ with heap := h, toks := tk } Led (vis ++ own) (J (i + 1) (acc.push y)) s₄) (fun _ _ => False) s₃
          else CompEnd g C { s₂ with heap := h, toks := tk } Led (vis ++ own) (J (i + 1) acc) s₃) (fun _ _ => False) { s₂ with heap := h, toks := tk })
    (done : ∀ D C c acc nn h' tk m', s₂.heap.objs.size ≤ D → s₂.heap.get? C = none → D ≠ C → h'.Ns C m' → h'.get? D = some (listOf acc nn) → (∀ p ∈ Led c, h'.get? p.1 = some p.2) → J n acc c →
      (∀ b o, b ∉ adrs → b ≠ I → s₂.heap.get? b = some o → h'.get? b = some o) → RR (.ref D) C (.ok .next) { s₂ with heap := h', toks := tk }) :
    wpAny (model prog w) A (newList []) (fun acc s₃ => wpAny (model prog w) A (newFunctionEnv scope env.globals cl [] env.qual none .none (some env)) (fun cenv s₄ =>
      codeAny (model prog w) A (.compStart (.ListComp elt [⟨.Name x px, iter, ifs, 0⟩] scope pos) 0 (.ref I) acc { cenv with scope := relabel scope env }) (RR acc cenv.locals) s₄) E s₃) E s₂ := by
  refine wpAny_newObj_type (wpAny_newFunctionEnv hcell (by intro y hy; simp at hy) (fun h₁ hns₁ hsb₁ => ?_) hkind)
  dsimp only at hns₁ hsb₁ ⊢
  generalize hH2 : s₂.heap.push { cls := .type "list", dict := none, data := .seq ([] : List Value).toArray } = H2 at hns₁ hsb₁ ⊢
  have hC : H2.objs.size = s₂.heap.objs.size + 1 := by rw [← hH2, Heap.size_push]
  generalize hDe : s₂.heap.objs.size = D at *
  generalize hCe : H2.objs.size = C at *
  have hDC : D ≠ C := by omega
  have hlt : D < C := by omega
  have hDC' := hlt
  have neC : ∀ b : Nat, b < D → b ≠ C := fun b hb => by omega
  have neD : ∀ b : Nat, b < D → b ≠ D := fun b hb => by omega
  have irr : ∀ {P : Prop} (b : Nat), b < D → b = D → P := fun b h1 h2 => by omega
  have fresh : ∀ a, D ≤ a → s₂.heap.get? a = none := fun a ha => by
    cases e : s₂.heap.get? a with
    | none => rfl
    | some o' => exact absurd (Heap.lt_size e) (by rw [hDe]; exact Nat.not_lt.mpr ha)
  have below : ∀ b o, s₂.heap.get? b = some o → b < D := fun b o e => hDe ▸ Heap.lt_size e
  have old : ∀ b o, s₂.heap.get? b = some o → h₁.get? b = some o := fun b o e => by
    have hb := below b o e
    exact hsb₁.extBut b o (neC b hb) (Heap.get?_push_of_some _ (hH2 ▸ Heap.get?_push_of_some _ e))
  have hD₁ : h₁.get? D = some (listOf #[] 0) := hsb₁.extBut _ _ hDC (Heap.get?_push_of_some _ (hH2 ▸ hDe ▸ Heap.get?_push_size _ rfl))
  have hst₁ : St 0 h₁ := S.W.frame _ _ _ hst fun b _ o e => old b o e
  let hid := fp ++ (adrs ++ vis.map (·.1)) ++ [D]
  let g := hideAll H2 hid
  have hgs : g.objs.size ≤ C := by rw [hideAll_size]; exact Nat.le_of_eq hCe
  have hg₁ : ∀ b o, g.get? b = some o → h₁.get? b = some o := fun b o e => by
    have e1 := of_hideAll _ e
    have e2 : b < C := hCe ▸ Heap.lt_size e1
    exact hsb₁.extBut b o (Nat.ne_of_lt e2) (Heap.get?_push_of_some _ e1)
  have hgn : ∀ b ∈ hid, g.get? b = none := fun b hb => hideAll_none _ hb
  have hgo : ∀ b o, s₂.heap.get? b = some o → b ∉ fp ++ (adrs ++ vis.map (·.1)) → g.get? b = some o := fun b o e hn => hideAll_get _ (hH2 ▸ Heap.get?_push_of_some _ e) (fun q => by
    rcases List.mem_append.mp q with q | q
    · exact hn q
    · exact irr b (below b o e) (List.mem_singleton.mp q))
  have hCfp : C ∉ fp := fun hm => absurd (Nat.lt_trans (hfp _ hm) hlt) (Nat.lt_irrefl _)
  have hCI : C ∉ [I] := fun hm => hCfp (S.W.sub _ hm)
  have hDfp : D ∉ fp := fun hm => absurd (hfp _ hm) (Nat.lt_irrefl _)
  have hIfp : I ∈ fp := S.W.sub I (List.mem_singleton.mpr rfl)
  obtain ⟨c₀, hc1, hc2⟩ := start
  have adrD : ∀ a ∈ adrs, a < D := fun a ha => by
    rw [← hadr 0 #[] c₀ hc2] at ha
    obtain ⟨p, hp, rfl⟩ := List.mem_map.mp ha
    exact below _ _ (hc1 p hp)
  have visD : ∀ p ∈ vis, p.1 < D := fun p hp => below _ _ (hvis p hp).1
  have ledA : ∀ i acc c, J i acc c → ∀ p ∈ Led c, p.1 ∈ adrs := fun i acc c hJ p hp => hadr i acc c hJ ▸ List.mem_map_of_mem hp
  have loop : codeAny (model prog w) A (.compLoop (.ListComp elt [⟨.Name x px, iter, ifs, 0⟩] scope pos) 0 (.ref I) (.ref D) (compEnvC scope cl C env)) (RR (.ref D) C)
      { s₂ with heap := h₁, toks := s₂.toks + ([] : List (Str × Value)).length } := by
    refine codeAny_compLoop_tests
      (fun k s' => ∃ h' tk m' i acc nn c, s' = { s₂ with heap := h', toks := tk } ∧ St i h' ∧ Fr g C h' m' ∧ (∀ p ∈ Led c ++ vis, h'.get? p.1 = some p.2) ∧ h'.get? D = some (listOf acc nn) ∧ J i acc c ∧ (∀ b ∈ fp, b ≠ I → ∀ o, s₂.heap.get? b = some o → h'.get? b = some o) ∧ i ≤ n ∧ k = n + 1 - i) ?_ (n + 1)
      ⟨h₁, _, _, 0, #[], 0, c₀, rfl, hst₁, ⟨hns₁, hg₁, hgs⟩, fun p hp => ?_, hD₁, hc2, (fun b _ _ o e => old b o e), Nat.zero_le _, rfl⟩
    · rintro k s' ⟨h', tk, m', i, acc, nn, c, rfl, hst', F', hL', hD', hJ, hfx, hi, rfl⟩
      have next : ∀ h₂ : Heap, (∀ b o, b ∉ [I] → h'.get? b = some o → h₂.get? b = some o) → Fr g C h₂ m' ∧ (∀ p ∈ Led c ++ vis, h₂.get? p.1 = some p.2) ∧ h₂.get? D = some (listOf acc nn) := by
        intro h₂ hk
        refine ⟨⟨F'.ns.at' fun o e => hk _ o hCI e, fun b o e => hk b o (fun q => ?_) (F'.keep b o e), F'.above⟩, fun p hp => hk _ _ (fun q => ?_) (hL' p hp), hk _ _ (fun q => ?_) hD'⟩
        · have := hgn b (List.mem_append_left _ (List.mem_append_left _ (List.mem_singleton.mp q ▸ hIfp)))
          rw [this] at e; cases e
        · have q := List.mem_singleton.mp q
          rcases List.mem_append.mp hp with hp | hp
          · exact hadrfp _ (ledA _ _ _ hJ p hp) (q ▸ hIfp)
          · exact (hvis p hp).2 (q ▸ hIfp)
        · exact hDfp (List.mem_singleton.mp q ▸ hIfp)
      by_cases hlt : i < n
      · refine S.W.item i _ _ _ hlt hst' fun v h₂ tk₂ hP hst₂ hk₂ => ?_
        obtain ⟨F₂, L₂, D₂⟩ := next h₂ hk₂
        refine wpAny_assign_Name (wpAny_storeName_local (lookup_relabel_local hx) F₂.ns (fun h₃ hn₃ hs₃ => ?_) (by simp [compEnvC, relabel, hkind]))
        have F₃ := F₂.set hn₃ hs₃
        have hst₃ : St (i + 1) h₃ := S.W.frame _ _ _ hst₂ fun b hb o e => (hs₃.2 b fun (q : b = C) => hCfp (q ▸ hb)).trans e
        let own := ownOf g fp h₃ ++ [(D, listOf acc nn)]
        have Nown : News g C h₃ (ownOf g fp h₃) := news_ownOf hCfp
        have N₃ : News g C h₃ (Led c ++ (vis ++ own)) := by
          intro p hp
          have side : p ∈ Led c ++ vis → h₃.get? p.1 = some p.2 ∧ p.1 ≠ C ∧ g.get? p.1 = none := by
            intro hp
            have e1 : p.1 ∈ hid := by
              refine List.mem_append_left _ (List.mem_append_right _ ?_)
              rcases List.mem_append.mp hp with hp | hp
              · exact List.mem_append_left _ (ledA _ _ _ hJ p hp)
              · exact List.mem_append_right _ (List.mem_map_of_mem hp)
            have e2 : p.1 < D := (List.mem_append.mp hp).elim (fun hp => adrD _ (ledA _ _ _ hJ p hp)) (visD p)
            exact ⟨(hs₃.2 _ (neC _ e2)).trans (L₂ p hp), neC _ e2, hgn _ e1⟩
          rcases List.mem_append.mp hp with h | h
          · exact side (List.mem_append_left _ h)
          · rcases List.mem_append.mp h with h | h
            · exact side (List.mem_append_right _ h)
            · rcases List.mem_append.mp h with h | h
              · exact Nown p h
              · rw [List.mem_singleton.mp h]
                exact ⟨(hs₃.2 _ hDC).trans D₂, hDC, hgn _ (List.mem_append_right _ (List.mem_singleton.mpr rfl))⟩
        have hsep : ∀ q ∈ own, ∀ p ∈ Led c, q.1 ≠ p.1 := by
          intro q hq p hp e
          have ha := ledA _ _ _ hJ p hp
          rcases List.mem_append.mp hq with h | h
          · exact hadrfp _ ha (e ▸ ownOf_sub q h)
          · rw [List.mem_singleton.mp h] at e
            exact irr _ (adrD _ ha) e.symm
        have fin : ∀ (acc' : Array Value) (s₄ : Shared), CompEnd g C { s₂ with heap := h₃, toks := tk₂ + 1 } Led (vis ++ own) (J (i + 1) acc') s₄ →
            ∃ h₄ tk₄ m₄ c', s₄ = { s₂ with heap := h₄, toks := tk₄ } ∧ St (i + 1) h₄ ∧ Fr g C h₄ m₄ ∧ (∀ p ∈ Led c' ++ vis, h₄.get? p.1 = some p.2) ∧ h₄.get? D = some (listOf acc nn) ∧ J (i + 1) acc' c' ∧ (∀ b ∈ fp, b ≠ I → ∀ o, s₂.heap.get? b = some o → h₄.get? b = some o) := by
          rintro acc' s₄ ⟨c', h₄, tk₄, m₄, news₄, rfl, F₄, N₄, q1, q2, hJ'⟩
          refine ⟨h₄, tk₄, m₄, c', rfl, ?_, F₄, fun p hp => ?_, (N₄ _ (q2 _ (List.mem_append_right _ (List.mem_append_right _ (List.mem_singleton.mpr rfl))))).1, hJ', fun b hb hbI o e => ?_⟩
          · refine S.W.frame _ _ _ hst₃ fun b hb o e => ?_
            exact (N₄ _ (q2 _ (List.mem_append_right _ (List.mem_append_left _ (mem_ownOf hb (hgn b (List.mem_append_left _ (List.mem_append_left _ hb))) e))))).1
          · exact (List.mem_append.mp hp).elim (fun hp => (N₄ p (q1 p hp)).1) fun hp => (N₄ p (q2 p (List.mem_append_left _ hp))).1
          · have e3 : h₃.get? b = some o := (hs₃.2 b fun (q : b = C) => hCfp (q ▸ hb)).trans (hk₂ b o (fun q => hbI (List.mem_singleton.mp q)) (hfx b hb hbI o e))
            exact (N₄ _ (q2 _ (List.mem_append_right _ (List.mem_append_left _ (mem_ownOf hb (hgn b (List.mem_append_left _ (List.mem_append_left _ hb))) e3))))).1
        refine wpAny_noRaise (wpAny_mono (turn g C i v c acc m' h₃ (tk₂ + 1) own hgo hlt hP hJ hsep F₃ N₃) (fun ok s₅ h₅ => ?_) fun _ _ e => e)
        cases ok with
        | false =>
          simp only [Bool.false_eq_true, if_false] at h₅ ⊢
          obtain ⟨h₄, tk₄, m₄, c', rfl, a1, a2, a3, a4, a5, a6⟩ := fin _ _ h₅
          exact ⟨n + 1 - (i + 1), by omega, h₄, tk₄, m₄, i + 1, acc, nn, c', rfl, a1, a2, a3, a4, a5, a6, hlt, rfl⟩
        | true =>
          simp only [if_true] at h₅ ⊢
          refine wpAny_noRaise (wpAny_mono h₅ (fun y s₆ h₆ => ?_) fun _ _ e => e)
          obtain ⟨h₄, tk₄, m₄, c', rfl, a1, a2, a3, a4, a5, a6⟩ := fin _ _ h₆
          have hs1 := hacc _ _ _ hJ
          refine append_at (hsz := by omega) a4 fun h₇ hs₇ ho₇ => ?_
          have hkeep : ∀ b o, b ≠ D → h₄.get? b = some o → h₇.get? b = some o := fun b o hb e => hs₇.extBut b o hb e
          refine ⟨n + 1 - (i + 1), by omega, h₇, tk₄, m₄, i + 1, acc.push y, nn + 1, c', rfl, ?_, ⟨a2.ns.at' fun o e => hkeep _ o (Ne.symm hDC) e, fun b o e => hkeep b o (fun q => ?_) (a2.keep b o e), a2.above⟩, fun p hp => hkeep _ _ ?_ (a3 p hp), ho₇, a5, (fun b hb hbI o e => hkeep b o (fun q => hDfp (q ▸ hb)) (a6 b hb hbI o e)), hlt, rfl⟩
          · exact S.W.frame _ _ _ a1 fun b hb o e => hkeep b o (fun q => hDfp (q ▸ hb)) e
          · have := hgn D (List.mem_append_right _ (List.mem_singleton.mpr rfl)); rw [← q, e] at this; cases this
          · exact neD _ ((List.mem_append.mp hp).elim (fun hp => adrD _ (ledA _ _ _ a5 p hp)) (visD p))
      · have hin : i = n := by omega
        subst hin
        refine S.W.done _ _ _ hst' fun h₂ tk₂ hk₂ => ?_
        obtain ⟨F₂, L₂, D₂⟩ := next h₂ hk₂
        refine done D C c acc nn h₂ tk₂ m' (Nat.le_refl _) (fresh _ (Nat.le_of_lt hDC')) hDC F₂.ns D₂ (fun p hp => L₂ p (List.mem_append_left _ hp)) hJ fun b o hb1 hb2 e => ?_
        by_cases hv : b ∈ vis.map (·.1)
        · obtain ⟨p, hp, rfl⟩ := List.mem_map.mp hv
          have e1 := (hvis p hp).1
          rw [e] at e1
          rw [Option.some.inj e1]
          exact L₂ p (List.mem_append_right _ hp)
        · by_cases hf : b ∈ fp
          · exact hk₂ b o (fun q => hb2 (List.mem_singleton.mp q)) (hfx b hf hb2 o e)
          · exact F₂.keep b o (hgo b o e fun q => (List.mem_append.mp q).elim hf fun q => (List.mem_append.mp q).elim hb1 hv)
    · rcases List.mem_append.mp hp with hp | hp
      · exact old _ _ (hc1 p hp)
      · exact old _ _ (hvis p hp).1
  exact codeAny_compStart_list loop (S.W.self 0 _ _ _ hst₁ loop)
end
section
variable {w : World} {A : Around} {s s₂ : Shared} {env : Env} {h₀ : Heap} {L : Addr} {m : Str → Option Value} {news : List (Addr × Obj)} {mean : ExcName → Option Value} {mg mb : Str → Option Value}
noncomputable abbrev PR : Program := PySem.Challenge.rw_pc0254_01.row.prog
noncomputable def CompAt (w : World) (A : Around) (env : Env) (e : Expr) (scope : Scope) (cl : List (Str × Addr)) (use : Option (Value → Sem Unit)) (Q : Value → Shared → Prop) (E : Value → Shared → Prop) (it : Value) (s₂ : Shared) : Prop :=
  wpAny (model PySem.Challenge.rw_pc0254_01.row.prog w) A (newList []) (fun acc s₃ => wpAny (model PySem.Challenge.rw_pc0254_01.row.prog w) A (newFunctionEnv scope env.globals cl [] env.qual none .none (some env)) (fun cenv s₄ =>
      codeAny (model PySem.Challenge.rw_pc0254_01.row.prog w) A (.compStart e 0 it acc { cenv with scope := relabel scope env }) (compPost (model PySem.Challenge.rw_pc0254_01.row.prog w) A E use Q acc cenv.locals) s₄) E s₃) E s₂
theorem m_ListComp {elt iter : Expr} {x : Str} {px : Pos} {ifs : List Expr} {scope : Scope} {cl : List (Str × Addr)} {pos : Pos} {Q : Value → Shared → Prop} {E : Value → Shared → Prop}
    (hclos : closureFor scope env = pure cl) (hkind : scope.kind = .function) (hnames : ∀ y ∈ scope.names, y.2 = .local → scope.names.lookup y.1 = some .local)
    (h : wpAny (model PySem.Challenge.rw_pc0254_01.row.prog w) A (eval iter env) (fun xv s₁ => wpAny (model PySem.Challenge.rw_pc0254_01.row.prog w) A (pyIter xv) (fun it s₂ => CompAt w A env (.ListComp elt [⟨.Name x px, iter, ifs, 0⟩] scope pos) scope cl none Q E it s₂) E s₁) E s)
    (hs : ∀ x, foldedSetIterable iter env x = pure x := by intro _; rfl) :
    wpAny (model PySem.Challenge.rw_pc0254_01.row.prog w) A (eval (.ListComp elt [⟨.Name x px, iter, ifs, 0⟩] scope pos) env) Q E s := by
  rw [eval_ListComp]
  exact wpAny_comprehension_free (use := none) rfl hs hclos hkind hnames h
theorem m_AssignListComp {elt iter : Expr} {x y : Str} {px py : Pos} {ifs : List Expr} {scope : Scope} {cl : List (Str × Addr)} {pos spos : Pos} {Q : Flow → Shared → Prop} {E : Value → Shared → Prop}
    (hsw : swapsWith (.ListComp elt [⟨.Name x px, iter, ifs, 0⟩] scope pos) (some (.Name y py)) spos.line env = pure true)
    (hclos : closureFor scope env = pure cl) (hkind : scope.kind = .function) (hnames : ∀ z ∈ scope.names, z.2 = .local → scope.names.lookup z.1 = some .local)
    (h : wpAny (model PySem.Challenge.rw_pc0254_01.row.prog w) A (eval iter env) (fun xv s₁ => wpAny (model PySem.Challenge.rw_pc0254_01.row.prog w) A (pyIter xv) (fun it s₂ => CompAt w A env (.ListComp elt [⟨.Name x px, iter, ifs, 0⟩] scope pos) scope cl (some (assign (.Name y py) env)) (fun _ s' => Q .next s') E it s₂) E s₁) E s)
    (hs : ∀ x, foldedSetIterable iter env x = pure x := by intro _; rfl) :
    wpAny (model PySem.Challenge.rw_pc0254_01.row.prog w) A (exec (.Assign [.Name y py] (.ListComp elt [⟨.Name x px, iter, ifs, 0⟩] scope pos) spos) env) Q E s := by
  rw [exec_Assign_Name_used _ _ _ _ hsw]
  refine wpAny_bind (wpAny_standAt (wpAny_bind ?_))
  show wpAny _ A (do let _ ← comprehension (.ListComp elt [⟨.Name x px, iter, ifs, 0⟩] scope pos) scope env _ (newList []) false (eval iter env) (some (assign (.Name y py) env))) _ _ s
  exact wpAny_bind (wpAny_mono (wpAny_comprehension_free (use := some (assign (.Name y py) env)) (Q := fun _ s' => Q .next s') rfl hs hclos hkind hnames h) (fun _ s' hq => wpAny_pure (wpAny_pure hq)) fun _ _ e => e)
noncomputable def CompTold {σ : Type} (h₀ : Heap) (L : Addr) (m : Str → Option Value) (news : List (Addr × Obj)) (Led : σ → List (Addr × Obj)) (rest : List (Addr × Obj)) (J : Array Value → σ → Prop) (D : Addr) (c : σ) (acc : Array Value) (nn : Nat) (h' : Heap) : Prop :=
  Fr h₀ L h' m ∧ News h₀ L h' ((D, listOf acc nn) :: (Led c ++ rest)) ∧ J acc c ∧ ∀ p ∈ news, p.1 < D
theorem m_compAt {σ : Type} {elt iter : Expr} {x : Str} {px : Pos} {ifs : List Expr} {scope : Scope} {cl : List (Str × Addr)} {pos : Pos} {I : Addr} {fp : List Addr} {n : Nat} {PV : Nat → Value → Prop} {St : Nat → Heap → Prop} {use : Option (Value → Sem Unit)} {Q : Value → Shared → Prop} {E : Value → Shared → Prop}
    (Led : σ → List (Addr × Obj)) (vis rest : List (Addr × Obj)) (adrs : List Addr) (J : Nat → Array Value → σ → Prop)
    (S : Src PySem.Challenge.rw_pc0254_01.row.prog w A I fp n PV St) (hsz : n ≤ sizeLine) (hst : St 0 s₂.heap) (hfp : ∀ b ∈ fp, b < s₂.heap.objs.size ∧ h₀.get? b = none ∧ b ≠ L)
    (F : Fr h₀ L s₂.heap m) (N : News h₀ L s₂.heap news) (X : (hd.heap_39 w.params).In h₀) (T : Top hd.view_39 (looseW hd.view_39 []) mean mg mb h₀) (hnI : ∀ p ∈ news, p.1 ≠ I)
    (hcell : ∀ y ∈ scope.names, y.2 ≠ .cell) (hkind : scope.kind = .function) (hx : scope.names.lookup x = some .local)
    (hvis : ∀ p ∈ vis, p ∈ news ∧ p.1 ∉ fp) (start : ∃ c₀, (∀ p ∈ Led c₀, p ∈ news) ∧ J 0 #[] c₀)
    (hadr : ∀ i acc c, J i acc c → (Led c).map (·.1) = adrs) (hadrfp : ∀ a ∈ adrs, a ∉ fp) (hrest : ∀ p ∈ rest, p ∈ news ∧ p.1 ∉ adrs)
    (hacc : ∀ i acc c, J i acc c → acc.size ≤ i)
    (turn : ∀ (g : Heap) (C : Addr) i v c acc (u : Str → Option Value) h tk own, i < n → PV i v → J i acc c → (∀ q ∈ own, ∀ p ∈ Led c, q.1 ≠ p.1) → (hd.heap_39 w.params).In g → Top hd.view_39 (looseW hd.view_39 []) mean mg mb g →
      Fr g C h (fun y => if y = x then some v else u y) → News g C h (Led c ++ (vis ++ own)) →
      wpAny (model PySem.Challenge.rw_pc0254_01.row.prog w) A (forIn ifs true fun c r => if r = true then do let ok ← isTrue c (compEnvC scope cl C env) (eval c (compEnvC scope cl C env)); pure (ForInStep.yield ok) else pure (ForInStep.yield r))
        (fun ok s₃ => if ok = true then wpAny (model PySem.Challenge.rw_pc0254_01.row.prog w) A (eval elt (compEnvC scope cl C env)) (fun y s₄ => CompEnd g C { s₂ with heap := h, toks := tk } Led (vis ++ own) (J (i + 1) (acc.push y)) s₄) (fun _ _ => False) s₃
          else CompEnd g C { s₂ with heap := h, toks := tk } Led (vis ++ own) (J (i + 1) acc) s₃) (fun _ _ => False) { s₂ with heap := h, toks := tk })
    (done : ∀ D C c acc nn h' tk, C ≠ L → (∀ p ∈ (D, listOf acc nn) :: (Led c ++ rest), p.1 ≠ C) → h₀.get? C = none → (∃ m', h'.Ns C m') → CompTold h₀ L m news Led rest (J n) D c acc nn h' → compPost (model PySem.Challenge.rw_pc0254_01.row.prog w) A E use Q (.ref D) C (.ok .next) { s₂ with heap := h', toks := tk }) :
    CompAt w A env (.ListComp elt [⟨.Name x px, iter, ifs, 0⟩] scope pos) scope cl use Q E (.ref I) s₂ := by
  have nofp : ∀ b o, h₀.get? b = some o → b ∉ fp ++ (adrs ++ vis.map (·.1)) := by
    intro b o e q
    obtain ⟨c₀, hc1, hc2⟩ := start
    rcases List.mem_append.mp q with q | q
    · rw [(hfp b q).2.1] at e; cases e
    · rcases List.mem_append.mp q with q | q
      · rw [← hadr 0 #[] c₀ hc2] at q
        obtain ⟨p, hp, rfl⟩ := List.mem_map.mp q
        rw [(N p (hc1 p hp)).2.2] at e; cases e
      · obtain ⟨p, hp, rfl⟩ := List.mem_map.mp q
        rw [(N p (hvis p hp).1).2.2] at e; cases e
  refine m_compBlock (RR := fun acc C => compPost (model PySem.Challenge.rw_pc0254_01.row.prog w) A E use Q acc C) Led vis adrs J S hsz hst (fun b hb => (hfp b hb).1) hcell hkind hx (fun p hp => ⟨(N p (hvis p hp).1).1, (hvis p hp).2⟩)
    (let ⟨c₀, a, b⟩ := start; ⟨c₀, fun p hp => (N p (a p hp)).1, b⟩) hadr hadrfp hacc ?_ ?_
  · intro g C i v c acc u h tk own hgo hi hP hJ hsep F' N'
    have st : ∀ b o, h₀.get? b = some o → g.get? b = some o := fun b o e => hgo b o (F.keep b o e) (nofp b o e)
    exact turn g C i v c acc u h tk own hi hP hJ hsep (X.keeps st) (T.keeps st) F' N'
  · intro D C c acc nn h' tk m' hD hC hDC hn ho hl hJ hk
    obtain ⟨oL, es, ep, hL, hLd, hLk, hLf⟩ := F.ns
    have hLfp : L ∉ adrs := by
      intro q
      obtain ⟨c₀, hc1, hc2⟩ := start
      rw [← hadr 0 #[] c₀ hc2] at q
      obtain ⟨p, hp, e⟩ := List.mem_map.mp q
      exact (N p (hc1 p hp)).2.1 e
    have hIfp : I ∈ fp := S.W.sub I (List.mem_singleton.mpr rfl)
    have hLI : L ≠ I := fun q => (hfp I hIfp).2.2 q.symm
    have ledN : ∀ p ∈ Led c, p.1 ≠ L ∧ h₀.get? p.1 = none ∧ ∃ o, s₂.heap.get? p.1 = some o := by
      intro p hp
      obtain ⟨c₀, hc1, hc2⟩ := start
      have q : p.1 ∈ adrs := hadr n acc c hJ ▸ List.mem_map_of_mem hp
      rw [← hadr 0 #[] c₀ hc2] at q
      obtain ⟨p', hp', e⟩ := List.mem_map.mp q
      have := N p' (hc1 p' hp')
      rw [← e]
      exact ⟨this.2.1, this.2.2, _, this.1⟩
    have hDn : h₀.get? D = none := by
      cases q : h₀.get? D with
      | none => rfl
      | some o => exact absurd (Heap.lt_size (F.keep _ _ q)) (Nat.not_lt.mpr hD)
    have hCn : ∀ b o, s₂.heap.get? b = some o → b ≠ C := fun b o e q => by rw [q, hC] at e; cases e
    refine done D C c acc nn h' tk (fun q => hCn L oL hL q.symm) ?_ ?_ ⟨m', hn⟩ ⟨⟨⟨oL, es, ep, hk _ _ hLfp hLI hL, hLd, hLk, hLf⟩, fun b o e => hk b o (fun q => ?_) (fun q => ?_) (F.keep b o e), F.above⟩, ?_, hJ, fun p hp => Nat.lt_of_lt_of_le (Heap.lt_size (N p hp).1) hD⟩
    · intro p hp
      rcases List.mem_cons.mp hp with e | hp
      · rw [e]; exact hDC
      · rcases List.mem_append.mp hp with hp | hp
        · obtain ⟨_, _, o, ho⟩ := ledN p hp; exact hCn _ _ ho
        · exact hCn _ _ (N p (hrest p hp).1).1
    · cases q : h₀.get? C with
      | none => rfl
      | some o => have := F.keep _ _ q; rw [hC] at this; cases this
    · exact nofp b o e (List.mem_append_right _ (List.mem_append_left _ q))
    · rw [q, (hfp I hIfp).2.1] at e; cases e
    · intro p hp
      rcases List.mem_cons.mp hp with e | hp
      · rw [e]; exact ⟨ho, fun (q : D = L) => absurd (Heap.lt_size hL) (q ▸ Nat.not_lt.mpr hD), hDn⟩
      · rcases List.mem_append.mp hp with hp | hp
        · exact ⟨hl p hp, (ledN p hp).1, (ledN p hp).2.1⟩
        · have h1 := N p (hrest p hp).1
          exact ⟨hk _ _ (hrest p hp).2 (hnI p (hrest p hp).1) h1.1, h1.2⟩
theorem compPost_none {Q : Value → Shared → Prop} {E : Value → Shared → Prop} {D C : Addr} {h' : Heap} {tk : Nat} {led : List (Addr × Obj)} (hCL : C ≠ L) (hled : ∀ p ∈ led, p.1 ≠ C) (h0 : h₀.get? C = none) (hn : ∃ m', h'.Ns C m')
    (F : Fr h₀ L h' m) (N : News h₀ L h' led) (h : ∀ h'', Fr h₀ L h'' m → News h₀ L h'' led → Q (.ref D) { s₂ with heap := h'', toks := tk }) :
    compPost (model PySem.Challenge.rw_pc0254_01.row.prog w) A E none Q (.ref D) C (.ok .next) { s₂ with heap := h', toks := tk } := by
  obtain ⟨m', hn⟩ := hn
  refine ⟨m', hn, fun h'' hs => h h'' ⟨F.ns.sameBut hs (Ne.symm hCL), fun b o e => hs.extBut b o (fun q => ?_) (F.keep b o e), F.above⟩ fun p hp => ⟨hs.extBut _ _ (hled p hp) (N p hp).1, (N p hp).2⟩⟩
  rw [q, h0] at e; cases e
theorem compPost_some {y : Str} {py : Pos} {Q : Shared → Prop} {E : Value → Shared → Prop} {D C : Addr} {h' : Heap} {tk : Nat} {led : List (Addr × Obj)} (hL : env.locals = L) (hCL : C ≠ L) (hled : ∀ p ∈ led, p.1 ≠ C) (h0 : h₀.get? C = none) (hn : ∃ m', h'.Ns C m')
    (hy : env.kindOf y = some .local) (hp : (env.scope.kind == .class || (env.scope.kind == .module && env.locals != env.globals)) = false)
    (F : Fr h₀ L h' m) (N : News h₀ L h' led) (h : ∀ h'' tk', Fr h₀ L h'' (fun z => if z = y then some (.ref D) else m z) → News h₀ L h'' led → Q { s₂ with heap := h'', toks := tk' }) :
    compPost (model PySem.Challenge.rw_pc0254_01.row.prog w) A E (some (assign (.Name y py) env)) (fun _ s' => Q s') (.ref D) C (.ok .next) { s₂ with heap := h', toks := tk } := by
  obtain ⟨m', hn⟩ := hn
  subst hL
  show wpAny _ A (assign (.Name y py) env (.ref D)) _ _ _
  refine wpAny_assign_Name (wpAny_storeName_local hy F.ns (fun h₂ hn₂ hs₂ => ?_) hp)
  refine ⟨m', hn.sameBut hs₂ hCL, fun h'' hs => h h'' _ ⟨hn₂.sameBut hs (Ne.symm hCL), fun b o e => hs.extBut b o (fun q => ?_) ((F.set hn₂ hs₂).keep b o e), F.above⟩ fun p hp => ⟨hs.extBut _ _ (hled p hp) ((N.set hs₂) p hp).1, (N p hp).2⟩⟩
  rw [q, h0] at e; cases e
theorem m_comp_range {σ : Type} {elt iter : Expr} {x : Str} {px : Pos} {ifs : List Expr} {scope : Scope} {cl : List (Str × Addr)} {pos : Pos} {use : Option (Value → Sem Unit)} {Q : Value → Shared → Prop} {E : Value → Shared → Prop} {r : Addr} {a₀ b₀ : Int} {t₀ u₀ v₀ : Tok}
    (Led : σ → List (Addr × Obj)) (vis rest : List (Addr × Obj)) (adrs : List Addr) (J : Nat → Array Value → σ → Prop) (n : Nat)
    (hh : A.handled = none) (hr : IsRange s.heap r a₀ b₀ 1 t₀ u₀ v₀) (ha : -(2 ^ 62) ≤ a₀) (ha' : a₀ < 2 ^ 62) (hb : b₀ < 2 ^ 62) (hb' : -(2 ^ 62) ≤ b₀) (hn : n = (b₀ - a₀).toNat) (hsz : n ≤ sizeLine)
    (F : Fr h₀ L s.heap m) (N : News h₀ L s.heap news) (X : (hd.heap_39 w.params).In h₀) (T : Top hd.view_39 (looseW hd.view_39 []) mean mg mb h₀)
    (hcell : ∀ y ∈ scope.names, y.2 ≠ .cell) (hkind : scope.kind = .function) (hx : scope.names.lookup x = some .local)
    (hvis : ∀ p ∈ vis, p ∈ news) (start : ∃ c₀, (∀ p ∈ Led c₀, p ∈ news) ∧ J 0 #[] c₀)
    (hadr : ∀ i acc c, J i acc c → (Led c).map (·.1) = adrs) (hrest : ∀ p ∈ rest, p ∈ news ∧ p.1 ∉ adrs)
    (hacc : ∀ i acc c, J i acc c → acc.size ≤ i)
    (turn : ∀ (g : Heap) (C : Addr) i t c acc (u : Str → Option Value) h tk own, i < n → J i acc c → (∀ q ∈ own, ∀ p ∈ Led c, q.1 ≠ p.1) → (hd.heap_39 w.params).In g → Top hd.view_39 (looseW hd.view_39 []) mean mg mb g →
      Fr g C h (fun y => if y = x then some (.int (a₀ + (i : Int)) t) else u y) → News g C h (Led c ++ (vis ++ own)) →
      wpAny (model PySem.Challenge.rw_pc0254_01.row.prog w) A (forIn ifs true fun c r => if r = true then do let ok ← isTrue c (compEnvC scope cl C env) (eval c (compEnvC scope cl C env)); pure (ForInStep.yield ok) else pure (ForInStep.yield r))
        (fun ok s₃ => if ok = true then wpAny (model PySem.Challenge.rw_pc0254_01.row.prog w) A (eval elt (compEnvC scope cl C env)) (fun y s₄ => CompEnd g C { s with heap := h, toks := tk } Led (vis ++ own) (J (i + 1) (acc.push y)) s₄) (fun _ _ => False) s₃
          else CompEnd g C { s with heap := h, toks := tk } Led (vis ++ own) (J (i + 1) acc) s₃) (fun _ _ => False) { s with heap := h, toks := tk })
    (done : ∀ D C c acc nn h' tk, C ≠ L → (∀ p ∈ (D, listOf acc nn) :: (Led c ++ rest), p.1 ≠ C) → h₀.get? C = none → (∃ m', h'.Ns C m') → CompTold h₀ L m news Led rest (J n) D c acc nn h' → compPost (model PySem.Challenge.rw_pc0254_01.row.prog w) A E use Q (.ref D) C (.ok .next) { s with heap := h', toks := tk }) :
    wpAny (model PySem.Challenge.rw_pc0254_01.row.prog w) A (pyIter (.ref r)) (fun it s₂ => CompAt w A env (.ListComp elt [⟨.Name x px, iter, ifs, 0⟩] scope pos) scope cl use Q E it s₂) E s := by
  have hlt : ∀ p ∈ news, p.1 < s.heap.objs.size := fun p hp => Heap.lt_size (N p hp).1
  refine wpAny_pyIter_range hr (small_one ha ha' hb' hb) ?_
  have W : Walks PySem.Challenge.rw_pc0254_01.row.prog w A s.heap.objs.size [s.heap.objs.size] [s.heap.objs.size] n (fun i v => i < n ∧ ∃ t, v = .int (a₀ + i * 1) t)
      (fun i h => IsRangeIter h s.heap.objs.size (a₀ + (i : Nat) * 1) ((n : Int) - (i : Nat)) 1) := (Walks.range hh _ a₀ 1 n).bound
  refine m_compAt Led vis rest adrs J ⟨W, fun i h st => ⟨_, _, st, rfl⟩⟩ hsz (by show IsRangeIter _ _ _ _ _; rw [rangeSize_nat, ← hn]; simpa using Heap.get?_push_size _ rfl) (fun b hb => ?_) (F.push _) (fun p hp => ⟨Heap.get?_push_of_some _ (N p hp).1, (N p hp).2⟩) X T (fun p hp => Nat.ne_of_lt (hlt p hp)) hcell hkind hx
    (fun p hp => ⟨hvis p hp, fun q => absurd (hlt p (hvis p hp)) (by rw [List.mem_singleton.mp q]; exact Nat.lt_irrefl _)⟩) start hadr ?_ hrest hacc ?_ done
  · rw [List.mem_singleton.mp hb]
    exact ⟨by show s.heap.objs.size < (s.heap.push _).objs.size; rw [Heap.size_push]; exact Nat.lt_succ_self _, fresh_of F, fun (q : s.heap.objs.size = L) => absurd F.ns.lt (by rw [q]; exact Nat.lt_irrefl _)⟩
  · obtain ⟨c₀, a, b⟩ := start
    intro ad ha q
    rw [← hadr 0 #[] c₀ b] at ha
    obtain ⟨p, hp, e⟩ := List.mem_map.mp ha
    have := hlt p (a p hp)
    rw [e, List.mem_singleton.mp q] at this
    exact Nat.lt_irrefl _ this
  · rintro g C i v c acc u h tk own _ ⟨hin, t, rfl⟩ hJ hs X' T' F' N'
    rw [Int.mul_one] at F'
    exact turn g C i t c acc u h tk own hin hJ hs X' T' F' N'
theorem m_comp_str {σ : Type} {elt iter : Expr} {x : Str} {px : Pos} {ifs : List Expr} {scope : Scope} {cl : List (Str × Addr)} {pos : Pos} {use : Option (Value → Sem Unit)} {Q : Value → Shared → Prop} {E : Value → Shared → Prop} {xt : Str} {tx : Tok}
    (Led : σ → List (Addr × Obj)) (vis rest : List (Addr × Obj)) (adrs : List Addr) (J : Nat → Array Value → σ → Prop)
    (hh : A.handled = none) (hsz : xt.cps.size ≤ sizeLine)
    (F : Fr h₀ L s.heap m) (N : News h₀ L s.heap news) (X : (hd.heap_39 w.params).In h₀) (T : Top hd.view_39 (looseW hd.view_39 []) mean mg mb h₀)
    (hcell : ∀ y ∈ scope.names, y.2 ≠ .cell) (hkind : scope.kind = .function) (hx : scope.names.lookup x = some .local)
    (hvis : ∀ p ∈ vis, p ∈ news) (start : ∃ c₀, (∀ p ∈ Led c₀, p ∈ news) ∧ J 0 #[] c₀)
    (hadr : ∀ i acc c, J i acc c → (Led c).map (·.1) = adrs) (hrest : ∀ p ∈ rest, p ∈ news ∧ p.1 ∉ adrs)
    (hacc : ∀ i acc c, J i acc c → acc.size ≤ i)
    (turn : ∀ (g : Heap) (C : Addr) i n t c acc (u : Str → Option Value) h tk own, xt.cps[i]? = some n → J i acc c → (∀ q ∈ own, ∀ p ∈ Led c, q.1 ≠ p.1) → (hd.heap_39 w.params).In g → Top hd.view_39 (looseW hd.view_39 []) mean mg mb g →
      Fr g C h (fun y => if y = x then some (.str ⟨#[n]⟩ t) else u y) → News g C h (Led c ++ (vis ++ own)) →
      wpAny (model PySem.Challenge.rw_pc0254_01.row.prog w) A (forIn ifs true fun c r => if r = true then do let ok ← isTrue c (compEnvC scope cl C env) (eval c (compEnvC scope cl C env)); pure (ForInStep.yield ok) else pure (ForInStep.yield r))
        (fun ok s₃ => if ok = true then wpAny (model PySem.Challenge.rw_pc0254_01.row.prog w) A (eval elt (compEnvC scope cl C env)) (fun y s₄ => CompEnd g C { s with heap := h, toks := tk } Led (vis ++ own) (J (i + 1) (acc.push y)) s₄) (fun _ _ => False) s₃
          else CompEnd g C { s with heap := h, toks := tk } Led (vis ++ own) (J (i + 1) acc) s₃) (fun _ _ => False) { s with heap := h, toks := tk })
    (done : ∀ D C c acc nn h' tk, C ≠ L → (∀ p ∈ (D, listOf acc nn) :: (Led c ++ rest), p.1 ≠ C) → h₀.get? C = none → (∃ m', h'.Ns C m') → CompTold h₀ L m news Led rest (J xt.cps.size) D c acc nn h' → compPost (model PySem.Challenge.rw_pc0254_01.row.prog w) A E use Q (.ref D) C (.ok .next) { s with heap := h', toks := tk }) :
    wpAny (model PySem.Challenge.rw_pc0254_01.row.prog w) A (pyIter (.str xt tx)) (fun it s₂ => CompAt w A env (.ListComp elt [⟨.Name x px, iter, ifs, 0⟩] scope pos) scope cl use Q E it s₂) E s := by
  have hlt : ∀ p ∈ news, p.1 < s.heap.objs.size := fun p hp => Heap.lt_size (N p hp).1
  have main : ∀ (o : Obj) (St : Nat → Heap → Prop), Src PySem.Challenge.rw_pc0254_01.row.prog w A s.heap.objs.size [s.heap.objs.size] xt.cps.size (SignAt xt) St → St 0 (s.heap.push o) →
      CompAt w A env (.ListComp elt [⟨.Name x px, iter, ifs, 0⟩] scope pos) scope cl use Q E (.ref s.heap.objs.size) { s with heap := s.heap.push o } := by
    intro o St S hst
    refine m_compAt Led vis rest adrs J S hsz hst (fun b hb => ?_) (F.push _) (fun p hp => ⟨Heap.get?_push_of_some _ (N p hp).1, (N p hp).2⟩) X T (fun p hp => Nat.ne_of_lt (hlt p hp)) hcell hkind hx
      (fun p hp => ⟨hvis p hp, fun q => absurd (hlt p (hvis p hp)) (by rw [List.mem_singleton.mp q]; exact Nat.lt_irrefl _)⟩) start hadr ?_ hrest hacc ?_ done
    · rw [List.mem_singleton.mp hb]
      exact ⟨by show s.heap.objs.size < (s.heap.push _).objs.size; rw [Heap.size_push]; exact Nat.lt_succ_self _, fresh_of F, fun (q : s.heap.objs.size = L) => absurd F.ns.lt (by rw [q]; exact Nat.lt_irrefl _)⟩
    · obtain ⟨c₀, a, b⟩ := start
      intro ad ha q
      rw [← hadr 0 #[] c₀ b] at ha
      obtain ⟨p, hp, e⟩ := List.mem_map.mp ha
      have := hlt p (a p hp)
      rw [e, List.mem_singleton.mp q] at this
      exact Nat.lt_irrefl _ this
    · rintro g C i v c acc u h tk own hin ⟨n, t, hn, rfl⟩ hJ hs X' T' F' N'
      exact turn g C i n t c acc u h tk own hn hJ hs X' T' F' N'
  cases ha : xt.cps.all (· < 128)
  · refine wpAny_pyIter_wide ha (main _ _ ⟨Walks.strWide hh _ xt tx, fun i h st => ?_⟩ ⟨_, Heap.get?_push_size _ rfl, rfl, rfl⟩)
    obtain ⟨o, h1, _, h2⟩ := st
    exact ⟨o, _, h1, h2⟩
  · refine wpAny_pyIter_ascii ha (main _ _ ⟨Walks.strAscii hh _ xt tx, fun i h st => ?_⟩ ⟨_, Heap.get?_push_size _ rfl, rfl, rfl⟩)
    obtain ⟨o, h1, _, h2⟩ := st
    exact ⟨o, _, h1, h2⟩
theorem m_comp_list {σ : Type} {elt iter : Expr} {x : Str} {px : Pos} {ifs : List Expr} {scope : Scope} {cl : List (Str × Addr)} {pos : Pos} {use : Option (Value → Sem Unit)} {Q : Value → Shared → Prop} {E : Value → Shared → Prop} {l : Addr} {items : Array Value} {nn₀ : Nat}
    (Led : σ → List (Addr × Obj)) (vis rest : List (Addr × Obj)) (adrs : List Addr) (J : Nat → Array Value → σ → Prop)
    (hh : A.handled = none) (hsz : items.size ≤ sizeLine) (hl : (l, listOf items nn₀) ∈ news) (hlv : ∀ p ∈ vis, p.1 ≠ l) (hla : l ∉ adrs)
    (F : Fr h₀ L s.heap m) (N : News h₀ L s.heap news) (X : (hd.heap_39 w.params).In h₀) (T : Top hd.view_39 (looseW hd.view_39 []) mean mg mb h₀)
    (hcell : ∀ y ∈ scope.names, y.2 ≠ .cell) (hkind : scope.kind = .function) (hx : scope.names.lookup x = some .local)
    (hvis : ∀ p ∈ vis, p ∈ news) (start : ∃ c₀, (∀ p ∈ Led c₀, p ∈ news) ∧ J 0 #[] c₀)
    (hadr : ∀ i acc c, J i acc c → (Led c).map (·.1) = adrs) (hrest : ∀ p ∈ rest, p ∈ news ∧ p.1 ∉ adrs)
    (hacc : ∀ i acc c, J i acc c → acc.size ≤ i)
    (turn : ∀ (g : Heap) (C : Addr) i v c acc (u : Str → Option Value) h tk own, items[i]? = some v → J i acc c → (∀ q ∈ own, ∀ p ∈ Led c, q.1 ≠ p.1) → (hd.heap_39 w.params).In g → Top hd.view_39 (looseW hd.view_39 []) mean mg mb g →
      Fr g C h (fun y => if y = x then some v else u y) → News g C h (Led c ++ (vis ++ own)) →
      wpAny (model PySem.Challenge.rw_pc0254_01.row.prog w) A (forIn ifs true fun c r => if r = true then do let ok ← isTrue c (compEnvC scope cl C env) (eval c (compEnvC scope cl C env)); pure (ForInStep.yield ok) else pure (ForInStep.yield r))
        (fun ok s₃ => if ok = true then wpAny (model PySem.Challenge.rw_pc0254_01.row.prog w) A (eval elt (compEnvC scope cl C env)) (fun y s₄ => CompEnd g C { s with heap := h, toks := tk } Led (vis ++ own) (J (i + 1) (acc.push y)) s₄) (fun _ _ => False) s₃
          else CompEnd g C { s with heap := h, toks := tk } Led (vis ++ own) (J (i + 1) acc) s₃) (fun _ _ => False) { s with heap := h, toks := tk })
    (done : ∀ D C c acc nn h' tk, C ≠ L → (∀ p ∈ (D, listOf acc nn) :: (Led c ++ rest), p.1 ≠ C) → h₀.get? C = none → (∃ m', h'.Ns C m') → CompTold h₀ L m news Led rest (J items.size) D c acc nn h' → compPost (model PySem.Challenge.rw_pc0254_01.row.prog w) A E use Q (.ref D) C (.ok .next) { s with heap := h', toks := tk }) :
    wpAny (model PySem.Challenge.rw_pc0254_01.row.prog w) A (pyIter (.ref l)) (fun it s₂ => CompAt w A env (.ListComp elt [⟨.Name x px, iter, ifs, 0⟩] scope pos) scope cl use Q E it s₂) E s := by
  have hlt : ∀ p ∈ news, p.1 < s.heap.objs.size := fun p hp => Heap.lt_size (N p hp).1
  have hol : s.heap.get? l = some (listOf items nn₀) := (N _ hl).1
  have hls : s.heap.IsList l items := ⟨_, hol, rfl, nn₀, rfl⟩
  have hne : l ≠ s.heap.objs.size := Nat.ne_of_lt (Heap.lt_size hol)
  refine wpAny_pyIter_list hls ?_
  refine m_compAt Led vis rest adrs J ⟨Walks.list hh s.heap.objs.size l hne items, fun i h st => ?_⟩ hsz ⟨⟨_, Heap.get?_push_size _ rfl, rfl, rfl⟩, hls.at fun o e => Heap.get?_push_of_some _ e⟩ (fun b hb => ?_) (F.push _) (fun p hp => ⟨Heap.get?_push_of_some _ (N p hp).1, (N p hp).2⟩) X T (fun p hp => Nat.ne_of_lt (hlt p hp)) hcell hkind hx
    (fun p hp => ⟨hvis p hp, fun q => ?_⟩) start hadr ?_ hrest hacc ?_ done
  · obtain ⟨⟨o, h1, _, h2⟩, _⟩ := st
    exact ⟨o, _, h1, h2⟩
  · rcases List.mem_cons.mp hb with hb | hb
    · rw [hb]
      exact ⟨by show s.heap.objs.size < (s.heap.push _).objs.size; rw [Heap.size_push]; exact Nat.lt_succ_self _, fresh_of F, fun (q : s.heap.objs.size = L) => absurd F.ns.lt (by rw [q]; exact Nat.lt_irrefl _)⟩
    · rw [List.mem_singleton.mp hb]
      exact ⟨by show l < (s.heap.push _).objs.size; rw [Heap.size_push]; exact Nat.lt_succ_of_lt (Heap.lt_size hol), (N _ hl).2.2, (N _ hl).2.1⟩
  · rcases List.mem_cons.mp q with q | q
    · exact absurd (hlt p (hvis p hp)) (by rw [q]; exact Nat.lt_irrefl _)
    · exact hlv p hp (List.mem_singleton.mp q)
  · obtain ⟨c₀, a, b⟩ := start
    intro ad ha q
    rcases List.mem_cons.mp q with q | q
    · rw [← hadr 0 #[] c₀ b] at ha
      obtain ⟨p, hp, e⟩ := List.mem_map.mp ha
      have := hlt p (a p hp)
      rw [e, q] at this
      exact Nat.lt_irrefl _ this
    · exact hla (List.mem_singleton.mp q ▸ ha)
  · rintro g C i v c acc u h tk own _ hP hJ hs X' T' F' N'
    exact turn g C i v c acc u h tk own hP hJ hs X' T' F' N'
end
section
variable {M : Model} {A : Around} {E : Value → Shared → Prop} {s : Shared} {K : Frag} {env : Env} {h₀ : Heap} {L : Addr} {m mg mb : Str → Option Value} {p : Program} {loose : List Str} {x : Str} {pos : Pos} {v : Value} {Q : Value → Shared → Prop} {news : List (Addr × Obj)} {c : Addr} {o : Obj}
theorem nameQ_L (F : Fr h₀ L s.heap m) (hL : env.locals = L) (hk : env.scope.kind = .function) (hx : env.kindOf x = some .local) (hv : m x = some v) (hd : (x == ("__debug__" : Str)) = false) (h : Q v s) :
    wpAny M A (eval (.Name x pos) env) Q E s := by
  subst hL
  exact wpAny_Name (wpAny_loadName_local hk hx F.ns hv h) hd
theorem nameQ_C (N : News h₀ L s.heap news) (hk : env.scope.kind = .function) (hx : env.kindOf x = some .cell) (hc : env.cells.lookup x = some c) (hm : (c, o) ∈ news) (hd : o.data = .cell (some v)) (hb : (x == ("__debug__" : Str)) = false) (h : Q v s) :
    wpAny M A (eval (.Name x pos) env) Q E s := wpAny_Name (wpAny_loadName_cell hk hx hc ⟨o, N.get hm, hd⟩ h) hb
theorem nameQ_K (F : Fr h₀ L s.heap m) (X : K.In h₀) (T : TopRead p loose mg mb h₀) (hg : env.globals = mainGlobals) (hk : env.scope.kind = .function) (hx : env.kindOf x = some .globalImplicit) (hd : (x == ("__debug__" : Str)) = false)
    (e : nsIn K mainGlobals x = some (some v)) (h : Q v s) : wpAny M A (eval (.Name x pos) env) Q E s :=
  Name_function_global hk hx (loadGlobal_global (env := env) (by rw [hg]; exact T.g.keeps F.keep) (mg_of X T.g e) h) hd
theorem nameQ_B (F : Fr h₀ L s.heap m) (X : K.In h₀) (T : TopRead p loose mg mb h₀) (hg : env.globals = mainGlobals) (hbi : env.builtins = builtinsNs) (hk : env.scope.kind = .function) (hx : env.kindOf x = some .globalImplicit) (hd : (x == ("__debug__" : Str)) = false)
    (e : nsIn K mainGlobals x = some none) (hv : bootBuiltins x = some v) (hn : x ≠ "__name__") (h : Q v s) : wpAny M A (eval (.Name x pos) env) Q E s :=
  Name_function_global hk hx (loadGlobal_builtin (env := env) (by rw [hg]; exact T.g.keeps F.keep) (mg_none_of X T.g e) (by rw [hbi]; exact T.b.keeps F.keep) ((T.builtins x hn).trans hv) h) hd
end
section
variable {prog : Program} {w : World} {A : Around} {E : Value → Shared → Prop} {s : Shared} {h₀ : Heap} {L : Addr} {m : Str → Option Value} {news : List (Addr × Obj)}
theorem my_min3 {a b c : Int} {t u x : Tok} {Q : Value → Shared → Prop} (hh : A.handled = none) (F : Fr h₀ L s.heap m) (N : News h₀ L s.heap news)
    (h : ∀ t' h' tk, Fr h₀ L h' m → News h₀ L h' news → Q (.int (min (min a b) c) t') { s with heap := h', toks := tk }) :
    wpAny (model prog w) A (call (.builtin "min") [.int a t, .int b u, .int c x]) Q E s :=
  min_three_ints hh fun h' tk hk => by
    have := fun t' => h t' h' tk (F.grownK hk) (N.grown hk)
    by_cases h1 : b < a
    · rw [if_pos h1]
      rw [show min a b = b from by omega] at this
      by_cases h2 : c < b
      · rw [if_pos h2]; rw [show min b c = c from by omega] at this; exact this _
      · rw [if_neg h2]; rw [show min b c = b from by omega] at this; exact this _
    · rw [if_neg h1]
      rw [show min a b = a from by omega] at this
      by_cases h2 : c < a
      · rw [if_pos h2]; rw [show min a c = c from by omega] at this; exact this _
      · rw [if_neg h2]; rw [show min a c = a from by omega] at this; exact this _
theorem my_newList {vs : List Value} {Q : Value → Shared → Prop} (F : Fr h₀ L s.heap m) (N : News h₀ L s.heap news) (hz : vs.length ≤ sizeLine)
    (h : ∀ l h', Fr h₀ L h' m → News h₀ L h' ((l, listOf vs.toArray 0) :: news) → (∀ p ∈ news, p.1 < l) → Q (.ref l) { s with heap := h' }) : wpAny (model prog w) A (newList vs) Q E s :=
  newList_N (hsz := hz) F N fun h' F' N' => h _ h' F' N' fun p hp => Heap.lt_size (N p hp).1
theorem my_newTuple {vs : List Value} {Q : Value → Shared → Prop} (F : Fr h₀ L s.heap m) (N : News h₀ L s.heap news) (hz : vs.length ≤ sizeLine)
    (h : ∀ l h', Fr h₀ L h' m → News h₀ L h' ((l, { cls := .type "tuple", data := .seq vs.toArray }) :: news) → (∀ p ∈ news, p.1 < l) → Q (.ref l) { s with heap := h' }) : wpAny (model prog w) A (newTuple vs) Q E s :=
  newTuple_N (hsz := hz) F N fun h' F' N' => h _ h' F' N' fun p hp => Heap.lt_size (N p hp).1
theorem name_lt {a b : Addr} {P : Prop} (_ : a < b) (k : ∀ B, B = b → P) : P := k b rfl
end
end
section
section
variable {prog : Program} {w : World} {A : Around} {E : Value → Shared → Prop} {s : Shared} {h₀ : Heap} {L l : Addr} {m : Str → Option Value} {news : List (Addr × Obj)} {n : Nat}
theorem my_minL {vs : List Value} {ns : List Int} {Q : Value → Shared → Prop} (hh : A.handled = none) (F : Fr h₀ L s.heap m) (N : News h₀ L s.heap news) (hm : (l, listOf vs.toArray n) ∈ news) (hi : IntsAre vs ns) (hne : 0 < ns.length)
    (h : ∀ M t' h' tk, Fr h₀ L h' m → News h₀ L h' news → M ∈ ns → (∀ a ∈ ns, M ≤ a) → Q (.int M t') { s with heap := h', toks := tk }) :
    wpAny (model prog w) A (call (.builtin "min") [.ref l]) Q E s := by
  have hl : s.heap.IsList l vs.toArray := ⟨_, (N _ hm).1, rfl, n, rfl⟩
  obtain ⟨xs, hxs⟩ := hi.allInts.items
  rw [hxs] at hl
  have hns : xs.toList.map (·.1) = ns := by
    rw [← nums_intItems, ← hxs]
    exact hi.numsOf
  have hsz : 0 < xs.size := by
    have : ns.length = xs.size := by rw [← hns]; simp
    omega
  refine min_intList hh hl hsz fun v h' tk hv hk => ?_
  obtain ⟨t, rfl⟩ := intItems_at hv
  obtain ⟨h1, h2⟩ := argBest_lt (numAt xs) (xs.size - 1)
  refine h _ t h' tk (F.grownK hk) (N.grown hk) ?_ fun a ha => ?_
  · rw [numAt_eq, ← hns]; exact getD_mem (by rw [List.length_map, Array.length_toList]; omega)
  · rw [← hns] at ha
    obtain ⟨j, hj, rfl⟩ := mem_getD ha
    rw [List.length_map, Array.length_toList] at hj
    rw [← numAt_eq]; exact h2 j (by omega)
end
noncomputable def minOf : List Int → Int
  | [] => 0
  | x :: r => r.foldl min x
theorem minOf_eq {M : Int} {ns : List Int} (hM : M ∈ ns) (h : ∀ a ∈ ns, M ≤ a) : M = minOf ns := by
  have key : ∀ (r : List Int) (x : Int), (r.foldl min x) ∈ x :: r ∧ ∀ a ∈ x :: r, r.foldl min x ≤ a := by
    intro r
    induction r with
    | nil => intro x; exact ⟨List.mem_cons_self, fun a ha => by rw [List.mem_singleton.mp ha]; exact Int.le_refl _⟩
    | cons y r ih =>
      intro x
      obtain ⟨h1, h2⟩ := ih (min x y)
      rw [List.foldl_cons]
      have h3 := h2 (min x y) List.mem_cons_self
      refine ⟨?_, fun a ha => ?_⟩
      · rcases List.mem_cons.mp h1 with e | h1
        · rw [e]
          by_cases q : x ≤ y
          · rw [show min x y = x from by omega]; exact List.mem_cons_self
          · rw [show min x y = y from by omega]; exact List.mem_cons_of_mem _ List.mem_cons_self
        · exact List.mem_cons_of_mem _ (List.mem_cons_of_mem _ h1)
      · rcases List.mem_cons.mp ha with e | ha
        · omega
        · rcases List.mem_cons.mp ha with e | ha
          · omega
          · exact h2 a (List.mem_cons_of_mem _ ha)
  cases ns with
  | nil => cases hM
  | cons x r =>
    obtain ⟨h1, h2⟩ := key r x
    have h3 := h _ h1
    have h4 := h2 _ hM
    show M = r.foldl min x
    omega
theorem my_minF {prog : Program} {w : World} {A : Around} {E : Value → Shared → Prop} {s : Shared} {h₀ : Heap} {L l : Addr} {m : Str → Option Value} {news : List (Addr × Obj)} {n : Nat} {vs : List Value} {ns : List Int} {Q : Value → Shared → Prop} (hh : A.handled = none) (F : Fr h₀ L s.heap m) (N : News h₀ L s.heap news)
    (hm : (l, listOf vs.toArray n) ∈ news) (hi : IntsAre vs ns) (hne : ns ≠ [])
    (h : ∀ t' h' tk, Fr h₀ L h' m → News h₀ L h' news → Q (.int (minOf ns) t') { s with heap := h', toks := tk }) : wpAny (model prog w) A (call (.builtin "min") [.ref l]) Q E s :=
  my_minL hh F N hm hi (List.length_pos_iff.mpr hne) fun M t' h' tk F' N' hM hM2 => by rw [minOf_eq hM hM2]; exact h t' h' tk F' N'
section
variable {prog : Program} {w : World} {A : Around} {E : Value → Shared → Prop} {s : Shared} {h₀ : Heap} {L l e : Addr} {m : Str → Option Value} {news : List (Addr × Obj)} {n n' : Nat}
theorem my_neCons {x : Int} {t : Tok} {vs : List Value} {ns : List Int} {Q : Value → Shared → Prop} (N : News h₀ L s.heap news) (hm : (l, listOf (Value.int x t :: vs).toArray n) ∈ news) (he : (e, listOf [].toArray n') ∈ news) (hi : IntsAre vs ns) (hu : A.units + 64 < cLine)
    (h : Q (.bool true) s) : wpAny (model prog w) A (compareOp .NotEq (.ref l) (.ref e)) Q E s :=
  ne_intsK (vs := Value.int x t :: vs) (us := []) (N.isList hm) (.cons x t hi) (N.isList he) .nil hu (by simpa using h)
theorem my_neNil {Q : Value → Shared → Prop} (N : News h₀ L s.heap news) (hm : (l, listOf [].toArray n) ∈ news) (he : (e, listOf [].toArray n') ∈ news) (hu : A.units + 64 < cLine)
    (h : Q (.bool false) s) : wpAny (model prog w) A (compareOp .NotEq (.ref l) (.ref e)) Q E s :=
  ne_intsK (vs := []) (us := []) (N.isList hm) .nil (N.isList he) .nil hu (by simpa using h)
theorem my_neVs {vs us : List Value} {ns ms : List Int} {b : Bool} {Q : Value → Shared → Prop} (N : News h₀ L s.heap news) (hm : (l, listOf vs.toArray n) ∈ news) (he : (e, listOf us.toArray n') ∈ news) (hi : IntsAre vs ns) (hj : IntsAre us ms) (hu : A.units + 64 < cLine)
    (hb : (!decide (ns = ms)) = b) (h : Q (.bool b) s) : wpAny (model prog w) A (compareOp .NotEq (.ref l) (.ref e)) Q E s :=
  ne_intsK (N.isList hm) hi (N.isList he) hj hu (by rw [hb]; exact h)
end
noncomputable abbrev pairKind (w : World) : HeapKind PySem.Challenge.rw_pc0254_01.row.prog w (List Int) := tupleKind (intKind PySem.Challenge.rw_pc0254_01.row.prog w)
noncomputable abbrev tupI (i j : Int) (t u : Tok) : Obj := { cls := .type "tuple", data := .seq #[.int i t, .int j u] }
structure TK where
  ad : Addr
  i : Int
  j : Int
  ti : Tok
  tj : Tok
  v : Int
  tv : Tok
noncomputable def TK.ent (t : TK) : Addr × Obj := (t.ad, tupI t.i t.j t.ti t.tj)
noncomputable def TK.row (t : TK) : List Int × Addr × Value := ([t.i, t.j], t.ad, .int t.v t.tv)
noncomputable def DictIs (w : World) (o : Obj) (ks : List TK) : Prop :=
  o.ExactDict ∧ ∃ es ep, o.data = .dict es ep ∧ es.toList = (ks.map TK.row).map (entryOfKey (pairKind w)) ∧ ((ks.map TK.row).map (·.1)).Nodup
noncomputable def isD (o : Obj) : Bool := match o.data with
  | .dict .. => true
  | _ => false
structure HasT (ks : List TK) (i j v : Int) : Prop where
  h : ∃ t ∈ ks, t.i = i ∧ t.j = j ∧ t.v = v
section
variable {w : World} {A : Around} {E : Value → Shared → Prop} {s : Shared} {h₀ : Heap} {L T a : Addr} {m : Str → Option Value} {news : List (Addr × Obj)} {o : Obj} {ks : List TK}
theorem key_is {h : Heap} {i j : Int} {t u : Tok} (e : h.get? a = some (tupI i j t u)) : (pairKind w).is h [i, j] a :=
  ⟨_, _, _, e, rfl, rfl, .cons (by simp [intKind, Value.isInt]) (.cons (by simp [intKind, Value.isInt]) .nil)⟩
theorem DictIs.of (hD : DictIs w o ks) (N : News h₀ L s.heap news) (hT : (T, o) ∈ news) (hk : ∀ t ∈ ks, t.ent ∈ news) : s.heap.DictOfH (pairKind w) T (ks.map TK.row) := by
  obtain ⟨h1, es, ep, h2, h3, h4⟩ := hD
  refine ⟨o, es, ep, (N _ hT).1, h1, h2, h3, fun x hx => ?_, h4⟩
  obtain ⟨t, ht, rfl⟩ := List.mem_map.mp hx
  exact key_is (N _ (hk t ht)).1
theorem atKey_row {t : TK} (hn : ((ks.map TK.row).map (·.1)).Nodup) (ht : t ∈ ks) : atKey (ks.map TK.row) [t.i, t.j] = some (t.ad, .int t.v t.tv) := by
  obtain ⟨k, hk, e⟩ := List.getElem_of_mem ht
  exact atKey_of_get hn (i := k) (by rw [List.getElem?_map, List.getElem?_eq_getElem hk, e]; rfl)
theorem atKey_no {i j : Int} (h : ∀ t ∈ ks, ¬ (t.i = i ∧ t.j = j)) : atKey (ks.map TK.row) [i, j] = none := by
  refine atKey_none_of_get fun k p e => ?_
  rw [List.getElem?_map] at e
  obtain ⟨t, ht, e2⟩ := Option.map_eq_some_iff.mp e
  have h1 := h t (List.mem_of_getElem? ht)
  have h2 : [t.i, t.j] = [i, j] := congrArg (·.1) e2
  simp at h2
  exact h1 h2
theorem my_dget {value slice : Expr} {ops : List Value} {i j v : Int} {ti tj : Tok} {Q : Value → Shared → Prop} (N : News h₀ L s.heap news) (hD : DictIs w o ks) (hT : (T, o) ∈ news) (hk : ∀ t ∈ ks, t.ent ∈ news) (hkey : (a, tupI i j ti tj) ∈ news) (hu : A.units + 1 < cLine)
    (hf : HasT ks i j v) (h : ∀ t' tk, Q (.int v t') { s with toks := tk })
    (hs : subscripted slice false (.ref T) (.ref a) = operate ops (getItem (.ref T) (.ref a))) :
    wpAny (model PySem.Challenge.rw_pc0254_01.row.prog w) A (subscriptTail value slice (.ref T) (.ref a)) Q E s := by
  have hm := hD.of N hT hk
  obtain ⟨⟨t, ht, rfl, rfl, rfl⟩⟩ := hf
  obtain ⟨_, _, _, _, _, hn⟩ := hD
  exact tail_any hm.typeIs slot_dict_getitem.lookup (wpAny_getItem_heap (knd := pairKind w) (p := (t.ad, .int t.v t.tv)) hu (key_is (N _ hkey).1) hm (atKey_row hn ht) (h _ _)) hs
theorem my_dset {i j v : Int} {ti tj tv : Tok} {Q : Unit → Shared → Prop} (F : Fr h₀ L s.heap m) (N : News h₀ L s.heap news) (hD : DictIs w o ks) (hT : (T, o) ∈ news) (hk : ∀ t ∈ ks, t.ent ∈ news) (hkey : (a, tupI i j ti tj) ∈ news) (hu : A.units + 1 < cLine)
    (hf : ∀ t ∈ ks, ¬ (t.i = i ∧ t.j = j)) (hsz : ks.length ≤ sizeLine)
    (h : ∀ h' o' tk, Fr h₀ L h' m → (∀ p, p = (T, o') ∨ (p ∈ news ∧ (p.1 ≠ T ∨ isD p.2 = false)) → h'.get? p.1 = some p.2 ∧ p.1 ≠ L ∧ h₀.get? p.1 = none) → DictIs w o' (ks ++ [⟨a, i, j, ti, tj, v, tv⟩]) → Q () { s with heap := h', toks := tk }) :
    wpAny (model PySem.Challenge.rw_pc0254_01.row.prog w) A (setItem (.ref T) (.ref a) (.int v tv)) Q E s := by
  have hm := hD.of N hT hk
  refine wpAny_setItem_heap (knd := pairKind w) (hsz := by rw [List.length_map]; exact hsz) hu (key_is (N _ hkey).1) hm fun h' hm' hs' => ?_
  rw [storedH_new (atKey_no hf)] at hm'
  obtain ⟨o', es, ep, q1, q2, q3, q4, q5, q6⟩ := hm'
  have dD : isD o = true := by
    obtain ⟨_, es, ep, e, _⟩ := hD
    unfold isD; rw [e]
  refine h h' o' _ (F.change hs' (N _ hT).2.1 (N _ hT).2.2) ?_ ⟨q2, es, ep, q3, by rw [q4]; simp [TK.row], by simpa [TK.row] using q6⟩
  rintro p (rfl | ⟨hp, hne⟩)
  · exact ⟨q1, (N _ hT).2⟩
  · have : p.1 ≠ T := by
      rcases hne with h1 | h1
      · exact h1
      · intro e
        have e1 := (N _ hp).1
        rw [e, (N _ hT).1] at e1
        rw [← Option.some.inj e1, dD] at h1; cases h1
    exact ⟨(hs'.2 _ this).trans (N _ hp).1, (N _ hp).2⟩
theorem my_newDict {env : Env} {pos : Pos} {Q : Value → Shared → Prop} (F : Fr h₀ L s.heap m) (N : News h₀ L s.heap news)
    (h : ∀ T h' o, Fr h₀ L h' m → News h₀ L h' ((T, o) :: news) → (∀ p ∈ news, p.1 < T) → DictIs w o [] → Q (.ref T) { s with heap := h' }) : wpAny (model PySem.Challenge.rw_pc0254_01.row.prog w) A (eval (.Dict [] [] pos) env) Q E s :=
  wpAny_Dict_empty (h _ _ _ (F.push _) (News.push F N _) (fun p hp => Heap.lt_size (N p hp).1) ⟨⟨rfl, rfl, rfl⟩, #[], 0, rfl, rfl, List.nodup_nil⟩)
end
end
local macro_rules | `(tactic| k_all) => `(tactic| with_reducible assumption)
local macro_rules | `(tactic| kaf_suf) => `(tactic| first | exact sub_rfl | (refine sub_tl ?_; kaf_suf))
local macro_rules | `(tactic| kwd_less) => `(tactic| first | exact trivial | with_reducible assumption | exact Off.of (by with_reducible assumption) | exact Off.ofRaw (by with_reducible assumption) (by kaf_suf) | (refine' ⟨?a, ?b⟩; (case a => first | exact .inr rfl | (refine .inl ?_; (try dsimp only); first | with_reducible assumption | omega)); (case b => kwd_less)))
local macro_rules | `(tactic| tb_start) => `(tactic| first | (refine' UpdO.head ?a; (case a => kwd_less)) | (refine' UpdO.tail ?a ?b; (case a => first | exact .inr rfl | (refine .inl ?_; (try dsimp only); first | with_reducible assumption | omega)); (case b => tb_start)))
local macro_rules | `(tactic| walk_at "call builtin:list.append") => `(tactic| (k_dflt (refine' my_append ?F ?N ?U ?z ?_; (case F => k_asm); (case N => k_asm); (case U => tb_start); (case z => ((try simp only [PySem.sizeLine_eq, List.size_toArray, Array.size_push, List.length_append, List.length_map, List.length_reverse, List.length_cons, List.length_nil]); omega))); intro h' F' N'; (try simp only [List.push_toArray, List.nil_append, List.cons_append] at N'); (try k_sweep)))
local macro_rules | `(tactic| walk_at "call builtin:len") => `(tactic| (k_dflt (refine' my_len ?N ?m ?z ?_; (case N => k_asm); (case m => k_mem); (case z => ((try simp only [List.size_toArray, List.length_append, List.length_map, List.length_reverse, List.length_cons, List.length_nil]); omega))); intro t' tk'; (try simp only [List.size_toArray, List.length_append, List.length_map, List.length_reverse, List.length_cons, List.length_nil])))
local macro_rules | `(tactic| walk_at "call builtin:list.pop") => `(tactic| (k_dflt (refine' my_pop ?F ?N ?U ?z ?_; (case F => k_asm); (case N => k_asm); (case U => tb_start); (case z => ((try simp only [PySem.sizeLine_eq, List.length_append, List.length_map, List.length_reverse, List.length_cons, List.length_nil]); omega))); intro h' F' N'; (try k_sweep)))
local macro_rules | `(tactic| walk_at "eval Name") => `(tactic| (k_dflt (refine' nameQ_B ?F ?X ?T ?g ?gb ?k ?a ?d ?e ?v ?n ?_; (case g => rfl); (case gb => rfl); (case k => rfl); (case a => rfl); (case F => k_asm); (case X => k_asm); (case T => k_asm); (case d => decide); (case e => k_is); (case v => boot_fast); (case n => decide))))
local macro_rules | `(tactic| walk_at "eval Name") => `(tactic| (k_dflt (refine' nameQ_K ?F ?X ?T ?g ?k ?a ?d ?e ?_; (case g => rfl); (case k => rfl); (case a => rfl); (case F => k_asm); (case X => k_asm); (case T => k_asm); (case d => decide); (case e => k_is))))
local macro_rules | `(tactic| walk_at "eval Name") => `(tactic| (k_dflt (refine' nameQ_C ?N ?k ?a ?c ?m ?d ?b ?_; (case k => rfl); (case a => rfl); (case c => rfl); (case N => k_asm); (case m => k_mem); (case d => k_asm); (case b => decide))))
local macro_rules | `(tactic| walk_at "eval Name") => `(tactic| (k_dflt (refine' nameQ_L ?F ?l ?k ?a ?v ?d ?_; (case l => rfl); (case k => rfl); (case a => rfl); (case F => k_asm); (case v => rfl); (case d => decide))))
local macro_rules | `(tactic| k_mem) => `(tactic| with_reducible assumption)
local macro_rules | `(tactic| walk_at "subscriptTail") => `(tactic| ((with_reducible show wpAny _ _ (subscriptTail _ _ (Value.ref _) (Value.int _ _)) _ _ _); k_dflt (refine' my_itemI ?N ?m ?i ?z ?lt ?ft ?_ ?s ?g; (case N => k_asm); (case m => k_mem); (case i => assumption); (case z => omega); (case lt => omega); (case ft => omega); (case s => with_unfolding_all rfl); (case g => (intro _; with_unfolding_all rfl))); intro t'))
local macro_rules | `(tactic| walk_at "call builtin:min") => `(tactic| ((with_reducible show wpAny _ _ (call (Value.builtin _) [Value.int _ _, Value.int _ _, Value.int _ _]) _ _ _); k_dflt (refine' my_min3 ?hh ?F ?N ?_; (case hh => rfl); (case F => k_asm); (case N => k_asm)); intro t' h' tk' F' N'; (try k_sweep)))
local macro_rules | `(tactic| walk_at "newList") => `(tactic| (k_dflt (refine' my_newList ?F ?N ?z ?_; (case F => k_asm); (case N => k_asm); (case z => exact Nat.le_of_ble_eq_true rfl)); intro l' h' F' N' l1; have l2 := l1; (try k_lt l1); (try k_sweep)))
local macro_rules | `(tactic| walk_at "newTuple") => `(tactic| (k_dflt (refine' my_newTuple ?F ?N ?z ?_; (case F => k_asm); (case N => k_asm); (case z => exact Nat.le_of_ble_eq_true rfl)); intro l' h' F' N' l1; have l2 := l1; (try k_lt l1); (try k_sweep)))
section
noncomputable def cpl : List Nat → List Nat → Nat
  | a :: r, b :: t => if a = b then cpl r t + 1 else 0
  | _, _ => 0
theorem cpl_nil_left (l : List Nat) : cpl [] l = 0 := rfl
theorem cpl_nil_right (l : List Nat) : cpl l [] = 0 := by cases l <;> rfl
theorem cps_drop (a : Str) (n : Nat) (h : n < a.length) : a.cps.toList.drop n = a.cps.getD n 0 :: a.cps.toList.drop (n + 1) := by
  have h1 : n < a.cps.toList.length := by simpa [Str.length] using h
  rw [List.drop_eq_getElem_cons h1]
  congr 1
  simp [Array.getD, show n < a.cps.size from h]
theorem cps_drop_none (a : Str) (n : Nat) (h : a.length ≤ n) : a.cps.toList.drop n = [] := List.drop_eq_nil_of_le (by simpa [Str.length] using h)
theorem item_eq (a b : Str) (i j : Int) (h0 : 0 ≤ i) (h1 : i < a.length) (h2 : 0 ≤ j) (h3 : j < b.length) : (Txt.item a i == Txt.item b j) = decide (a.cps.getD i.toNat 0 = b.cps.getD j.toNat 0) := by
  rw [item_at h0 h1 rfl, item_at h2 h3 rfl]
  generalize a.cps.getD i.toNat 0 = p
  generalize b.cps.getD j.toNat 0 = q
  by_cases e : p = q
  · simp [e]
  · have : ¬ (⟨#[p]⟩ : Str) = ⟨#[q]⟩ := fun h => e (by injection h with h; simpa using h)
    rw [decide_eq_false e]
    exact beq_eq_false_iff_ne.mpr this
theorem len_cps (x : Str) : x.cps.toList.length = x.length := by simp [Str.length]
theorem sl_to (x : Str) (j : Nat) : (Txt.slice x none (some (j : Int))).cps.toList = x.cps.toList.take j := by
  have hl := len_cps x
  by_cases h : j ≤ x.length
  · have e := beq_iff_eq.mp (slice_closes_to (x := x) (j := (j : Int)) ⟨by omega, by omega⟩)
    rw [e]; simp
  · have e2 : Txt.slice x none (some (j : Int)) = Txt.slice x none (some ((x.length : Nat) : Int)) := by
      have e3 : Builtin.Str.strSliceIndices none (some (j : Int)) 1 x.length = Builtin.Str.strSliceIndices none (some ((x.length : Nat) : Int)) 1 x.length := by
        simp only [Builtin.Str.strSliceIndices, show ¬ ((j : Int) < 0) by omega, show ¬ (((x.length : Nat) : Int) < 0) by omega, if_false, show (1 : Int) > 0 by decide, if_true, Int.min_eq_right (show ((x.length : Nat) : Int) ≤ (j : Int) by omega), Int.min_self]
      unfold Txt.slice
      rw [e3]
    have e := beq_iff_eq.mp (slice_closes_to (x := x) (j := ((x.length : Nat) : Int)) ⟨by omega, by omega⟩)
    rw [e2, e]
    simp
    simp only [Str.length] at h ⊢
    omega
theorem sl_from (x : Str) (i : Nat) : (Txt.slice x (some (i : Int)) none).cps.toList = x.cps.toList.drop i := by
  have hl := len_cps x
  by_cases h : i ≤ x.length
  · have e := beq_iff_eq.mp (slice_closes_from (x := x) (i := (i : Int)) ⟨by omega, by omega⟩)
    rw [e]
    simp
    rw [List.take_of_length_le (by rw [List.length_drop]; simp)]
  · rw [slice_beyond (by omega), List.drop_eq_nil_of_le (by omega)]; rfl
theorem sl_seg (x : Str) (i j : Nat) (h : i ≤ j) (hj : j ≤ x.length) : (Txt.slice x (some (i : Int)) (some (j : Int))).cps.toList = (x.cps.toList.drop i).take (j - i) := by
  have hl := len_cps x
  have e := beq_iff_eq.mp (slice_closes (x := x) (i := (i : Int)) (j := (j : Int)) ⟨by omega, by omega, by omega⟩)
  rw [e]
  simp
noncomputable def comTo (a b : Str) (i j k : Int) : Prop := 0 ≤ k ∧ i + k ≤ max i a.length ∧ cpl (a.cps.toList.drop i.toNat) (b.cps.toList.drop j.toNat) = k.toNat + cpl (a.cps.toList.drop (i + k).toNat) (b.cps.toList.drop (j + k).toNat)
theorem comTo_step {a b : Str} {i j k : Int} (hi : 0 ≤ i) (hj : 0 ≤ j) (h : comTo a b i j k) (h1 : i + k < a.length) (h2 : j + k < b.length) (e : (Txt.item a (i + k) == Txt.item b (j + k)) = true) : comTo a b i j (k + 1) := by
  obtain ⟨hk, hm, hc⟩ := h
  clear hm
  refine ⟨by omega, Int.le_trans (show i + (k + 1) ≤ (a.length : Int) by omega) (Int.le_max_right _ _), ?_⟩
  rw [item_eq a b _ _ (by omega) h1 (by omega) h2, decide_eq_true_eq] at e
  rw [hc, cps_drop a _ (by omega), cps_drop b _ (by omega), cpl, if_pos e, show (k + 1).toNat = k.toNat + 1 from by omega, show (i + (k + 1)).toNat = (i + k).toNat + 1 from by omega, show (j + (k + 1)).toNat = (j + k).toNat + 1 from by omega]
  omega
theorem comTo_no {a b : Str} {i j k : Int} (hi : 0 ≤ i) (hj : 0 ≤ j) (h : comTo a b i j k) (h1 : i + k < a.length) (h2 : j + k < b.length) (e : (Txt.item a (i + k) == Txt.item b (j + k)) = false) : k = (cpl (a.cps.toList.drop i.toNat) (b.cps.toList.drop j.toNat) : Int) := by
  obtain ⟨hk, hm, hc⟩ := h
  clear hm
  rw [item_eq a b _ _ (by omega) h1 (by omega) h2, decide_eq_false_iff_not] at e
  rw [hc, cps_drop a _ (by omega), cps_drop b _ (by omega), cpl, if_neg e]
  omega
theorem comTo_a {a b : Str} {i j k : Int} (h : comTo a b i j k) (h1 : ¬ i + k < a.length) : k = (cpl (a.cps.toList.drop i.toNat) (b.cps.toList.drop j.toNat) : Int) := by
  obtain ⟨hk, hm, hc⟩ := h
  rw [hc, cps_drop_none a _ (by omega), cpl_nil_left]
  omega
theorem comTo_b {a b : Str} {i j k : Int} (h : comTo a b i j k) (h1 : ¬ j + k < b.length) : k = (cpl (a.cps.toList.drop i.toNat) (b.cps.toList.drop j.toNat) : Int) := by
  obtain ⟨hk, hm, hc⟩ := h
  rw [hc, cps_drop_none b _ (by omega), cpl_nil_right]
  omega
theorem con_common_length (w : World) (a b : Str) (ta tb ti tj : Tok) (i j : Int) (hi : 0 ≤ i) (hj : 0 ≤ j) (ha : a.length < 1000) (hb : b.length < 1000) :
   Con w 88 1 20 [] [.str a ta, .int i ti, .str b tb, .int j tj] (fun v new => ∃ t, v = .int (cpl (a.cps.toList.drop i.toNat) (b.cps.toList.drop j.toNat)) t ∧ new = []) := by
  ((have hfill : ∀ P : Params, PySem.Challenge.rw_pc0254_01.row.prog = PySem.Challenge.rw_pc0254_01.row.prog ∧ hd.heap_39 P = hd.heap_39 P := fun _ => ⟨rfl, rfl⟩); revert hfill; k_fill; intro hfill; clear hfill)
  k_dflt (refine' con_enter (binds := [(Str.ofString "a", .str a ta), (Str.ofString "at", .int i ti), (Str.ofString "b", .str b tb), (Str.ofString "to", .int j tj)]) ?k6 ?k7 ?k9 ?kB ?k8 ?_ ?c5 ?c2 ?c3 ?c4; ((case k6 => k_is); (case k7 => k_is); (case k8 => decide); (case k9 => exact fun _ => BindsTo.of_eq rfl); (case c5 => decide); (case kB => exact locs rfl); (case c2 => exact rfl); (case c3 => exact rfl); (case c4 => exact rfl)))
  intro mean mg mb dp fr gd un s Q g L h₁ F N X T hdp hun hret
  k_fold
  (repeat' ((fail_if_success (with_reducible show wpAny _ _ (exec (Stmt.For _ _ _ _ _) _) _ _ _)); (fail_if_success (with_reducible show wpAny _ _ (exec (Stmt.While _ _ _ _) _) _ _ _)); (fail_if_success (with_reducible show wpAny _ _ (pyIter _) _ _ _)); first | (k_unfold; (try dsimp only)) | (walk1; (try dsimp only)) | (dsimp only; walk1) | fail "no step"))
  rename Fr _ _ _ _ => F1
  rename News _ _ _ _ => N1
  refine m_while (σ := Int × Tok) (fun _ => []) (fun c => [(Str.ofString "a", .str a ta), (Str.ofString "at", .int i ti), (Str.ofString "b", .str b tb), (Str.ofString "to", .int j tj), (Str.ofString "many", .int c.1 c.2)])
    (fun c => comTo a b i j c.1) (fun c => (a.length - i - c.1).toNat) F1 N1 ?start ?turn
  case start =>
    exact ⟨(0, _), List.forall_mem_nil _, ⟨rfl, rfl, rfl, rfl, rfl, trivial⟩, by show comTo a b i j 0; exact ⟨by omega, by omega, by simp⟩⟩
  rintro ⟨k, tk'⟩ u h tk hc F' N'
  replace hc : comTo a b i j k := hc
  have hk := hc.1
  clear F1 N1
  dsimp only [kstB] at F'
  (try k_fold)
  (repeat' ((fail_if_success (with_reducible show wpAny _ _ (exec (Stmt.For _ _ _ _ _) _) _ _ _)); (fail_if_success (with_reducible show wpAny _ _ (exec (Stmt.While _ _ _ _) _) _ _ _)); (fail_if_success (with_reducible show wpAny _ _ (pyIter _) _ _ _)); first | (k_unfold; (try dsimp only)) | (walk1; (try dsimp only)) | (dsimp only; walk1) | fail "no step"))
  · rename Fr _ _ _ _ => F2
    rename News _ _ _ _ => N2
    rename (Txt.item _ _ == Txt.item _ _) = true => e
    refine' WhEnd.intro (k + 1, _) F2 N2 (List.forall_mem_nil _) ⟨rfl, rfl, rfl, rfl, rfl, trivial⟩ (comTo_step hi hj hc (by assumption) (by assumption) e) ?_
    show (a.length - i - (k + 1)).toNat < (a.length - i - k).toNat
    omega
  · rename (Txt.item _ _ == Txt.item _ _) = false => e
    exact hret _ [] _ _ _ _ F' N' (List.forall_mem_nil _) ⟨_, congrArg (Value.int · _) (comTo_no hi hj hc (by assumption) (by assumption) e), rfl⟩
  · exact hret _ [] _ _ _ _ F' N' (List.forall_mem_nil _) ⟨_, congrArg (Value.int · _) (comTo_b hc (by assumption)), rfl⟩
  · exact hret _ [] _ _ _ _ F' N' (List.forall_mem_nil _) ⟨_, congrArg (Value.int · _) (comTo_a hc (by assumption)), rfl⟩
end
section
noncomputable abbrev Best := Nat × Nat × Nat
noncomputable def better (best : Best) (i j k : Nat) : Best := if best.2.2 < k then (i, j, k) else best
noncomputable def scanRow (a b : List Nat) (i : Nat) (n : Nat) (best : Best) : Best := (List.range n).foldl (fun best j => better best i j (cpl (a.drop i) (b.drop j))) best
noncomputable def scanAll (a b : List Nat) (n : Nat) : Best := (List.range n).foldl (fun best i => scanRow a b i b.length best) (0, 0, 0)
noncomputable def piece (a b : List Nat) : Best := scanAll a b a.length
theorem scanRow_succ (a b : List Nat) (i n : Nat) (best : Best) : scanRow a b i (n + 1) best = better (scanRow a b i n best) i n (cpl (a.drop i) (b.drop n)) := by
  simp [scanRow, List.range_succ, List.foldl_append]
theorem scanAll_succ (a b : List Nat) (n : Nat) : scanAll a b (n + 1) = scanRow a b n b.length (scanAll a b n) := by
  simp [scanAll, List.range_succ, List.foldl_append]
noncomputable abbrev tup3 (x y z : Int) (t1 t2 t3 : Tok) : Obj := { cls := .type "tuple", data := .seq #[.int x t1, .int y t2, .int z t3] }
structure BestAt where
  best : Best
  ad : Addr
  t1 : Tok
  t2 : Tok
  t3 : Tok
noncomputable abbrev BestAt.led (c : BestAt) : List (Addr × Obj) := [(c.ad, tup3 c.best.1 c.best.2.1 c.best.2.2 c.t1 c.t2 c.t3)]
theorem con_common_piece (w : World) (a b : Str) (ta tb : Tok) (ha : a.length < 1000) (hb : b.length < 1000) :
   Con w 95 2 40 [] [.str a ta, .str b tb] (fun v new => ∃ c : BestAt, c.best = piece a.cps.toList b.cps.toList ∧ v = .ref c.ad ∧ new = c.led) := by
  ((have hfill : ∀ P : Params, PySem.Challenge.rw_pc0254_01.row.prog = PySem.Challenge.rw_pc0254_01.row.prog ∧ hd.heap_39 P = hd.heap_39 P := fun _ => ⟨rfl, rfl⟩); revert hfill; k_fill; intro hfill; clear hfill)
  k_dflt (refine' con_enter (binds := [(Str.ofString "a", .str a ta), (Str.ofString "b", .str b tb)]) ?k6 ?k7 ?k9 ?kB ?k8 ?_ ?c5 ?c2 ?c3 ?c4; ((case k6 => k_is); (case k7 => k_is); (case k8 => decide); (case k9 => exact fun _ => BindsTo.of_eq rfl); (case c5 => decide); (case kB => exact locs rfl); (case c2 => exact rfl); (case c3 => exact rfl); (case c4 => exact rfl)))
  intro mean mg mb dp fr gd un s Q g L h₁ F N X T hdp hun hret
  k_fold
  (repeat' ((fail_if_success (with_reducible show wpAny _ _ (exec (Stmt.For _ _ _ _ _) _) _ _ _)); (fail_if_success (with_reducible show wpAny _ _ (exec (Stmt.While _ _ _ _) _) _ _ _)); (fail_if_success (with_reducible show wpAny _ _ (pyIter _) _ _ _)); first | ((with_reducible show wpAny _ _ (call (Value.ref _) _) _ _ _); k_dflt (refine' con_useI ?zC ?zF ?zN ?zX ?zT ?zhA ?zhd ?zhu ?_); (case zC => exact con_common_length _ _ _ _ _ _ _ _ _ (by omega) (by omega) (by omega) (by omega)); (case zF => k_asm); (case zN => k_asm); (case zX => k_asm); (case zT => k_asm); (case zhA => rfl); (case zhd => first | exact room_b (by with_reducible assumption) rfl | exact room_a (by with_reducible assumption) rfl | omega | (simp only [Around.deeper, Around.in1]; omega)); (case zhu => first | exact room_b (by with_reducible assumption) rfl | exact room_a (by with_reducible assumption) rfl | omega | (simp only [Around.deeper, Around.in1]; omega)); intro _ _ _ _ _; (try k_sweep); (try dsimp only)) | (k_unfold; (try dsimp only)) | (walk1; (try dsimp only)) | (dsimp only; walk1) | fail "no step"))
  refine For_invV g rfl rfl ?_
  (repeat' ((fail_if_success (with_reducible show wpAny _ _ (exec (Stmt.For _ _ _ _ _) _) _ _ _)); (fail_if_success (with_reducible show wpAny _ _ (exec (Stmt.While _ _ _ _) _) _ _ _)); (fail_if_success (with_reducible show wpAny _ _ (pyIter _) _ _ _)); first | ((with_reducible show wpAny _ _ (call (Value.ref _) _) _ _ _); k_dflt (refine' con_useI ?zC ?zF ?zN ?zX ?zT ?zhA ?zhd ?zhu ?_); (case zC => exact con_common_length _ _ _ _ _ _ _ _ _ (by omega) (by omega) (by omega) (by omega)); (case zF => k_asm); (case zN => k_asm); (case zX => k_asm); (case zT => k_asm); (case zhA => rfl); (case zhd => first | exact room_b (by with_reducible assumption) rfl | exact room_a (by with_reducible assumption) rfl | omega | (simp only [Around.deeper, Around.in1]; omega)); (case zhu => first | exact room_b (by with_reducible assumption) rfl | exact room_a (by with_reducible assumption) rfl | omega | (simp only [Around.deeper, Around.in1]; omega)); intro _ _ _ _ _; (try k_sweep); (try dsimp only)) | (k_unfold; (try dsimp only)) | (walk1; (try dsimp only)) | (dsimp only; walk1) | fail "no step"))
  rename Fr _ _ _ _ => F1
  rename News _ _ _ _ => N1
  rename IsRange _ _ _ _ _ _ _ _ => R1
  refine m_range0 (σ := BestAt) BestAt.led (fun c => [(Str.ofString "a", .str a ta), (Str.ofString "b", .str b tb), (Str.ofString "best", .ref c.ad)])
    (fun i c => c.best = scanAll a.cps.toList b.cps.toList i) [] a.length rfl R1 (by omega) (by omega) (by omega) F1 N1 (List.forall_mem_nil _) ?start (fun _ _ _ => ⟨nofun, trivial⟩) ?turn ?done
  case start =>
    exact ⟨⟨(0, 0, 0), _, _, _, _⟩, fun _ hp => hp, ⟨rfl, rfl, rfl, trivial⟩, rfl⟩
  case done =>
    intro c u h tk hc F' N'
    replace hc : c.best = piece a.cps.toList b.cps.toList := hc
    clear F1 N1 R1
    dsimp only [kstB] at F'
    simp only [List.append_nil] at N'
    (repeat' ((fail_if_success (with_reducible show wpAny _ _ (exec (Stmt.For _ _ _ _ _) _) _ _ _)); (fail_if_success (with_reducible show wpAny _ _ (exec (Stmt.While _ _ _ _) _) _ _ _)); (fail_if_success (with_reducible show wpAny _ _ (pyIter _) _ _ _)); first | ((with_reducible show wpAny _ _ (call (Value.ref _) _) _ _ _); k_dflt (refine' con_useI ?zC ?zF ?zN ?zX ?zT ?zhA ?zhd ?zhu ?_); (case zC => exact con_common_length _ _ _ _ _ _ _ _ _ (by omega) (by omega) (by omega) (by omega)); (case zF => k_asm); (case zN => k_asm); (case zX => k_asm); (case zT => k_asm); (case zhA => rfl); (case zhd => first | exact room_b (by with_reducible assumption) rfl | exact room_a (by with_reducible assumption) rfl | omega | (simp only [Around.deeper, Around.in1]; omega)); (case zhu => first | exact room_b (by with_reducible assumption) rfl | exact room_a (by with_reducible assumption) rfl | omega | (simp only [Around.deeper, Around.in1]; omega)); intro _ _ _ _ _; (try k_sweep); (try dsimp only)) | (k_unfold; (try dsimp only)) | (walk1; (try dsimp only)) | (dsimp only; walk1) | fail "no step"))
    exact hret _ _ _ _ _ _ F' N' (fun _ hp => hp) ⟨c, hc, rfl, rfl⟩
  case turn =>
    intro i t c u h tk own hi hc hs hk F' N'
    clear F1 N1 R1
    dsimp only [kstB] at F'
    (try k_fold)
    (repeat' ((fail_if_success (with_reducible show wpAny _ _ (exec (Stmt.For _ _ _ _ _) _) _ _ _)); (fail_if_success (with_reducible show wpAny _ _ (exec (Stmt.While _ _ _ _) _) _ _ _)); (fail_if_success (with_reducible show wpAny _ _ (pyIter _) _ _ _)); first | ((with_reducible show wpAny _ _ (call (Value.ref _) _) _ _ _); k_dflt (refine' con_useI ?zC ?zF ?zN ?zX ?zT ?zhA ?zhd ?zhu ?_); (case zC => exact con_common_length _ _ _ _ _ _ _ _ _ (by omega) (by omega) (by omega) (by omega)); (case zF => k_asm); (case zN => k_asm); (case zX => k_asm); (case zT => k_asm); (case zhA => rfl); (case zhd => first | exact room_b (by with_reducible assumption) rfl | exact room_a (by with_reducible assumption) rfl | omega | (simp only [Around.deeper, Around.in1]; omega)); (case zhu => first | exact room_b (by with_reducible assumption) rfl | exact room_a (by with_reducible assumption) rfl | omega | (simp only [Around.deeper, Around.in1]; omega)); intro _ _ _ _ _; (try k_sweep); (try dsimp only)) | (k_unfold; (try dsimp only)) | (walk1; (try dsimp only)) | (dsimp only; walk1) | fail "no step"))
    refine For_invV g rfl rfl ?_
    (repeat' ((fail_if_success (with_reducible show wpAny _ _ (exec (Stmt.For _ _ _ _ _) _) _ _ _)); (fail_if_success (with_reducible show wpAny _ _ (exec (Stmt.While _ _ _ _) _) _ _ _)); (fail_if_success (with_reducible show wpAny _ _ (pyIter _) _ _ _)); first | ((with_reducible show wpAny _ _ (call (Value.ref _) _) _ _ _); k_dflt (refine' con_useI ?zC ?zF ?zN ?zX ?zT ?zhA ?zhd ?zhu ?_); (case zC => exact con_common_length _ _ _ _ _ _ _ _ _ (by omega) (by omega) (by omega) (by omega)); (case zF => k_asm); (case zN => k_asm); (case zX => k_asm); (case zT => k_asm); (case zhA => rfl); (case zhd => first | exact room_b (by with_reducible assumption) rfl | exact room_a (by with_reducible assumption) rfl | omega | (simp only [Around.deeper, Around.in1]; omega)); (case zhu => first | exact room_b (by with_reducible assumption) rfl | exact room_a (by with_reducible assumption) rfl | omega | (simp only [Around.deeper, Around.in1]; omega)); intro _ _ _ _ _; (try k_sweep); (try dsimp only)) | (k_unfold; (try dsimp only)) | (walk1; (try dsimp only)) | (dsimp only; walk1) | fail "no step"))
    rename Fr _ _ _ _ => F1
    rename News _ _ _ _ => N1
    rename IsRange _ _ _ _ _ _ _ _ => R1
    refine m_range0 (σ := BestAt) BestAt.led (fun c => [(Str.ofString "a", .str a ta), (Str.ofString "b", .str b tb), (Str.ofString "best", .ref c.ad), (Str.ofString "at", .int (i : Int) t)])
      (fun j c' => c'.best = scanRow a.cps.toList b.cps.toList i j c.best) own b.length rfl R1 (by omega) (by omega) (by omega) F1 N1 (fun _ hp => List.mem_append_right _ hp) ?start (fun _ _ _ => ⟨nofun, trivial⟩) ?turn ?done
    case start =>
      exact ⟨c, fun _ hp => List.mem_append_left _ hp, ⟨rfl, rfl, rfl, rfl, trivial⟩, rfl⟩
    case done =>
      intro c' u h tk hc' F' N'
      clear F1 N1 R1
      dsimp only [kstB] at F'
      (repeat' ((fail_if_success (with_reducible show wpAny _ _ (exec (Stmt.For _ _ _ _ _) _) _ _ _)); (fail_if_success (with_reducible show wpAny _ _ (exec (Stmt.While _ _ _ _) _) _ _ _)); (fail_if_success (with_reducible show wpAny _ _ (pyIter _) _ _ _)); first | ((with_reducible show wpAny _ _ (call (Value.ref _) _) _ _ _); k_dflt (refine' con_useI ?zC ?zF ?zN ?zX ?zT ?zhA ?zhd ?zhu ?_); (case zC => exact con_common_length _ _ _ _ _ _ _ _ _ (by omega) (by omega) (by omega) (by omega)); (case zF => k_asm); (case zN => k_asm); (case zX => k_asm); (case zT => k_asm); (case zhA => rfl); (case zhd => first | exact room_b (by with_reducible assumption) rfl | exact room_a (by with_reducible assumption) rfl | omega | (simp only [Around.deeper, Around.in1]; omega)); (case zhu => first | exact room_b (by with_reducible assumption) rfl | exact room_a (by with_reducible assumption) rfl | omega | (simp only [Around.deeper, Around.in1]; omega)); intro _ _ _ _ _; (try k_sweep); (try dsimp only)) | (k_unfold; (try dsimp only)) | (walk1; (try dsimp only)) | (dsimp only; walk1) | fail "no step"))
      refine ForEnd.intro c' F' N' (fun _ hp => List.mem_append_left _ hp) (fun _ hp => List.mem_append_right _ hp) ⟨rfl, rfl, rfl, trivial⟩ ?_
      show c'.best = scanAll a.cps.toList b.cps.toList (i + 1)
      rw [scanAll_succ, ← hc, show b.cps.toList.length = b.length from by simp [Str.length]]
      exact hc'
    case turn =>
      intro j tj c' u h tk own' hj hc' hs' hk' F' N'
      clear F1 N1 R1
      dsimp only [kstB] at F'
      (try k_fold)
      (repeat' ((fail_if_success (with_reducible show wpAny _ _ (exec (Stmt.For _ _ _ _ _) _) _ _ _)); (fail_if_success (with_reducible show wpAny _ _ (exec (Stmt.While _ _ _ _) _) _ _ _)); (fail_if_success (with_reducible show wpAny _ _ (pyIter _) _ _ _)); first | ((with_reducible show wpAny _ _ (call (Value.ref _) _) _ _ _); k_dflt (refine' con_useI ?zC ?zF ?zN ?zX ?zT ?zhA ?zhd ?zhu ?_); (case zC => exact con_common_length _ _ _ _ _ _ _ _ _ (by omega) (by omega) (by omega) (by omega)); (case zF => k_asm); (case zN => k_asm); (case zX => k_asm); (case zT => k_asm); (case zhA => rfl); (case zhd => first | exact room_b (by with_reducible assumption) rfl | exact room_a (by with_reducible assumption) rfl | omega | (simp only [Around.deeper, Around.in1]; omega)); (case zhu => first | exact room_b (by with_reducible assumption) rfl | exact room_a (by with_reducible assumption) rfl | omega | (simp only [Around.deeper, Around.in1]; omega)); intro _ _ _ _ _; (try k_sweep); (try dsimp only)) | (k_unfold; (try dsimp only)) | (walk1; (try dsimp only)) | (dsimp only; walk1) | fail "no step"))
      · rename Fr _ _ _ _ => F2
        rename News _ _ _ _ => N2
        rename _ < _ => hlt
        refine ForEnd.intro ⟨(i, j, cpl (a.cps.toList.drop i) (b.cps.toList.drop j)), _, _, _, _⟩ F2 N2 (sub_cons (List.Mem.head _) sub_nil) (sub_tl (sub_r sub_rfl)) ⟨rfl, rfl, rfl, rfl, trivial⟩ ?_
        · show (i, j, _) = scanRow a.cps.toList b.cps.toList i (j + 1) c.best
          rw [scanRow_succ, ← hc', better, if_pos (by simpa using hlt)]
      · rename Fr _ _ _ _ => F2
        rename News _ _ _ _ => N2
        rename ¬ _ < _ => hlt
        refine ForEnd.intro c' F2 N2 (fun _ hp => List.mem_append_left _ hp) (fun _ hp => List.mem_append_right _ hp) ⟨rfl, rfl, rfl, rfl, trivial⟩ ?_
        show c'.best = scanRow a.cps.toList b.cps.toList i (j + 1) c.best
        rw [scanRow_succ, ← hc', better, if_neg (by simpa using hlt)]
end
section
theorem cpl_le_left (a b : List Nat) : cpl a b ≤ a.length := by
  induction a generalizing b with
  | nil => simp [cpl]
  | cons x r ih =>
    cases b with
    | nil => simp [cpl]
    | cons y t =>
      simp only [cpl]; split
      · have := ih t; simp only [List.length_cons]; omega
      · omega
theorem cpl_comm (a b : List Nat) : cpl a b = cpl b a := by
  induction a generalizing b with
  | nil => cases b <;> rfl
  | cons x r ih =>
    cases b with
    | nil => rfl
    | cons y t =>
      simp only [cpl]
      by_cases e : x = y
      · rw [if_pos e, if_pos e.symm, ih]
      · rw [if_neg e, if_neg (fun h => e h.symm)]
theorem cpl_le_right (a b : List Nat) : cpl a b ≤ b.length := by rw [cpl_comm]; exact cpl_le_left b a
noncomputable def GoodBest (a b : List Nat) (p : Best) : Prop := p = (0, 0, 0) ∨ (p.2.2 = cpl (a.drop p.1) (b.drop p.2.1) ∧ 0 < p.2.2)
theorem GoodBest.in {a b : List Nat} {p : Best} (h : GoodBest a b p) : p.1 + p.2.2 ≤ a.length ∧ p.2.1 + p.2.2 ≤ b.length := by
  rcases h with rfl | ⟨h1, h2⟩
  · exact ⟨Nat.zero_le _, Nat.zero_le _⟩
  · have e1 := cpl_le_left (a.drop p.1) (b.drop p.2.1)
    have e2 := cpl_le_right (a.drop p.1) (b.drop p.2.1)
    rw [List.length_drop] at e1 e2
    omega
theorem better_good {a b : List Nat} {p : Best} (h : GoodBest a b p) (i j : Nat) : GoodBest a b (better p i j (cpl (a.drop i) (b.drop j))) := by
  unfold better; split
  · exact .inr ⟨rfl, by show 0 < cpl (a.drop i) (b.drop j); omega⟩
  · exact h
theorem scanRow_good {a b : List Nat} (i : Nat) : ∀ (n : Nat) {p : Best}, GoodBest a b p → GoodBest a b (scanRow a b i n p)
  | 0, _, h => h
  | n + 1, _, h => by rw [scanRow_succ]; exact better_good (scanRow_good i n h) i n
theorem scanAll_good {a b : List Nat} : ∀ (n : Nat), GoodBest a b (scanAll a b n)
  | 0 => .inl rfl
  | n + 1 => by rw [scanAll_succ]; exact scanRow_good n _ (scanAll_good n)
theorem piece_good (a b : List Nat) : GoodBest a b (piece a b) := scanAll_good _
noncomputable def simF : Nat → List Nat → List Nat → Nat
  | 0, _, _ => 0
  | n + 1, a, b => if (piece a b).2.2 = 0 then 0 else
      (piece a b).2.2 + simF n (a.take (piece a b).1) (b.take (piece a b).2.1) + simF n (a.drop ((piece a b).1 + (piece a b).2.2)) (b.drop ((piece a b).2.1 + (piece a b).2.2))
noncomputable def sim (a b : List Nat) : Nat := simF (a.length + 1) a b
theorem simF_any : ∀ (n k : Nat) (a b : List Nat), a.length < n → a.length < k → simF n a b = simF k a b
  | 0, _, _, _, h, _ => by omega
  | _, 0, _, _, _, h => by omega
  | n + 1, k + 1, a, b, h1, h2 => by
    have hin := (piece_good a b).in
    simp only [simF]
    split
    · rfl
    · rw [simF_any n k, simF_any n k] <;> (simp only [List.length_take, List.length_drop]; omega)
theorem sim_eq (a b : List Nat) : sim a b = if (piece a b).2.2 = 0 then 0 else
      (piece a b).2.2 + sim (a.take (piece a b).1) (b.take (piece a b).2.1) + sim (a.drop ((piece a b).1 + (piece a b).2.2)) (b.drop ((piece a b).2.1 + (piece a b).2.2)) := by
  have hin := (piece_good a b).in
  rw [sim, simF]
  split
  · rfl
  · rw [sim, sim, simF_any a.length (_ + 1), simF_any a.length (_ + 1)] <;> (simp only [List.length_take, List.length_drop]; omega)
noncomputable abbrev tupS (x y : Str) (t1 t2 : Tok) : Obj := { cls := .type "tuple", data := .seq #[.str x t1, .str y t2] }
structure TP where
  ad : Addr
  x : Str
  y : Str
  tx : Tok
  ty : Tok
noncomputable def TP.ent (t : TP) : Addr × Obj := (t.ad, tupS t.x t.y t.tx t.ty)
noncomputable def TP.ref (t : TP) : Value := .ref t.ad
noncomputable def simTot : List TP → Nat
  | [] => 0
  | t :: r => sim t.x.cps.toList t.y.cps.toList + simTot r
noncomputable def simMeas : List TP → Nat
  | [] => 0
  | t :: r => 2 * t.x.length + 1 + simMeas r
theorem simMeas_len : ∀ l : List TP, l.length ≤ simMeas l
  | [] => Nat.le_refl _
  | t :: r => by have := simMeas_len r; simp only [simMeas, List.length_cons]; omega
structure SimSt where
  P : Addr
  n : Nat
  ts : List TP
  many : Int
  tm : Tok
noncomputable def SimSt.led (c : SimSt) : List (Addr × Obj) := (c.P, listOf ((c.ts.reverse.map TP.ref).toArray) c.n) :: c.ts.map TP.ent
noncomputable def SimSt.ok (a b : Str) (c : SimSt) : Prop :=
  c.many + simTot c.ts = sim a.cps.toList b.cps.toList ∧ simMeas c.ts ≤ 2001 ∧ ∀ t ∈ c.ts, t.x.length < 1000 ∧ t.y.length < 1000
theorem off_ents (D : Addr) (l : List TP) : Off D (l.map TP.ent) := by
  induction l with
  | nil => trivial
  | cons a r ih => exact ⟨.inr rfl, ih⟩
theorem sim_zero {a b : Str} {P P' : Addr} {n n' : Nat} {t : TP} {ts : List TP} {many : Int} {tm tm' : Tok} (h : SimSt.ok a b ⟨P, n, t :: ts, many, tm⟩) (h0 : (piece t.x.cps.toList t.y.cps.toList).2.2 = 0) : SimSt.ok a b ⟨P', n', ts, many, tm'⟩ := by
  obtain ⟨h1, h2, h3⟩ := h
  simp only [simTot, simMeas] at h1 h2
  rw [sim_eq, if_pos h0] at h1
  exact ⟨by simp only []; omega, by simp only []; omega, fun t ht => h3 t (List.mem_cons_of_mem _ ht)⟩
theorem sim_more {a b : Str} {P P' : Addr} {n n' : Nat} {t t1 t2 : TP} {ts : List TP} {many : Int} {tm tm' : Tok} (h : SimSt.ok a b ⟨P, n, t :: ts, many, tm⟩) (p : Best) (hp : p = piece t.x.cps.toList t.y.cps.toList) (h0 : 0 < p.2.2)
    (e1 : t1.x.cps.toList = t.x.cps.toList.drop (p.1 + p.2.2)) (e2 : t1.y.cps.toList = t.y.cps.toList.drop (p.2.1 + p.2.2)) (e3 : t2.x.cps.toList = t.x.cps.toList.take p.1) (e4 : t2.y.cps.toList = t.y.cps.toList.take p.2.1) :
    SimSt.ok a b ⟨P', n', t1 :: t2 :: ts, many + (p.2.2 : Int), tm'⟩ ∧ simMeas (t1 :: t2 :: ts) < simMeas (t :: ts) := by
  obtain ⟨h1, h2, h3⟩ := h
  have hin := (piece_good t.x.cps.toList t.y.cps.toList).in
  rw [← hp, len_cps, len_cps] at hin
  have l1 : t1.x.length = t.x.length - (p.1 + p.2.2) := by rw [← len_cps, e1, List.length_drop, len_cps]
  have l2 : t1.y.length ≤ t.y.length := by rw [← len_cps, e2, List.length_drop, len_cps]; exact Nat.sub_le _ _
  have l3 : t2.x.length ≤ p.1 := by rw [← len_cps, e3, List.length_take, len_cps]; exact Nat.min_le_left _ _
  have l4 : t2.y.length ≤ t.y.length := by rw [← len_cps, e4, List.length_take, len_cps]; exact Nat.min_le_right _ _
  have ht := h3 t List.mem_cons_self
  have hm : simMeas (t1 :: t2 :: ts) < simMeas (t :: ts) := by
    have i1 := hin.1
    clear h1 h2 h3 hin l2 l4 ht
    simp only [simMeas]
    omega
  have q1 : t1.x.length ≤ t.x.length := by rw [l1]; exact Nat.sub_le _ _
  have q2 : t2.x.length ≤ t.x.length := Nat.le_trans l3 (Nat.le_trans (Nat.le_add_right _ _) hin.1)
  simp only [simTot] at h1
  rw [sim_eq, ← hp, if_neg (Nat.ne_of_gt h0)] at h1
  refine ⟨⟨?_, Nat.le_trans (Nat.le_of_lt hm) h2, fun u hu => ?_⟩, hm⟩
  · simp only [simTot]
    rw [e1, e2, e3, e4]
    clear hm l1 l2 l3 l4 ht hin h2 h3 q1 q2
    omega
  · rcases List.mem_cons.mp hu with rfl | hu
    · exact ⟨Nat.lt_of_le_of_lt q1 ht.1, Nat.lt_of_le_of_lt l2 ht.2⟩
    · rcases List.mem_cons.mp hu with rfl | hu
      · exact ⟨Nat.lt_of_le_of_lt q2 ht.1, Nat.lt_of_le_of_lt l4 ht.2⟩
      · exact h3 u (List.mem_cons_of_mem _ hu)
theorem con_similar (w : World) (a b : Str) (ta tb : Tok) (ha : a.length < 1000) (hb : b.length < 1000) :
   ConI w 102 3 60 [.str a ta, .str b tb] (sim a.cps.toList b.cps.toList) := by
  ((have hfill : ∀ P : Params, PySem.Challenge.rw_pc0254_01.row.prog = PySem.Challenge.rw_pc0254_01.row.prog ∧ hd.heap_39 P = hd.heap_39 P := fun _ => ⟨rfl, rfl⟩); revert hfill; k_fill; intro hfill; clear hfill)
  k_dflt (refine' con_enter (binds := [(Str.ofString "a", .str a ta), (Str.ofString "b", .str b tb)]) ?k6 ?k7 ?k9 ?kB ?k8 ?_ ?c5 ?c2 ?c3 ?c4; ((case k6 => k_is); (case k7 => k_is); (case k8 => decide); (case k9 => exact fun _ => BindsTo.of_eq rfl); (case c5 => decide); (case kB => exact locs rfl); (case c2 => exact rfl); (case c3 => exact rfl); (case c4 => exact rfl)))
  intro mean mg mb dp fr gd un s Q g L h₁ F N X T hdp hun hret
  k_fold
  (repeat' ((fail_if_success (with_reducible show wpAny _ _ (exec (Stmt.For _ _ _ _ _) _) _ _ _)); (fail_if_success (with_reducible show wpAny _ _ (exec (Stmt.While _ _ _ _) _) _ _ _)); (fail_if_success (with_reducible show wpAny _ _ (pyIter _) _ _ _)); first | (((with_reducible show wpAny _ _ (call (Value.ref _) _) _ _ _); (k_dflt (refine' con_use0 ?zC ?zF ?zN ?zX ?zT ?zhA ?zhd ?zhu ?_); (case zC => first | exact con_common_piece _ _ _ _ _ (by omega) (by omega) | exact con_common_length _ _ _ _ _ _ _ _ _ (by omega) (by omega) (by omega) (by omega)); (case zF => k_asm); (case zN => k_asm); (case zX => k_asm); (case zT => k_asm); (case zhA => rfl); (case zhd => first | exact room_b (by with_reducible assumption) rfl | exact room_a (by with_reducible assumption) rfl | omega | (simp only [Around.deeper, Around.in1]; omega)); (case zhu => first | exact room_b (by with_reducible assumption) rfl | exact room_a (by with_reducible assumption) rfl | omega | (simp only [Around.deeper, Around.in1]; omega)); intro _ _ _ _ _ N' hR'; obtain ⟨cB, hB, e1', e2'⟩ := hR'; subst e1' e2'; dsimp only [BestAt.led, List.cons_append, List.nil_append] at N'; (try k_sweep))); (try dsimp only)) | ((with_reducible show wpAny _ _ (call (Value.ref _) _) _ _ _); k_dflt (refine' con_useI ?zC ?zF ?zN ?zX ?zT ?zhA ?zhd ?zhu ?_); (case zC => first | exact con_common_piece _ _ _ _ _ (by omega) (by omega) | exact con_common_length _ _ _ _ _ _ _ _ _ (by omega) (by omega) (by omega) (by omega)); (case zF => k_asm); (case zN => k_asm); (case zX => k_asm); (case zT => k_asm); (case zhA => rfl); (case zhd => first | exact room_b (by with_reducible assumption) rfl | exact room_a (by with_reducible assumption) rfl | omega | (simp only [Around.deeper, Around.in1]; omega)); (case zhu => first | exact room_b (by with_reducible assumption) rfl | exact room_a (by with_reducible assumption) rfl | omega | (simp only [Around.deeper, Around.in1]; omega)); intro _ _ _ _ _; (try k_sweep); (try dsimp only)) | (k_unfold; (try dsimp only)) | (walk1; (try dsimp only)) | (dsimp only; walk1) | fail "no step"))
  rename Fr _ _ _ _ => F1
  rename News _ _ _ _ => N1
  refine m_while (σ := SimSt) SimSt.led (fun c => [(Str.ofString "many", .int c.many c.tm), (Str.ofString "pairs", .ref c.P)])
    (SimSt.ok a b) (fun c => simMeas c.ts) F1 N1 ?start ?turn
  case start =>
    refine ⟨⟨_, _, [⟨_, a, b, _, _⟩], 0, _⟩, sub_cons (List.Mem.head _) (sub_cons (List.Mem.tail _ (List.Mem.head _)) sub_nil), ⟨rfl, rfl, trivial⟩, ?_⟩
    refine ⟨?_, ?_, fun t ht => ?_⟩
    · simp [simTot]
    · simp only [simMeas]; omega
    · rw [List.mem_singleton.mp ht]; exact ⟨ha, hb⟩
  rintro ⟨P, n, ts, many, tm⟩ u h tk hc F' N'
  clear F1 N1
  dsimp only [kstB] at F'
  rcases ts with _ | ⟨t, ts⟩
  · replace N' : News g L h [(P, listOf #[] n)] := N'
    (try k_fold)
    (repeat' ((fail_if_success (with_reducible show wpAny _ _ (exec (Stmt.For _ _ _ _ _) _) _ _ _)); (fail_if_success (with_reducible show wpAny _ _ (exec (Stmt.While _ _ _ _) _) _ _ _)); (fail_if_success (with_reducible show wpAny _ _ (pyIter _) _ _ _)); first | (((with_reducible show wpAny _ _ (call (Value.ref _) _) _ _ _); (k_dflt (refine' con_use0 ?zC ?zF ?zN ?zX ?zT ?zhA ?zhd ?zhu ?_); (case zC => first | exact con_common_piece _ _ _ _ _ (by omega) (by omega) | exact con_common_length _ _ _ _ _ _ _ _ _ (by omega) (by omega) (by omega) (by omega)); (case zF => k_asm); (case zN => k_asm); (case zX => k_asm); (case zT => k_asm); (case zhA => rfl); (case zhd => first | exact room_b (by with_reducible assumption) rfl | exact room_a (by with_reducible assumption) rfl | omega | (simp only [Around.deeper, Around.in1]; omega)); (case zhu => first | exact room_b (by with_reducible assumption) rfl | exact room_a (by with_reducible assumption) rfl | omega | (simp only [Around.deeper, Around.in1]; omega)); intro _ _ _ _ _ N' hR'; obtain ⟨cB, hB, e1', e2'⟩ := hR'; subst e1' e2'; dsimp only [BestAt.led, List.cons_append, List.nil_append] at N'; (try k_sweep))); (try dsimp only)) | ((with_reducible show wpAny _ _ (call (Value.ref _) _) _ _ _); k_dflt (refine' con_useI ?zC ?zF ?zN ?zX ?zT ?zhA ?zhd ?zhu ?_); (case zC => first | exact con_common_piece _ _ _ _ _ (by omega) (by omega) | exact con_common_length _ _ _ _ _ _ _ _ _ (by omega) (by omega) (by omega) (by omega)); (case zF => k_asm); (case zN => k_asm); (case zX => k_asm); (case zT => k_asm); (case zhA => rfl); (case zhd => first | exact room_b (by with_reducible assumption) rfl | exact room_a (by with_reducible assumption) rfl | omega | (simp only [Around.deeper, Around.in1]; omega)); (case zhu => first | exact room_b (by with_reducible assumption) rfl | exact room_a (by with_reducible assumption) rfl | omega | (simp only [Around.deeper, Around.in1]; omega)); intro _ _ _ _ _; (try k_sweep); (try dsimp only)) | (k_unfold; (try dsimp only)) | (walk1; (try dsimp only)) | (dsimp only; walk1) | fail "no step"))
    refine hret _ [] _ _ _ _ F' N' sub_nil ⟨tm, congrArg (Value.int · tm) ?_, rfl⟩
    have := hc.1
    simp only [simTot] at this
    omega
  · have hl := simMeas_len (t :: ts)
    have hm := hc.2.1
    have hx := (hc.2.2 t List.mem_cons_self)
    have hoff := off_ents P ts
    have htl : ts.length < 3000 := by simp only [List.length_cons] at hl; dsimp only at hm; omega
    replace N' : News g L h ((P, listOf (((ts.reverse.map TP.ref) ++ [Value.ref t.ad]).toArray) n) :: (t.ad, tupS t.x t.y t.tx t.ty) :: ts.map TP.ent) := by
      simpa [SimSt.led, List.reverse_cons, List.map_append, TP.ent, TP.ref] using N'
    (try k_fold)
    (repeat' ((fail_if_success (with_reducible show wpAny _ _ (exec (Stmt.For _ _ _ _ _) _) _ _ _)); (fail_if_success (with_reducible show wpAny _ _ (exec (Stmt.While _ _ _ _) _) _ _ _)); (fail_if_success (with_reducible show wpAny _ _ (pyIter _) _ _ _)); first | (((with_reducible show wpAny _ _ (call (Value.ref _) _) _ _ _); (k_dflt (refine' con_use0 ?zC ?zF ?zN ?zX ?zT ?zhA ?zhd ?zhu ?_); (case zC => first | exact con_common_piece _ _ _ _ _ (by omega) (by omega) | exact con_common_length _ _ _ _ _ _ _ _ _ (by omega) (by omega) (by omega) (by omega)); (case zF => k_asm); (case zN => k_asm); (case zX => k_asm); (case zT => k_asm); (case zhA => rfl); (case zhd => first | exact room_b (by with_reducible assumption) rfl | exact room_a (by with_reducible assumption) rfl | omega | (simp only [Around.deeper, Around.in1]; omega)); (case zhu => first | exact room_b (by with_reducible assumption) rfl | exact room_a (by with_reducible assumption) rfl | omega | (simp only [Around.deeper, Around.in1]; omega)); intro _ _ _ _ _ N' hR'; obtain ⟨cB, hB, e1', e2'⟩ := hR'; subst e1' e2'; dsimp only [BestAt.led, List.cons_append, List.nil_append] at N'; (try k_sweep))); (try dsimp only)) | ((with_reducible show wpAny _ _ (call (Value.ref _) _) _ _ _); k_dflt (refine' con_useI ?zC ?zF ?zN ?zX ?zT ?zhA ?zhd ?zhu ?_); (case zC => first | exact con_common_piece _ _ _ _ _ (by omega) (by omega) | exact con_common_length _ _ _ _ _ _ _ _ _ (by omega) (by omega) (by omega) (by omega)); (case zF => k_asm); (case zN => k_asm); (case zX => k_asm); (case zT => k_asm); (case zhA => rfl); (case zhd => first | exact room_b (by with_reducible assumption) rfl | exact room_a (by with_reducible assumption) rfl | omega | (simp only [Around.deeper, Around.in1]; omega)); (case zhu => first | exact room_b (by with_reducible assumption) rfl | exact room_a (by with_reducible assumption) rfl | omega | (simp only [Around.deeper, Around.in1]; omega)); intro _ _ _ _ _; (try k_sweep); (try dsimp only)) | (k_unfold; (try dsimp only)) | (walk1; (try dsimp only)) | (dsimp only; walk1) | fail "no step"))
    · rename Fr _ _ _ _ => F2
      rename News _ _ _ _ => N2
      rename _ < _ => hlt
      rename BestAt => cB
      rename _ = piece _ _ => hB
      have hin := (piece_good t.x.cps.toList t.y.cps.toList).in
      have e1 := sl_from t.x (cB.best.1 + cB.best.2.2)
      have e2 := sl_from t.y (cB.best.2.1 + cB.best.2.2)
      have e3 := sl_to t.x cB.best.1
      have e4 := sl_to t.y cB.best.2.1
      rw [Int.natCast_add] at e1 e2
      refine WhEnd.intro ⟨P, n + 1 + 1 + 1, ⟨_, Txt.slice t.x (some (cB.best.1 + cB.best.2.2)) none, Txt.slice t.y (some (cB.best.2.1 + cB.best.2.2)) none, _, _⟩ :: ⟨_, Txt.slice t.x none (some cB.best.1), Txt.slice t.y none (some cB.best.2.1), _, _⟩ :: ts, many + cB.best.2.2, _⟩ F2 N2
        (sub_cons (List.Mem.tail _ (List.Mem.tail _ (List.Mem.tail _ (by simp only [List.reverse_cons, List.map_append, List.map_cons, List.map_nil, List.push_toArray, List.append_assoc, List.cons_append, List.nil_append]; exact List.Mem.head _))))
          (sub_cons (List.Mem.head _) (sub_cons (List.Mem.tail _ (List.Mem.head _)) (sub_tl (sub_tl (sub_tl (sub_tl (sub_tl sub_rfl)))))))) ⟨rfl, rfl, trivial⟩
        (sim_more (P' := P) (n' := n + 1 + 1 + 1) hc cB.best hB (by omega) e1 e2 e3 e4).1 (sim_more (P' := P) (n' := n + 1 + 1 + 1) (tm' := tm) hc cB.best hB (by omega) e1 e2 e3 e4).2
    · rename Fr _ _ _ _ => F2
      rename News _ _ _ _ => N2
      rename ¬ _ < _ => hlt
      rename BestAt => cB
      rename _ = piece _ _ => hB
      refine WhEnd.intro ⟨P, n + 1, ts, many, _⟩ F2 N2 (sub_cons (List.Mem.tail _ (List.Mem.head _)) (sub_tl (sub_tl (sub_tl sub_rfl)))) ⟨rfl, rfl, trivial⟩ (sim_zero hc (by rw [← hB]; omega)) ?_
      show simMeas ts < simMeas (t :: ts)
      simp only [simMeas]; omega
end
section
local macro_rules | `(tactic| k_mem) => `(tactic| assumption)
noncomputable def row0 (i : Int) (n : Nat) : List Int := (List.range n).map fun (k : Nat) => (k : Int) * i
theorem row0_succ (i : Int) (n : Nat) : row0 i (n + 1) = row0 i n ++ [(n : Int) * i] := by simp [row0, List.range_succ]
theorem ints_push {acc : Array Value} {ns : List Int} (h : IntsAre acc.toList ns) (n : Int) (t : Tok) : IntsAre (acc.push (.int n t)).toList (ns ++ [n]) := by
  rw [Array.toList_push]
  exact h.append (.cons n t .nil)
noncomputable def min3 (x y z : Int) : Int := min (min x y) z
noncomputable def stepRow (x : Nat) (b : List Nat) (i r d : Int) (row : List Int) : Nat → List Int
  | 0 => [row.getD 0 0 + d]
  | k + 1 => stepRow x b i r d row k ++ [min3 (row.getD k 0 + (if x = b.getD k 0 then 0 else r)) (row.getD (k + 1) 0 + d) ((stepRow x b i r d row k).getD k 0 + i)]
theorem stepRow_length (x : Nat) (b : List Nat) (i r d : Int) (row : List Int) (k : Nat) : (stepRow x b i r d row k).length = k + 1 := by
  induction k with
  | zero => rfl
  | succ k ih => rw [stepRow, List.length_append, ih]; rfl
noncomputable def rowsAt (a b : List Nat) (i r d : Int) (k : Nat) : List Int := (a.take k).foldl (fun row x => stepRow x b i r d row b.length) (row0 i (b.length + 1))
theorem rowsAt_succ {a b : List Nat} {i r d : Int} {k x : Nat} (h : a[k]? = some x) : rowsAt a b i r d (k + 1) = stepRow x b i r d (rowsAt a b i r d k) b.length := by
  rw [rowsAt, List.take_add_one, h]
  simp [rowsAt]
theorem rowsAt_length (a b : List Nat) (i r d : Int) (k : Nat) : (rowsAt a b i r d k).length = b.length + 1 := by
  unfold rowsAt
  rcases List.eq_nil_or_concat (a.take k) with h | ⟨l, x, h⟩
  · rw [h]; simp [row0]
  · rw [h]; simp [stepRow_length]
noncomputable def dist (a b : List Nat) (i r d : Int) : Int := if a = [] then b.length * i else if b = [] then a.length * d else (rowsAt a b i r d a.length).getD b.length 0
structure RowAt where
  ad : Addr
  n : Nat
  vs : List Value
  ns : List Int
noncomputable def RowAt.led (c : RowAt) : List (Addr × Obj) := [(c.ad, listOf c.vs.toArray c.n)]
theorem sign_item {x : Nat} {b : Str} {j : Nat} (hj : j < b.length) : ((⟨#[x]⟩ : Str) == Txt.item b (j : Int)) = decide (x = b.cps.toList.getD j 0) := by
  rw [item_at (by omega) (by omega) rfl]
  have e : b.cps.toList.getD j 0 = b.cps.getD ((j : Int).toNat) 0 := by simp
  rw [e]
  generalize b.cps.getD ((j : Int).toNat) 0 = q
  by_cases h : x = q
  · simp [h]
  · have : ¬ (⟨#[x]⟩ : Str) = ⟨#[q]⟩ := fun h' => h (by injection h' with h'; simpa using h')
    rw [decide_eq_false h]
    exact beq_eq_false_iff_ne.mpr this
theorem is_empty (a : Str) : (a == Str.ofString "") = decide (a.cps.toList = []) := by
  have e : Str.ofString "" = ⟨#[]⟩ := by decide +kernel
  rw [e]
  obtain ⟨⟨l⟩⟩ := a
  cases l with
  | nil => rfl
  | cons x r =>
    rw [decide_eq_false (by simp)]
    exact beq_eq_false_iff_ne.mpr (by simp)
theorem dist_a {a b : Str} {i r d : Int} (e : (a == Str.ofString "") = true) : (b.length : Int) * i = dist a.cps.toList b.cps.toList i r d := by
  rw [is_empty, decide_eq_true_eq] at e
  rw [dist, if_pos e, len_cps]
theorem dist_b {a b : Str} {i r d : Int} (e : (a == Str.ofString "") = false) (e' : (b == Str.ofString "") = true) : (a.length : Int) * d = dist a.cps.toList b.cps.toList i r d := by
  rw [is_empty, decide_eq_false_iff_not] at e
  rw [is_empty, decide_eq_true_eq] at e'
  rw [dist, if_neg e, if_pos e', len_cps]
theorem dist_ab {a b : Str} {i r d : Int} (e : (a == Str.ofString "") = false) (e' : (b == Str.ofString "") = false) : (rowsAt a.cps.toList b.cps.toList i r d a.cps.size).getD b.length 0 = dist a.cps.toList b.cps.toList i r d := by
  rw [is_empty, decide_eq_false_iff_not] at e e'
  rw [dist, if_neg e, if_neg e', len_cps, len_cps]
  rfl
theorem con_distance (w : World) (a b : Str) (ta tb ti tr td : Tok) (i r d : Int) (ha : a.length < 1000) (hb : b.length < 1000) :
   ConI w 114 2 60 [.str a ta, .str b tb, .int i ti, .int r tr, .int d td] (dist a.cps.toList b.cps.toList i r d) := by
  ((have hfill : ∀ P : Params, PySem.Challenge.rw_pc0254_01.row.prog = PySem.Challenge.rw_pc0254_01.row.prog ∧ hd.heap_39 P = hd.heap_39 P := fun _ => ⟨rfl, rfl⟩); revert hfill; k_fill; intro hfill; clear hfill)
  k_dflt (refine' con_enterC [(Str.ofString "a", .str a ta), (Str.ofString "b", .str b tb), (Str.ofString "insert", .int i ti), (Str.ofString "replace", .int r tr), (Str.ofString "delete", .int d td)] [(Str.ofString "delete", .int d td), (Str.ofString "replace", .int r tr), (Str.ofString "b", .str b tb), (Str.ofString "a", .str a ta)] (fun L => [(Str.ofString "insert", L + 1)]) ?k6 ?k7 ?k9 ?kB ?k8 ?nd ?lo ?cs ?_ ?c2 ?c3 ?c4; (case k6 => k_is); (case k7 => k_is); (case k8 => decide); (case k9 => exact fun _ => BindsTo.of_eq rfl); (case kB => exact rfl); (case nd => decide +kernel); (case lo => exact fun _ => rfl); (case cs => exact fun _ => rfl); (case c2 => exact rfl); (case c3 => exact rfl); (case c4 => exact rfl))
  intro mean mg mb dp fr gd un s Q g L h₁ tk cells F N Y hold X T hdp hun hret
  obtain ⟨oc, rfl, hoc⟩ := CellsAre.one Y
  replace hoc : oc.data = .cell (some (.int i ti)) := hoc
  clear Y
  dsimp only [kstB] at F
  simp only [List.append_nil] at N
  (try k_fold)
  (repeat' ((fail_if_success (with_reducible show wpAny _ _ (exec (Stmt.For _ _ _ _ _) _) _ _ _)); (fail_if_success (with_reducible show wpAny _ _ (exec (Stmt.While _ _ _ _) _) _ _ _)); (fail_if_success (with_reducible show wpAny _ _ (pyIter _) _ _ _)); (fail_if_success (with_reducible show wpAny _ _ (exec (Stmt.Assign _ (Expr.ListComp _ _ _ _) _) _) _ _ _)); (fail_if_success (with_reducible show wpAny _ _ (eval (Expr.ListComp _ _ _ _) _) _ _ _)); first | (k_unfold; (try dsimp only)) | (walk1; (try dsimp only)) | (dsimp only; walk1) | fail "no step"))
  · exact hret _ [] _ _ _ _ (by assumption) (by assumption) sub_nil ⟨_, congrArg (Value.int · _) (dist_a (by assumption)), rfl⟩
  · exact hret _ [] _ _ _ _ (by assumption) (by assumption) sub_nil ⟨_, congrArg (Value.int · _) (dist_b (by assumption) (by assumption)), rfl⟩
  refine m_AssignListComp (by with_unfolding_all rfl) (by with_unfolding_all rfl) rfl (by decide) ?_
  (repeat' ((fail_if_success (with_reducible show wpAny _ _ (exec (Stmt.For _ _ _ _ _) _) _ _ _)); (fail_if_success (with_reducible show wpAny _ _ (exec (Stmt.While _ _ _ _) _) _ _ _)); (fail_if_success (with_reducible show wpAny _ _ (pyIter _) _ _ _)); (fail_if_success (with_reducible show wpAny _ _ (exec (Stmt.Assign _ (Expr.ListComp _ _ _ _) _) _) _ _ _)); (fail_if_success (with_reducible show wpAny _ _ (eval (Expr.ListComp _ _ _ _) _) _ _ _)); first | (k_unfold; (try dsimp only)) | (walk1; (try dsimp only)) | (dsimp only; walk1) | fail "no step"))
  rename Fr _ _ _ _ => F1
  rename News _ _ _ _ => N1
  rename IsRange _ _ _ _ _ _ _ _ => R1
  refine m_comp_range (σ := Unit) (fun _ => []) [(L + 1, oc)] [(L + 1, oc)] [] (fun k acc _ => IntsAre acc.toList (row0 i k)) (b.length + 1) rfl R1 (by omega) (by omega) (by omega) (by omega) (by omega) (by rw [PySem.sizeLine_eq]; omega) F1 N1 X T (by decide) rfl rfl sub_rfl ⟨(), sub_nil, IntsAre.nil⟩ (fun _ _ _ _ => rfl) (fun p hp => ⟨hp, List.not_mem_nil⟩) ?acc ?turn ?done
  case acc =>
    intro k acc _ h
    have := h.length
    simp only [row0, List.length_map, List.length_range] at this
    simp at this
    omega
  case turn =>
    intro g' C k t _ acc u h tk own hk hJ hs X' T' F' N'
    clear F1 N1 R1
    simp only [List.nil_append, List.cons_append] at N'
    (try k_fold)
    (repeat' ((fail_if_success (with_reducible show wpAny _ _ (exec (Stmt.For _ _ _ _ _) _) _ _ _)); (fail_if_success (with_reducible show wpAny _ _ (exec (Stmt.While _ _ _ _) _) _ _ _)); (fail_if_success (with_reducible show wpAny _ _ (pyIter _) _ _ _)); (fail_if_success (with_reducible show wpAny _ _ (exec (Stmt.Assign _ (Expr.ListComp _ _ _ _) _) _) _ _ _)); (fail_if_success (with_reducible show wpAny _ _ (eval (Expr.ListComp _ _ _ _) _) _ _ _)); first | (k_unfold; (try dsimp only)) | (walk1; (try dsimp only)) | (dsimp only; walk1) | fail "no step"))
    rename Fr _ _ _ _ => F2
    rename News _ _ _ _ => N2
    refine CompEnd.intro () F2 N2 sub_nil sub_rfl ?_
    rw [row0_succ, Int.zero_add]
    exact ints_push hJ _ _
  case done =>
    rintro D C _ acc nn h' tk' hCL hled h0 hn ⟨F', N', hJ, hlt⟩
    refine compPost_some rfl hCL hled h0 hn rfl rfl F' N' ?_
    clear F' N' F1 N1 R1 hled hn h0
    intro h' tk' F' N'
    simp only [List.nil_append] at N'
    (repeat' ((fail_if_success (with_reducible show wpAny _ _ (exec (Stmt.For _ _ _ _ _) _) _ _ _)); (fail_if_success (with_reducible show wpAny _ _ (exec (Stmt.While _ _ _ _) _) _ _ _)); (fail_if_success (with_reducible show wpAny _ _ (pyIter _) _ _ _)); (fail_if_success (with_reducible show wpAny _ _ (exec (Stmt.Assign _ (Expr.ListComp _ _ _ _) _) _) _ _ _)); (fail_if_success (with_reducible show wpAny _ _ (eval (Expr.ListComp _ _ _ _) _) _ _ _)); first | (k_unfold; (try dsimp only)) | (walk1; (try dsimp only)) | (dsimp only; walk1) | fail "no step"))
    refine For_invV g rfl rfl ?_
    (repeat' ((fail_if_success (with_reducible show wpAny _ _ (exec (Stmt.For _ _ _ _ _) _) _ _ _)); (fail_if_success (with_reducible show wpAny _ _ (exec (Stmt.While _ _ _ _) _) _ _ _)); (fail_if_success (with_reducible show wpAny _ _ (pyIter _) _ _ _)); (fail_if_success (with_reducible show wpAny _ _ (exec (Stmt.Assign _ (Expr.ListComp _ _ _ _) _) _) _ _ _)); (fail_if_success (with_reducible show wpAny _ _ (eval (Expr.ListComp _ _ _ _) _) _ _ _)); first | (k_unfold; (try dsimp only)) | (walk1; (try dsimp only)) | (dsimp only; walk1) | fail "no step"))
    rename Fr _ _ _ _ => F1
    rename News _ _ _ _ => N1
    refine m_for_str (σ := RowAt) RowAt.led (fun c => [(Str.ofString "b", .str b tb), (Str.ofString "replace", .int r tr), (Str.ofString "delete", .int d td), (Str.ofString "row", .ref c.ad)])
      (fun k c => IntsAre c.vs c.ns ∧ c.ns = rowsAt a.cps.toList b.cps.toList i r d k) [(L + 1, oc)] rfl F1 N1 (sub_tl sub_rfl) ?start (fun _ _ _ => ⟨nofun, trivial⟩) ?turn ?done
    case start =>
      exact ⟨⟨_, _, _, _⟩, sub_cons (List.Mem.head _) sub_nil, ⟨rfl, rfl, rfl, rfl, trivial⟩, hJ, by rw [rowsAt]; simp [Str.length, row0]⟩
    case done =>
      rintro c u h tk ⟨hc1, hc2⟩ F' N'
      have hl := hc1.length
      have hlen : c.ns.length = b.length + 1 := by rw [hc2, rowsAt_length, len_cps]
      clear F1 N1
      dsimp only [kstB] at F'
      simp only [RowAt.led, List.nil_append, List.cons_append] at N'
      (repeat' ((fail_if_success (with_reducible show wpAny _ _ (exec (Stmt.For _ _ _ _ _) _) _ _ _)); (fail_if_success (with_reducible show wpAny _ _ (exec (Stmt.While _ _ _ _) _) _ _ _)); (fail_if_success (with_reducible show wpAny _ _ (pyIter _) _ _ _)); (fail_if_success (with_reducible show wpAny _ _ (exec (Stmt.Assign _ (Expr.ListComp _ _ _ _) _) _) _ _ _)); (fail_if_success (with_reducible show wpAny _ _ (eval (Expr.ListComp _ _ _ _) _) _ _ _)); first | (k_unfold; (try dsimp only)) | (walk1; (try dsimp only)) | (dsimp only; walk1) | fail "no step"))
      refine hret _ [] _ _ _ _ (by assumption) (by assumption) sub_nil ⟨_, congrArg (Value.int · _) ?_, rfl⟩
      rw [hc2, ← dist_ab (by assumption) (by assumption)]
      rfl
    case turn =>
      rintro k x t c u h tk own hx ⟨hc1, hc2⟩ hs hk F' N'
      have hlen : c.ns.length = b.length + 1 := by rw [hc2, rowsAt_length, len_cps]
      have hcell : (L + 1, oc) ∈ own := hk _ List.mem_cons_self
      clear F1 N1
      dsimp only [kstB] at F'
      simp only [RowAt.led, List.nil_append, List.cons_append] at N'
      (try k_fold)
      (repeat' ((fail_if_success (with_reducible show wpAny _ _ (exec (Stmt.For _ _ _ _ _) _) _ _ _)); (fail_if_success (with_reducible show wpAny _ _ (exec (Stmt.While _ _ _ _) _) _ _ _)); (fail_if_success (with_reducible show wpAny _ _ (pyIter _) _ _ _)); (fail_if_success (with_reducible show wpAny _ _ (exec (Stmt.Assign _ (Expr.ListComp _ _ _ _) _) _) _ _ _)); (fail_if_success (with_reducible show wpAny _ _ (eval (Expr.ListComp _ _ _ _) _) _ _ _)); first | (k_unfold; (try dsimp only)) | (walk1; (try dsimp only)) | (dsimp only; walk1) | fail "no step"))
      refine For_invV g rfl rfl ?_
      (repeat' ((fail_if_success (with_reducible show wpAny _ _ (exec (Stmt.For _ _ _ _ _) _) _ _ _)); (fail_if_success (with_reducible show wpAny _ _ (exec (Stmt.While _ _ _ _) _) _ _ _)); (fail_if_success (with_reducible show wpAny _ _ (pyIter _) _ _ _)); (fail_if_success (with_reducible show wpAny _ _ (exec (Stmt.Assign _ (Expr.ListComp _ _ _ _) _) _) _ _ _)); (fail_if_success (with_reducible show wpAny _ _ (eval (Expr.ListComp _ _ _ _) _) _ _ _)); first | (k_unfold; (try dsimp only)) | (walk1; (try dsimp only)) | (dsimp only; walk1) | fail "no step"))
      rename Fr _ _ _ _ => F1
      rename News _ _ _ _ => N1
      rename IsRange _ _ _ _ _ _ _ _ => R1
      rename _ ∧ AllLt _ _ => l1
      refine name_lt l1.1 fun B hB => ?_
      subst hB
      refine m_range0 (σ := RowAt) RowAt.led (fun c' => [(Str.ofString "b", .str b tb), (Str.ofString "replace", .int r tr), (Str.ofString "delete", .int d td), (Str.ofString "row", .ref c.ad), (Str.ofString "sign", .str ⟨#[x]⟩ t), (Str.ofString "below", .ref B)])
        (fun j c' => c'.ad = B ∧ IntsAre c'.vs c'.ns ∧ c'.ns = stepRow x b.cps.toList i r d c.ns j) ((c.ad, listOf c.vs.toArray c.n) :: own) b.length rfl R1 (by omega) (by omega) (by omega) F1 N1 (sub_tl sub_rfl) ?start (fun _ _ _ => ⟨nofun, trivial⟩) ?turn ?done
      case start =>
        exact ⟨⟨_, _, _, _⟩, sub_cons (List.Mem.head _) sub_nil, ⟨rfl, rfl, rfl, rfl, rfl, rfl, trivial⟩, rfl, .cons _ _ .nil, rfl⟩
      case done =>
        rintro ⟨B', n', vs', ns'⟩ u h tk ⟨hb0, hb1, hb2⟩ F' N'
        dsimp only at hb0 hb1 hb2
        subst hb0
        clear F1 N1 R1
        dsimp only [kstB] at F'
        simp only [RowAt.led, List.nil_append, List.cons_append] at N'
        (repeat' ((fail_if_success (with_reducible show wpAny _ _ (exec (Stmt.For _ _ _ _ _) _) _ _ _)); (fail_if_success (with_reducible show wpAny _ _ (exec (Stmt.While _ _ _ _) _) _ _ _)); (fail_if_success (with_reducible show wpAny _ _ (pyIter _) _ _ _)); (fail_if_success (with_reducible show wpAny _ _ (exec (Stmt.Assign _ (Expr.ListComp _ _ _ _) _) _) _ _ _)); (fail_if_success (with_reducible show wpAny _ _ (eval (Expr.ListComp _ _ _ _) _) _ _ _)); first | (k_unfold; (try dsimp only)) | (walk1; (try dsimp only)) | (dsimp only; walk1) | fail "no step"))
        rename Fr _ _ _ _ => F2
        rename News _ _ _ _ => N2
        refine ForEnd.intro ⟨B', n', vs', ns'⟩ F2 N2 (sub_cons (List.Mem.head _) sub_nil) (sub_tl (sub_tl sub_rfl)) ⟨rfl, rfl, rfl, rfl, trivial⟩ ⟨hb1, ?_⟩
        show ns' = _
        rw [hb2, hc2, rowsAt_succ (k := k) (x := x) (by simpa using hx), len_cps]
      case turn =>
        rintro j tj ⟨B', n', vs', ns'⟩ u h tk own' hj ⟨hb0, hb1, hb2⟩ hs' hk' F' N'
        dsimp only at hb0 hb1 hb2
        subst hb0
        have hrow : (c.ad, listOf c.vs.toArray c.n) ∈ own' := hk' _ List.mem_cons_self
        have hcell' : (L + 1, oc) ∈ own' := hk' _ (List.mem_cons_of_mem _ hcell)
        have hlen' : ns'.length = j + 1 := by rw [hb2, stepRow_length]
        have hvl := hb1.length
        have hoff : ∀ q ∈ own', q.1 ≠ B' := by
          intro q hq
          rcases hs' q hq with h1 | h1
          · rcases List.mem_cons.mp h1 with e | h1
            · rw [e]; exact Nat.ne_of_lt l1.1
            · exact Nat.ne_of_lt (ktn_ltOf l1.2 q h1)
          · exact h1 _ List.mem_cons_self
        clear F1 N1 R1 hs hs' hk hk'
        dsimp only [kstB] at F'
        simp only [RowAt.led, List.nil_append, List.cons_append] at N'
        (try k_fold)
        (repeat' ((fail_if_success (with_reducible show wpAny _ _ (exec (Stmt.For _ _ _ _ _) _) _ _ _)); (fail_if_success (with_reducible show wpAny _ _ (exec (Stmt.While _ _ _ _) _) _ _ _)); (fail_if_success (with_reducible show wpAny _ _ (pyIter _) _ _ _)); (fail_if_success (with_reducible show wpAny _ _ (exec (Stmt.Assign _ (Expr.ListComp _ _ _ _) _) _) _ _ _)); (fail_if_success (with_reducible show wpAny _ _ (eval (Expr.ListComp _ _ _ _) _) _ _ _)); first | (k_unfold; (try dsimp only)) | (walk1; (try dsimp only)) | (dsimp only; walk1) | fail "no step"))
        · rename Fr _ _ _ _ => F2
          rename News _ _ _ _ => N2
          rename (_ == Txt.item _ _) = true => e
          refine ForEnd.intro ⟨B', n' + 1, vs' ++ [_], ns' ++ [_]⟩ F2 N2 (sub_cons (List.Mem.head _) sub_nil) (sub_tl sub_rfl) ⟨rfl, rfl, rfl, rfl, rfl, rfl, trivial⟩ ⟨rfl, hb1.append (.cons _ _ .nil), ?_⟩
          dsimp only
          rw [stepRow, ← hb2, if_pos (by rw [sign_item hj] at e; simpa using e)]
          rfl
        · rename Fr _ _ _ _ => F2
          rename News _ _ _ _ => N2
          rename (_ == Txt.item _ _) = false => e
          refine ForEnd.intro ⟨B', n' + 1, vs' ++ [_], ns' ++ [_]⟩ F2 N2 (sub_cons (List.Mem.head _) sub_nil) (sub_tl sub_rfl) ⟨rfl, rfl, rfl, rfl, rfl, rfl, trivial⟩ ⟨rfl, hb1.append (.cons _ _ .nil), ?_⟩
          dsimp only
          rw [stepRow, ← hb2, if_neg (by rw [sign_item hj] at e; simpa using e)]
          rfl
end
section
theorem subE_tl {ks : List TK} {l : List (Addr × Obj)} {a : Addr × Obj} (h : ∀ t ∈ ks, t.ent ∈ l) : ∀ t ∈ ks, t.ent ∈ a :: l := fun t ht => List.mem_cons_of_mem _ (h t ht)
noncomputable def bst (i r d : Int) : List Nat → List Nat → Int
  | [], [] => 0
  | _ :: a, [] => bst i r d a [] + d
  | [], _ :: b => bst i r d [] b + i
  | x :: a, y :: b => min (min (bst i r d a (y :: b) + d) (bst i r d (x :: a) b + i)) (bst i r d a b + (if x = y then 0 else r))
termination_by a b => a.length + b.length
structure TabOk (a b : List Nat) (i r d : Int) (p q : Int) (ks : List TK) : Prop where
  done : ∀ p' q' : Nat, p' ≤ a.length → q' ≤ b.length → (p < p' ∨ (p = p' ∧ q < q')) → ∃ t ∈ ks, t.i = p' ∧ t.j = q' ∧ t.v = bst i r d (a.drop p') (b.drop q')
  only : ∀ t ∈ ks, p < t.i ∨ (t.i = p ∧ q < t.j)
structure BestSt where
  T : Addr
  o : Obj
  ks : List TK
noncomputable def BestSt.led (c : BestSt) : List (Addr × Obj) := (c.T, c.o) :: c.ks.map TK.ent
theorem ents_solid (ks : List TK) : AllSolid (ks.map TK.ent) := by
  induction ks with
  | nil => trivial
  | cons t r ih => exact ⟨nofun, ih⟩
theorem BestSt.solid {w : World} {c : BestSt} (h : DictIs w c.o c.ks) : AllSolid c.led := by
  refine ⟨?_, ents_solid _⟩
  obtain ⟨_, es, ep, e, _⟩ := h
  intro vs q
  dsimp only at q
  rw [e] at q; cases q
theorem ents_mem {ks : List TK} {own : List (Addr × Obj)} : ∀ t ∈ ks, t.ent ∈ ks.map TK.ent ++ own := fun _ ht => List.mem_append_left _ (List.mem_map_of_mem ht)
theorem con_law_best (w : World) (a b : Str) (ta tb ti tr td : Tok) (i r d : Int) (ha : a.length < 100) (hb : b.length < 100) :
   ConI w 289 1 80 [.str a ta, .str b tb, .int i ti, .int r tr, .int d td] (bst i r d a.cps.toList b.cps.toList) := by
  ((have hfill : ∀ P : Params, PySem.Challenge.rw_pc0254_01.row.prog = PySem.Challenge.rw_pc0254_01.row.prog ∧ hd.heap_39 P = hd.heap_39 P := fun _ => ⟨rfl, rfl⟩); revert hfill; k_fill; intro hfill; clear hfill)
  k_dflt (refine' con_enter (binds := [(Str.ofString "a", .str a ta), (Str.ofString "b", .str b tb), (Str.ofString "into", .int i ti), (Str.ofString "other", .int r tr), (Str.ofString "away", .int d td)]) ?k6 ?k7 ?k9 ?kB ?k8 ?_ ?c5 ?c2 ?c3 ?c4; ((case k6 => k_is); (case k7 => k_is); (case k8 => decide); (case k9 => exact fun _ => BindsTo.of_eq rfl); (case c5 => decide); (case kB => exact locs rfl); (case c2 => exact rfl); (case c3 => exact rfl); (case c4 => exact rfl)))
  intro mean mg mb dp fr gd un s Q g L h₁ F N X T hdp hun hret
  (try k_fold)
  (repeat' ((fail_if_success (with_reducible show wpAny _ _ (exec (Stmt.For _ _ _ _ _) _) _ _ _)); (fail_if_success (with_reducible show wpAny _ _ (exec (Stmt.While _ _ _ _) _) _ _ _)); (fail_if_success (with_reducible show wpAny _ _ (pyIter _) _ _ _)); (fail_if_success (with_reducible show wpAny _ _ (exec (Stmt.Assign _ (Expr.ListComp _ _ _ _) _) _) _ _ _)); (fail_if_success (with_reducible show wpAny _ _ (eval (Expr.ListComp _ _ _ _) _) _ _ _)); first | (((with_reducible show wpAny _ _ (compareOp CmpOp.NotEq (Value.ref _) (Value.ref _)) _ _ _); (k_dflt (refine' my_neVs ?zN ?zm ?zm2 ?zi ?zi2 ?zu ?zbb ?_; (case zN => k_asm); (case zm => k_mem); (case zm2 => k_mem); (case zi => (first | exact IntsAre.nil | exact IntsAre.cons _ _ IntsAre.nil | exact IntsAre.cons _ _ (IntsAre.cons _ _ IntsAre.nil) | exact IntsAre.cons _ _ (IntsAre.cons _ _ (IntsAre.cons _ _ IntsAre.nil)))); (case zi2 => (first | exact IntsAre.nil | exact IntsAre.cons _ _ IntsAre.nil | exact IntsAre.cons _ _ (IntsAre.cons _ _ IntsAre.nil) | exact IntsAre.cons _ _ (IntsAre.cons _ _ (IntsAre.cons _ _ IntsAre.nil)))); (case zu => (first | exact room_b (by with_reducible assumption) rfl | exact room_a (by with_reducible assumption) rfl | omega | (simp only [Around.deeper, Around.in1]; omega))); (case zbb => first | exact (rfl : _ = true) | exact (rfl : _ = false))))); (try dsimp only)) | (((with_reducible show wpAny _ _ (call (Value.builtin _) [Value.ref _]) _ _ _); k_dflt (refine' my_minF ?zhh ?zF ?zN ?zm ?zi ?zz ?_; (case zhh => rfl); (case zF => k_asm); (case zN => k_asm); (case zm => k_mem); (case zi => (first | exact IntsAre.nil | exact IntsAre.cons _ _ IntsAre.nil | exact IntsAre.cons _ _ (IntsAre.cons _ _ IntsAre.nil) | exact IntsAre.cons _ _ (IntsAre.cons _ _ (IntsAre.cons _ _ IntsAre.nil)))); (case zz => exact List.cons_ne_nil _ _)); intro _ _ _ _ _; (try k_sweep)); (try dsimp only)) | (((with_reducible show wpAny _ _ (eval (PySem.Expr.Dict [] [] _) _) _ _ _); (k_dflt (refine' my_newDict ?zF ?zN ?_; (case zF => k_asm); (case zN => k_asm)); intro _ _ _ _ _ l1 _; (try k_lt l1); (try k_sweep))); (try dsimp only)) | (((with_reducible show wpAny _ _ (setItem (Value.ref _) (Value.ref _) _) _ _ _); (k_dflt (refine' my_dset ?zF ?zN ?zD ?zT ?zk ?zkey ?zu ?zf ?zz ?_; (case zD => with_reducible assumption); (case zF => k_asm); (case zN => k_asm); (case zT => k_mem); (case zk => (repeat' (first | with_reducible assumption | refine subE_tl ?_))); (case zkey => k_mem); (case zu => (first | exact room_b (by with_reducible assumption) rfl | exact room_a (by with_reducible assumption) rfl | omega | (simp only [Around.deeper, Around.in1]; omega))); (case zf => with_reducible assumption); (case zz => (rw [PySem.sizeLine_eq]; omega))); intro _ _ _ _ _ _)); (try dsimp only)) | (((with_reducible show wpAny _ _ (subscriptTail _ _ (Value.ref _) (Value.ref _)) _ _ _); k_dflt (refine' my_dget ?zN ?zD ?zT ?zk ?zkey ?zu ?zf ?_ ?zs; (case zD => with_reducible assumption); (case zN => k_asm); (case zT => k_mem); (case zk => (repeat' (first | with_reducible assumption | refine subE_tl ?_))); (case zkey => k_mem); (case zu => (first | exact room_b (by with_reducible assumption) rfl | exact room_a (by with_reducible assumption) rfl | omega | (simp only [Around.deeper, Around.in1]; omega))); (case zf => with_reducible assumption); (case zs => with_unfolding_all rfl)); intro _ _); (try dsimp only)) | (k_unfold; (try dsimp only)) | (walk1; (try dsimp only)) | (dsimp only; walk1) | fail "no step"))
  refine For_invV g rfl rfl ?_
  (repeat' ((fail_if_success (with_reducible show wpAny _ _ (exec (Stmt.For _ _ _ _ _) _) _ _ _)); (fail_if_success (with_reducible show wpAny _ _ (exec (Stmt.While _ _ _ _) _) _ _ _)); (fail_if_success (with_reducible show wpAny _ _ (pyIter _) _ _ _)); (fail_if_success (with_reducible show wpAny _ _ (exec (Stmt.Assign _ (Expr.ListComp _ _ _ _) _) _) _ _ _)); (fail_if_success (with_reducible show wpAny _ _ (eval (Expr.ListComp _ _ _ _) _) _ _ _)); first | (((with_reducible show wpAny _ _ (compareOp CmpOp.NotEq (Value.ref _) (Value.ref _)) _ _ _); (k_dflt (refine' my_neVs ?zN ?zm ?zm2 ?zi ?zi2 ?zu ?zbb ?_; (case zN => k_asm); (case zm => k_mem); (case zm2 => k_mem); (case zi => (first | exact IntsAre.nil | exact IntsAre.cons _ _ IntsAre.nil | exact IntsAre.cons _ _ (IntsAre.cons _ _ IntsAre.nil) | exact IntsAre.cons _ _ (IntsAre.cons _ _ (IntsAre.cons _ _ IntsAre.nil)))); (case zi2 => (first | exact IntsAre.nil | exact IntsAre.cons _ _ IntsAre.nil | exact IntsAre.cons _ _ (IntsAre.cons _ _ IntsAre.nil) | exact IntsAre.cons _ _ (IntsAre.cons _ _ (IntsAre.cons _ _ IntsAre.nil)))); (case zu => (first | exact room_b (by with_reducible assumption) rfl | exact room_a (by with_reducible assumption) rfl | omega | (simp only [Around.deeper, Around.in1]; omega))); (case zbb => first | exact (rfl : _ = true) | exact (rfl : _ = false))))); (try dsimp only)) | (((with_reducible show wpAny _ _ (call (Value.builtin _) [Value.ref _]) _ _ _); k_dflt (refine' my_minF ?zhh ?zF ?zN ?zm ?zi ?zz ?_; (case zhh => rfl); (case zF => k_asm); (case zN => k_asm); (case zm => k_mem); (case zi => (first | exact IntsAre.nil | exact IntsAre.cons _ _ IntsAre.nil | exact IntsAre.cons _ _ (IntsAre.cons _ _ IntsAre.nil) | exact IntsAre.cons _ _ (IntsAre.cons _ _ (IntsAre.cons _ _ IntsAre.nil)))); (case zz => exact List.cons_ne_nil _ _)); intro _ _ _ _ _; (try k_sweep)); (try dsimp only)) | (((with_reducible show wpAny _ _ (eval (PySem.Expr.Dict [] [] _) _) _ _ _); (k_dflt (refine' my_newDict ?zF ?zN ?_; (case zF => k_asm); (case zN => k_asm)); intro _ _ _ _ _ l1 _; (try k_lt l1); (try k_sweep))); (try dsimp only)) | (((with_reducible show wpAny _ _ (setItem (Value.ref _) (Value.ref _) _) _ _ _); (k_dflt (refine' my_dset ?zF ?zN ?zD ?zT ?zk ?zkey ?zu ?zf ?zz ?_; (case zD => with_reducible assumption); (case zF => k_asm); (case zN => k_asm); (case zT => k_mem); (case zk => (repeat' (first | with_reducible assumption | refine subE_tl ?_))); (case zkey => k_mem); (case zu => (first | exact room_b (by with_reducible assumption) rfl | exact room_a (by with_reducible assumption) rfl | omega | (simp only [Around.deeper, Around.in1]; omega))); (case zf => with_reducible assumption); (case zz => (rw [PySem.sizeLine_eq]; omega))); intro _ _ _ _ _ _)); (try dsimp only)) | (((with_reducible show wpAny _ _ (subscriptTail _ _ (Value.ref _) (Value.ref _)) _ _ _); k_dflt (refine' my_dget ?zN ?zD ?zT ?zk ?zkey ?zu ?zf ?_ ?zs; (case zD => with_reducible assumption); (case zN => k_asm); (case zT => k_mem); (case zk => (repeat' (first | with_reducible assumption | refine subE_tl ?_))); (case zkey => k_mem); (case zu => (first | exact room_b (by with_reducible assumption) rfl | exact room_a (by with_reducible assumption) rfl | omega | (simp only [Around.deeper, Around.in1]; omega))); (case zf => with_reducible assumption); (case zs => with_unfolding_all rfl)); intro _ _); (try dsimp only)) | (k_unfold; (try dsimp only)) | (walk1; (try dsimp only)) | (dsimp only; walk1) | fail "no step"))
  rename Fr _ _ _ _ => F1
  rename News _ _ _ _ => N1
  rename IsRange _ _ _ _ _ _ _ _ => R1
  rename DictIs _ _ _ => hD0
  refine m_range_down (σ := BestSt) BestSt.led (fun c => [(Str.ofString "a", .str a ta), (Str.ofString "b", .str b tb), (Str.ofString "into", .int i ti), (Str.ofString "other", .int r tr), (Str.ofString "away", .int d td), (Str.ofString "table", .ref c.T)])
    (fun k c => DictIs w c.o c.ks ∧ TabOk a.cps.toList b.cps.toList i r d ((a.length : Int) - k) b.length c.ks ∧ c.ks.length ≤ 101 * k) [] (a.length + 1) rfl R1 (by omega) (by omega) (by omega) (by omega) (by omega) F1 N1 sub_nil ?start (fun _ c h => BestSt.solid h.1) ?turn ?done
  case start =>
    refine ⟨⟨_, _, []⟩, sub_cons (List.Mem.head _) sub_nil, ⟨rfl, rfl, rfl, rfl, rfl, rfl, trivial⟩, hD0, ⟨?_, nofun⟩, Nat.zero_le _⟩
    intro p' q' h1 h2 h3
    rw [len_cps] at h1 h2
    omega
  case done =>
    rintro c u h tk ⟨hD, hT, hL⟩ F' N'
    clear F1 N1 R1 hD0
    dsimp only [kstB] at F'
    have hks : ∀ t ∈ c.ks, t.ent ∈ c.ks.map TK.ent := fun _ ht => List.mem_map_of_mem ht
    replace N' : News g L h ((c.T, c.o) :: c.ks.map TK.ent) := by simpa [BestSt.led] using N'
    have h0 : HasT c.ks (0) (0) (bst i r d a.cps.toList b.cps.toList) := by
      obtain ⟨t, q0, q1, q2, q3⟩ := hT.done 0 0 (Nat.zero_le _) (Nat.zero_le _) (by omega)
      exact ⟨t, q0, q1, q2, q3⟩
    clear hT
    (repeat' ((fail_if_success (with_reducible show wpAny _ _ (exec (Stmt.For _ _ _ _ _) _) _ _ _)); (fail_if_success (with_reducible show wpAny _ _ (exec (Stmt.While _ _ _ _) _) _ _ _)); (fail_if_success (with_reducible show wpAny _ _ (pyIter _) _ _ _)); (fail_if_success (with_reducible show wpAny _ _ (exec (Stmt.Assign _ (Expr.ListComp _ _ _ _) _) _) _ _ _)); (fail_if_success (with_reducible show wpAny _ _ (eval (Expr.ListComp _ _ _ _) _) _ _ _)); first | (((with_reducible show wpAny _ _ (compareOp CmpOp.NotEq (Value.ref _) (Value.ref _)) _ _ _); (k_dflt (refine' my_neVs ?zN ?zm ?zm2 ?zi ?zi2 ?zu ?zbb ?_; (case zN => k_asm); (case zm => k_mem); (case zm2 => k_mem); (case zi => (first | exact IntsAre.nil | exact IntsAre.cons _ _ IntsAre.nil | exact IntsAre.cons _ _ (IntsAre.cons _ _ IntsAre.nil) | exact IntsAre.cons _ _ (IntsAre.cons _ _ (IntsAre.cons _ _ IntsAre.nil)))); (case zi2 => (first | exact IntsAre.nil | exact IntsAre.cons _ _ IntsAre.nil | exact IntsAre.cons _ _ (IntsAre.cons _ _ IntsAre.nil) | exact IntsAre.cons _ _ (IntsAre.cons _ _ (IntsAre.cons _ _ IntsAre.nil)))); (case zu => (first | exact room_b (by with_reducible assumption) rfl | exact room_a (by with_reducible assumption) rfl | omega | (simp only [Around.deeper, Around.in1]; omega))); (case zbb => first | exact (rfl : _ = true) | exact (rfl : _ = false))))); (try dsimp only)) | (((with_reducible show wpAny _ _ (call (Value.builtin _) [Value.ref _]) _ _ _); k_dflt (refine' my_minF ?zhh ?zF ?zN ?zm ?zi ?zz ?_; (case zhh => rfl); (case zF => k_asm); (case zN => k_asm); (case zm => k_mem); (case zi => (first | exact IntsAre.nil | exact IntsAre.cons _ _ IntsAre.nil | exact IntsAre.cons _ _ (IntsAre.cons _ _ IntsAre.nil) | exact IntsAre.cons _ _ (IntsAre.cons _ _ (IntsAre.cons _ _ IntsAre.nil)))); (case zz => exact List.cons_ne_nil _ _)); intro _ _ _ _ _; (try k_sweep)); (try dsimp only)) | (((with_reducible show wpAny _ _ (eval (PySem.Expr.Dict [] [] _) _) _ _ _); (k_dflt (refine' my_newDict ?zF ?zN ?_; (case zF => k_asm); (case zN => k_asm)); intro _ _ _ _ _ l1 _; (try k_lt l1); (try k_sweep))); (try dsimp only)) | (((with_reducible show wpAny _ _ (setItem (Value.ref _) (Value.ref _) _) _ _ _); (k_dflt (refine' my_dset ?zF ?zN ?zD ?zT ?zk ?zkey ?zu ?zf ?zz ?_; (case zD => with_reducible assumption); (case zF => k_asm); (case zN => k_asm); (case zT => k_mem); (case zk => (repeat' (first | with_reducible assumption | refine subE_tl ?_))); (case zkey => k_mem); (case zu => (first | exact room_b (by with_reducible assumption) rfl | exact room_a (by with_reducible assumption) rfl | omega | (simp only [Around.deeper, Around.in1]; omega))); (case zf => with_reducible assumption); (case zz => (rw [PySem.sizeLine_eq]; omega))); intro _ _ _ _ _ _)); (try dsimp only)) | (((with_reducible show wpAny _ _ (subscriptTail _ _ (Value.ref _) (Value.ref _)) _ _ _); k_dflt (refine' my_dget ?zN ?zD ?zT ?zk ?zkey ?zu ?zf ?_ ?zs; (case zD => with_reducible assumption); (case zN => k_asm); (case zT => k_mem); (case zk => (repeat' (first | with_reducible assumption | refine subE_tl ?_))); (case zkey => k_mem); (case zu => (first | exact room_b (by with_reducible assumption) rfl | exact room_a (by with_reducible assumption) rfl | omega | (simp only [Around.deeper, Around.in1]; omega))); (case zf => with_reducible assumption); (case zs => with_unfolding_all rfl)); intro _ _); (try dsimp only)) | (k_unfold; (try dsimp only)) | (walk1; (try dsimp only)) | (dsimp only; walk1) | fail "no step"))
    exact hret _ [] _ _ _ _ (by assumption) (by assumption) sub_nil ⟨_, rfl, rfl⟩
  case turn =>
    rintro k t c u h tk own hk ⟨hD, hT, hL⟩ hs _ F' N'
    clear F1 N1 R1 hD0
    dsimp only [kstB] at F'
    (try k_fold)
    (repeat' ((fail_if_success (with_reducible show wpAny _ _ (exec (Stmt.For _ _ _ _ _) _) _ _ _)); (fail_if_success (with_reducible show wpAny _ _ (exec (Stmt.While _ _ _ _) _) _ _ _)); (fail_if_success (with_reducible show wpAny _ _ (pyIter _) _ _ _)); (fail_if_success (with_reducible show wpAny _ _ (exec (Stmt.Assign _ (Expr.ListComp _ _ _ _) _) _) _ _ _)); (fail_if_success (with_reducible show wpAny _ _ (eval (Expr.ListComp _ _ _ _) _) _ _ _)); first | (((with_reducible show wpAny _ _ (compareOp CmpOp.NotEq (Value.ref _) (Value.ref _)) _ _ _); (k_dflt (refine' my_neVs ?zN ?zm ?zm2 ?zi ?zi2 ?zu ?zbb ?_; (case zN => k_asm); (case zm => k_mem); (case zm2 => k_mem); (case zi => (first | exact IntsAre.nil | exact IntsAre.cons _ _ IntsAre.nil | exact IntsAre.cons _ _ (IntsAre.cons _ _ IntsAre.nil) | exact IntsAre.cons _ _ (IntsAre.cons _ _ (IntsAre.cons _ _ IntsAre.nil)))); (case zi2 => (first | exact IntsAre.nil | exact IntsAre.cons _ _ IntsAre.nil | exact IntsAre.cons _ _ (IntsAre.cons _ _ IntsAre.nil) | exact IntsAre.cons _ _ (IntsAre.cons _ _ (IntsAre.cons _ _ IntsAre.nil)))); (case zu => (first | exact room_b (by with_reducible assumption) rfl | exact room_a (by with_reducible assumption) rfl | omega | (simp only [Around.deeper, Around.in1]; omega))); (case zbb => first | exact (rfl : _ = true) | exact (rfl : _ = false))))); (try dsimp only)) | (((with_reducible show wpAny _ _ (call (Value.builtin _) [Value.ref _]) _ _ _); k_dflt (refine' my_minF ?zhh ?zF ?zN ?zm ?zi ?zz ?_; (case zhh => rfl); (case zF => k_asm); (case zN => k_asm); (case zm => k_mem); (case zi => (first | exact IntsAre.nil | exact IntsAre.cons _ _ IntsAre.nil | exact IntsAre.cons _ _ (IntsAre.cons _ _ IntsAre.nil) | exact IntsAre.cons _ _ (IntsAre.cons _ _ (IntsAre.cons _ _ IntsAre.nil)))); (case zz => exact List.cons_ne_nil _ _)); intro _ _ _ _ _; (try k_sweep)); (try dsimp only)) | (((with_reducible show wpAny _ _ (eval (PySem.Expr.Dict [] [] _) _) _ _ _); (k_dflt (refine' my_newDict ?zF ?zN ?_; (case zF => k_asm); (case zN => k_asm)); intro _ _ _ _ _ l1 _; (try k_lt l1); (try k_sweep))); (try dsimp only)) | (((with_reducible show wpAny _ _ (setItem (Value.ref _) (Value.ref _) _) _ _ _); (k_dflt (refine' my_dset ?zF ?zN ?zD ?zT ?zk ?zkey ?zu ?zf ?zz ?_; (case zD => with_reducible assumption); (case zF => k_asm); (case zN => k_asm); (case zT => k_mem); (case zk => (repeat' (first | with_reducible assumption | refine subE_tl ?_))); (case zkey => k_mem); (case zu => (first | exact room_b (by with_reducible assumption) rfl | exact room_a (by with_reducible assumption) rfl | omega | (simp only [Around.deeper, Around.in1]; omega))); (case zf => with_reducible assumption); (case zz => (rw [PySem.sizeLine_eq]; omega))); intro _ _ _ _ _ _)); (try dsimp only)) | (((with_reducible show wpAny _ _ (subscriptTail _ _ (Value.ref _) (Value.ref _)) _ _ _); k_dflt (refine' my_dget ?zN ?zD ?zT ?zk ?zkey ?zu ?zf ?_ ?zs; (case zD => with_reducible assumption); (case zN => k_asm); (case zT => k_mem); (case zk => (repeat' (first | with_reducible assumption | refine subE_tl ?_))); (case zkey => k_mem); (case zu => (first | exact room_b (by with_reducible assumption) rfl | exact room_a (by with_reducible assumption) rfl | omega | (simp only [Around.deeper, Around.in1]; omega))); (case zf => with_reducible assumption); (case zs => with_unfolding_all rfl)); intro _ _); (try dsimp only)) | (k_unfold; (try dsimp only)) | (walk1; (try dsimp only)) | (dsimp only; walk1) | fail "no step"))
    refine For_invV g rfl rfl ?_
    (repeat' ((fail_if_success (with_reducible show wpAny _ _ (exec (Stmt.For _ _ _ _ _) _) _ _ _)); (fail_if_success (with_reducible show wpAny _ _ (exec (Stmt.While _ _ _ _) _) _ _ _)); (fail_if_success (with_reducible show wpAny _ _ (pyIter _) _ _ _)); (fail_if_success (with_reducible show wpAny _ _ (exec (Stmt.Assign _ (Expr.ListComp _ _ _ _) _) _) _ _ _)); (fail_if_success (with_reducible show wpAny _ _ (eval (Expr.ListComp _ _ _ _) _) _ _ _)); first | (((with_reducible show wpAny _ _ (compareOp CmpOp.NotEq (Value.ref _) (Value.ref _)) _ _ _); (k_dflt (refine' my_neVs ?zN ?zm ?zm2 ?zi ?zi2 ?zu ?zbb ?_; (case zN => k_asm); (case zm => k_mem); (case zm2 => k_mem); (case zi => (first | exact IntsAre.nil | exact IntsAre.cons _ _ IntsAre.nil | exact IntsAre.cons _ _ (IntsAre.cons _ _ IntsAre.nil) | exact IntsAre.cons _ _ (IntsAre.cons _ _ (IntsAre.cons _ _ IntsAre.nil)))); (case zi2 => (first | exact IntsAre.nil | exact IntsAre.cons _ _ IntsAre.nil | exact IntsAre.cons _ _ (IntsAre.cons _ _ IntsAre.nil) | exact IntsAre.cons _ _ (IntsAre.cons _ _ (IntsAre.cons _ _ IntsAre.nil)))); (case zu => (first | exact room_b (by with_reducible assumption) rfl | exact room_a (by with_reducible assumption) rfl | omega | (simp only [Around.deeper, Around.in1]; omega))); (case zbb => first | exact (rfl : _ = true) | exact (rfl : _ = false))))); (try dsimp only)) | (((with_reducible show wpAny _ _ (call (Value.builtin _) [Value.ref _]) _ _ _); k_dflt (refine' my_minF ?zhh ?zF ?zN ?zm ?zi ?zz ?_; (case zhh => rfl); (case zF => k_asm); (case zN => k_asm); (case zm => k_mem); (case zi => (first | exact IntsAre.nil | exact IntsAre.cons _ _ IntsAre.nil | exact IntsAre.cons _ _ (IntsAre.cons _ _ IntsAre.nil) | exact IntsAre.cons _ _ (IntsAre.cons _ _ (IntsAre.cons _ _ IntsAre.nil)))); (case zz => exact List.cons_ne_nil _ _)); intro _ _ _ _ _; (try k_sweep)); (try dsimp only)) | (((with_reducible show wpAny _ _ (eval (PySem.Expr.Dict [] [] _) _) _ _ _); (k_dflt (refine' my_newDict ?zF ?zN ?_; (case zF => k_asm); (case zN => k_asm)); intro _ _ _ _ _ l1 _; (try k_lt l1); (try k_sweep))); (try dsimp only)) | (((with_reducible show wpAny _ _ (setItem (Value.ref _) (Value.ref _) _) _ _ _); (k_dflt (refine' my_dset ?zF ?zN ?zD ?zT ?zk ?zkey ?zu ?zf ?zz ?_; (case zD => with_reducible assumption); (case zF => k_asm); (case zN => k_asm); (case zT => k_mem); (case zk => (repeat' (first | with_reducible assumption | refine subE_tl ?_))); (case zkey => k_mem); (case zu => (first | exact room_b (by with_reducible assumption) rfl | exact room_a (by with_reducible assumption) rfl | omega | (simp only [Around.deeper, Around.in1]; omega))); (case zf => with_reducible assumption); (case zz => (rw [PySem.sizeLine_eq]; omega))); intro _ _ _ _ _ _)); (try dsimp only)) | (((with_reducible show wpAny _ _ (subscriptTail _ _ (Value.ref _) (Value.ref _)) _ _ _); k_dflt (refine' my_dget ?zN ?zD ?zT ?zk ?zkey ?zu ?zf ?_ ?zs; (case zD => with_reducible assumption); (case zN => k_asm); (case zT => k_mem); (case zk => (repeat' (first | with_reducible assumption | refine subE_tl ?_))); (case zkey => k_mem); (case zu => (first | exact room_b (by with_reducible assumption) rfl | exact room_a (by with_reducible assumption) rfl | omega | (simp only [Around.deeper, Around.in1]; omega))); (case zf => with_reducible assumption); (case zs => with_unfolding_all rfl)); intro _ _); (try dsimp only)) | (k_unfold; (try dsimp only)) | (walk1; (try dsimp only)) | (dsimp only; walk1) | fail "no step"))
    rename Fr _ _ _ _ => F1
    rename News _ _ _ _ => N1
    rename IsRange _ _ _ _ _ _ _ _ => R1
    refine m_range_down (σ := BestSt) BestSt.led (fun c' => [(Str.ofString "a", .str a ta), (Str.ofString "b", .str b tb), (Str.ofString "into", .int i ti), (Str.ofString "other", .int r tr), (Str.ofString "away", .int d td), (Str.ofString "table", .ref c'.T), (Str.ofString "at", .int ((a.length : Int) - k) t)])
      (fun j c' => c'.T = c.T ∧ DictIs w c'.o c'.ks ∧ TabOk a.cps.toList b.cps.toList i r d ((a.length : Int) - k) ((b.length : Int) - j) c'.ks ∧ c'.ks.length ≤ 101 * k + j) own (b.length + 1) rfl R1 (by omega) (by omega) (by omega) (by omega) (by omega) F1 N1 (sub_r sub_rfl) ?start (fun _ c h => BestSt.solid h.2.1) ?turn ?done
    case start =>
      exact ⟨c, sub_l sub_rfl, ⟨rfl, rfl, rfl, rfl, rfl, rfl, rfl, trivial⟩, rfl, hD, by simpa using hT, hL⟩
    case done =>
      rintro c' u h tk ⟨hc0, hc1, hc2, hc3⟩ F' N'
      clear F1 N1 R1
      dsimp only [kstB] at F'
      (repeat' ((fail_if_success (with_reducible show wpAny _ _ (exec (Stmt.For _ _ _ _ _) _) _ _ _)); (fail_if_success (with_reducible show wpAny _ _ (exec (Stmt.While _ _ _ _) _) _ _ _)); (fail_if_success (with_reducible show wpAny _ _ (pyIter _) _ _ _)); (fail_if_success (with_reducible show wpAny _ _ (exec (Stmt.Assign _ (Expr.ListComp _ _ _ _) _) _) _ _ _)); (fail_if_success (with_reducible show wpAny _ _ (eval (Expr.ListComp _ _ _ _) _) _ _ _)); first | (((with_reducible show wpAny _ _ (compareOp CmpOp.NotEq (Value.ref _) (Value.ref _)) _ _ _); (k_dflt (refine' my_neVs ?zN ?zm ?zm2 ?zi ?zi2 ?zu ?zbb ?_; (case zN => k_asm); (case zm => k_mem); (case zm2 => k_mem); (case zi => (first | exact IntsAre.nil | exact IntsAre.cons _ _ IntsAre.nil | exact IntsAre.cons _ _ (IntsAre.cons _ _ IntsAre.nil) | exact IntsAre.cons _ _ (IntsAre.cons _ _ (IntsAre.cons _ _ IntsAre.nil)))); (case zi2 => (first | exact IntsAre.nil | exact IntsAre.cons _ _ IntsAre.nil | exact IntsAre.cons _ _ (IntsAre.cons _ _ IntsAre.nil) | exact IntsAre.cons _ _ (IntsAre.cons _ _ (IntsAre.cons _ _ IntsAre.nil)))); (case zu => (first | exact room_b (by with_reducible assumption) rfl | exact room_a (by with_reducible assumption) rfl | omega | (simp only [Around.deeper, Around.in1]; omega))); (case zbb => first | exact (rfl : _ = true) | exact (rfl : _ = false))))); (try dsimp only)) | (((with_reducible show wpAny _ _ (call (Value.builtin _) [Value.ref _]) _ _ _); k_dflt (refine' my_minF ?zhh ?zF ?zN ?zm ?zi ?zz ?_; (case zhh => rfl); (case zF => k_asm); (case zN => k_asm); (case zm => k_mem); (case zi => (first | exact IntsAre.nil | exact IntsAre.cons _ _ IntsAre.nil | exact IntsAre.cons _ _ (IntsAre.cons _ _ IntsAre.nil) | exact IntsAre.cons _ _ (IntsAre.cons _ _ (IntsAre.cons _ _ IntsAre.nil)))); (case zz => exact List.cons_ne_nil _ _)); intro _ _ _ _ _; (try k_sweep)); (try dsimp only)) | (((with_reducible show wpAny _ _ (eval (PySem.Expr.Dict [] [] _) _) _ _ _); (k_dflt (refine' my_newDict ?zF ?zN ?_; (case zF => k_asm); (case zN => k_asm)); intro _ _ _ _ _ l1 _; (try k_lt l1); (try k_sweep))); (try dsimp only)) | (((with_reducible show wpAny _ _ (setItem (Value.ref _) (Value.ref _) _) _ _ _); (k_dflt (refine' my_dset ?zF ?zN ?zD ?zT ?zk ?zkey ?zu ?zf ?zz ?_; (case zD => with_reducible assumption); (case zF => k_asm); (case zN => k_asm); (case zT => k_mem); (case zk => (repeat' (first | with_reducible assumption | refine subE_tl ?_))); (case zkey => k_mem); (case zu => (first | exact room_b (by with_reducible assumption) rfl | exact room_a (by with_reducible assumption) rfl | omega | (simp only [Around.deeper, Around.in1]; omega))); (case zf => with_reducible assumption); (case zz => (rw [PySem.sizeLine_eq]; omega))); intro _ _ _ _ _ _)); (try dsimp only)) | (((with_reducible show wpAny _ _ (subscriptTail _ _ (Value.ref _) (Value.ref _)) _ _ _); k_dflt (refine' my_dget ?zN ?zD ?zT ?zk ?zkey ?zu ?zf ?_ ?zs; (case zD => with_reducible assumption); (case zN => k_asm); (case zT => k_mem); (case zk => (repeat' (first | with_reducible assumption | refine subE_tl ?_))); (case zkey => k_mem); (case zu => (first | exact room_b (by with_reducible assumption) rfl | exact room_a (by with_reducible assumption) rfl | omega | (simp only [Around.deeper, Around.in1]; omega))); (case zf => with_reducible assumption); (case zs => with_unfolding_all rfl)); intro _ _); (try dsimp only)) | (k_unfold; (try dsimp only)) | (walk1; (try dsimp only)) | (dsimp only; walk1) | fail "no step"))
      refine ForEnd.intro c' F' N' (sub_l sub_rfl) (sub_r sub_rfl) ⟨rfl, rfl, rfl, rfl, rfl, rfl, trivial⟩ ⟨hc1, ⟨?_, ?_⟩, by omega⟩
      · intro p' q' h1 h2 h3
        have h2' := h2
        rw [len_cps] at h2'
        exact hc2.done p' q' h1 h2 (by omega)
      · intro t ht
        have := hc2.only t ht
        omega
    case turn =>
      rintro j tj ⟨T', o', ks⟩ u h tk own' hj ⟨hc0, hc1, hc2, hc3⟩ hs' hk' F' N'
      dsimp only at hc0 hc1 hc2 hc3
      subst hc0
      clear F1 N1 R1
      dsimp only [kstB] at F'
      generalize hR : ks.map TK.ent ++ own' = R at *
      have hks : ∀ t ∈ ks, t.ent ∈ R := hR ▸ ents_mem
      have hown : ∀ q ∈ own', q ∈ R := hR ▸ sub_r sub_rfl
      have hnD : ∀ p ∈ R, p.1 ≠ c.T ∨ isD p.2 = false := by
        intro p hp
        rw [← hR] at hp
        rcases List.mem_append.mp hp with hp | hp
        · obtain ⟨t, _, rfl⟩ := List.mem_map.mp hp
          exact .inr rfl
        · refine .inl ?_
          rcases hs' p hp with q | q
          · rcases hs p q with q | q
            · cases q
            · exact q (c.T, c.o) List.mem_cons_self
          · exact q (c.T, o') List.mem_cons_self
      replace N' : News g L h ((c.T, o') :: R) := by
        rw [← hR]; exact N'
      have hno : ∀ t ∈ ks, ¬ (t.i = (a.length : Int) - k ∧ t.j = (b.length : Int) - j) := by
        intro t ht ⟨q1, q2⟩
        have := hc2.only t ht
        omega
      (try k_fold)
      have fin : ∀ (v : Int) (vs : List (Addr × Obj)) (ad : Addr) (ta' tb' tv : Tok) (h' : Heap) (o'' : Obj) (tk' : Nat) (m' : Str → Option Value), v = bst i r d (a.cps.toList.drop (a.length - k)) (b.cps.toList.drop (b.length - j)) →
          Fr g L h' m' → Names m' [(Str.ofString "a", .str a ta), (Str.ofString "b", .str b tb), (Str.ofString "into", .int i ti), (Str.ofString "other", .int r tr), (Str.ofString "away", .int d td), (Str.ofString "table", .ref c.T), (Str.ofString "at", .int ((a.length : Int) - k) t)] →
          (∀ p, p = (c.T, o'') ∨ (p ∈ ((ad, tupI ((a.length : Int) - k) ((b.length : Int) - j) ta' tb') :: vs) ∧ (p.1 ≠ c.T ∨ isD p.2 = false)) → h'.get? p.1 = some p.2 ∧ p.1 ≠ L ∧ g.get? p.1 = none) → (∀ p ∈ R, p ∈ vs) →
          DictIs w o'' (ks ++ [⟨ad, (a.length : Int) - k, (b.length : Int) - j, ta', tb', v, tv⟩]) → ∀ s₁ : Shared, ∀ Q', ForEnd g L s₁ BestSt.led (fun c' => [(Str.ofString "a", .str a ta), (Str.ofString "b", .str b tb), (Str.ofString "into", .int i ti), (Str.ofString "other", .int r tr), (Str.ofString "away", .int d td), (Str.ofString "table", .ref c'.T), (Str.ofString "at", .int ((a.length : Int) - k) t)])
            (fun c' => c'.T = c.T ∧ DictIs w c'.o c'.ks ∧ TabOk a.cps.toList b.cps.toList i r d ((a.length : Int) - k) ((b.length : Int) - (j + 1 : Nat)) c'.ks ∧ c'.ks.length ≤ 101 * k + (j + 1)) own' Q' .next { s₁ with heap := h', toks := tk' } := by
        intro v vs ad ta' tb' tv h' o'' tk' m' hv F2 hnm hN hRv hD2 s₁ Q'
        have N2 : News g L h' ((c.T, o'') :: (ad, tupI ((a.length : Int) - k) ((b.length : Int) - j) ta' tb') :: R) := by
          intro p hp
          rcases List.mem_cons.mp hp with e | hp
          · exact hN p (.inl e)
          · rcases List.mem_cons.mp hp with e | hp
            · exact hN p (.inr ⟨by rw [e]; exact List.mem_cons_self, by rw [e]; exact .inr rfl⟩)
            · exact hN p (.inr ⟨List.mem_cons_of_mem _ (hRv p hp), hnD p hp⟩)
        refine ForEnd.intro ⟨c.T, o'', ks ++ [⟨ad, (a.length : Int) - k, (b.length : Int) - j, ta', tb', v, tv⟩]⟩ F2 N2 ?_ (fun q hq => List.mem_cons_of_mem _ (List.mem_cons_of_mem _ (hown q hq))) hnm ⟨rfl, hD2, ⟨?_, ?_⟩, ?_⟩
        · intro p hp
          rcases List.mem_cons.mp hp with e | hp
          · rw [e]; exact List.mem_cons_self
          · obtain ⟨t, ht, rfl⟩ := List.mem_map.mp hp
            rcases List.mem_append.mp ht with ht | ht
            · exact List.mem_cons_of_mem _ (List.mem_cons_of_mem _ (hks t ht))
            · rw [List.mem_singleton.mp ht]; exact List.mem_cons_of_mem _ List.mem_cons_self
        · intro p' q' h1 h2 h3
          by_cases e : (p' : Int) = (a.length : Int) - k ∧ (q' : Int) = (b.length : Int) - j
          · refine ⟨_, List.mem_append_right _ List.mem_cons_self, e.1.symm, e.2.symm, ?_⟩
            rw [show p' = a.length - k from by omega, show q' = b.length - j from by omega]
            exact hv
          · obtain ⟨t, q0, q1⟩ := hc2.done p' q' h1 h2 (by omega)
            exact ⟨t, List.mem_append_left _ q0, q1⟩
        · intro t ht
          rcases List.mem_append.mp ht with ht | ht
          · have := hc2.only t ht; omega
          · rw [List.mem_singleton.mp ht]; right; exact ⟨rfl, by show (b.length : Int) - ((j + 1 : Nat) : Int) < (b.length : Int) - j; omega⟩
        · show (ks ++ [_]).length ≤ _; rw [List.length_append, List.length_singleton]; omega
      by_cases h1 : 0 < k
      · have hA : HasT ks ((a.length : Int) - k + 1) ((b.length : Int) - j) (bst i r d (a.cps.toList.drop (a.length - k + 1)) (b.cps.toList.drop (b.length - j))) := by
          obtain ⟨t, q0, q1, q2, q3⟩ := hc2.done (a.length - k + 1) (b.length - j) (by rw [len_cps]; omega) (by rw [len_cps]; omega) (by omega)
          exact ⟨t, q0, by omega, by omega, q3⟩
        have ea := cps_drop a (a.length - k) (by omega)
        by_cases h2 : 0 < j
        · have hB : HasT ks ((a.length : Int) - k) ((b.length : Int) - j + 1) (bst i r d (a.cps.toList.drop (a.length - k)) (b.cps.toList.drop (b.length - j + 1))) := by
            obtain ⟨t, q0, q1, q2, q3⟩ := hc2.done (a.length - k) (b.length - j + 1) (by rw [len_cps]; omega) (by rw [len_cps]; omega) (by omega)
            exact ⟨t, q0, by omega, by omega, q3⟩
          have hC : HasT ks ((a.length : Int) - k + 1) ((b.length : Int) - j + 1) (bst i r d (a.cps.toList.drop (a.length - k + 1)) (b.cps.toList.drop (b.length - j + 1))) := by
            obtain ⟨t, q0, q1, q2, q3⟩ := hc2.done (a.length - k + 1) (b.length - j + 1) (by rw [len_cps]; omega) (by rw [len_cps]; omega) (by omega)
            exact ⟨t, q0, by omega, by omega, q3⟩
          have eb := cps_drop b (b.length - j) (by omega)
          clear hc2 hs hs'
          (repeat' ((fail_if_success (with_reducible show wpAny _ _ (exec (Stmt.For _ _ _ _ _) _) _ _ _)); (fail_if_success (with_reducible show wpAny _ _ (exec (Stmt.While _ _ _ _) _) _ _ _)); (fail_if_success (with_reducible show wpAny _ _ (pyIter _) _ _ _)); (fail_if_success (with_reducible show wpAny _ _ (exec (Stmt.Assign _ (Expr.ListComp _ _ _ _) _) _) _ _ _)); (fail_if_success (with_reducible show wpAny _ _ (eval (Expr.ListComp _ _ _ _) _) _ _ _)); first | (((with_reducible show wpAny _ _ (compareOp CmpOp.NotEq (Value.ref _) (Value.ref _)) _ _ _); (k_dflt (refine' my_neVs ?zN ?zm ?zm2 ?zi ?zi2 ?zu ?zbb ?_; (case zN => k_asm); (case zm => k_mem); (case zm2 => k_mem); (case zi => (first | exact IntsAre.nil | exact IntsAre.cons _ _ IntsAre.nil | exact IntsAre.cons _ _ (IntsAre.cons _ _ IntsAre.nil) | exact IntsAre.cons _ _ (IntsAre.cons _ _ (IntsAre.cons _ _ IntsAre.nil)))); (case zi2 => (first | exact IntsAre.nil | exact IntsAre.cons _ _ IntsAre.nil | exact IntsAre.cons _ _ (IntsAre.cons _ _ IntsAre.nil) | exact IntsAre.cons _ _ (IntsAre.cons _ _ (IntsAre.cons _ _ IntsAre.nil)))); (case zu => (first | exact room_b (by with_reducible assumption) rfl | exact room_a (by with_reducible assumption) rfl | omega | (simp only [Around.deeper, Around.in1]; omega))); (case zbb => first | exact (rfl : _ = true) | exact (rfl : _ = false))))); (try dsimp only)) | (((with_reducible show wpAny _ _ (call (Value.builtin _) [Value.ref _]) _ _ _); k_dflt (refine' my_minF ?zhh ?zF ?zN ?zm ?zi ?zz ?_; (case zhh => rfl); (case zF => k_asm); (case zN => k_asm); (case zm => k_mem); (case zi => (first | exact IntsAre.nil | exact IntsAre.cons _ _ IntsAre.nil | exact IntsAre.cons _ _ (IntsAre.cons _ _ IntsAre.nil) | exact IntsAre.cons _ _ (IntsAre.cons _ _ (IntsAre.cons _ _ IntsAre.nil)))); (case zz => exact List.cons_ne_nil _ _)); intro _ _ _ _ _; (try k_sweep)); (try dsimp only)) | (((with_reducible show wpAny _ _ (eval (PySem.Expr.Dict [] [] _) _) _ _ _); (k_dflt (refine' my_newDict ?zF ?zN ?_; (case zF => k_asm); (case zN => k_asm)); intro _ _ _ _ _ l1 _; (try k_lt l1); (try k_sweep))); (try dsimp only)) | (((with_reducible show wpAny _ _ (setItem (Value.ref _) (Value.ref _) _) _ _ _); (k_dflt (refine' my_dset ?zF ?zN ?zD ?zT ?zk ?zkey ?zu ?zf ?zz ?_; (case zD => with_reducible assumption); (case zF => k_asm); (case zN => k_asm); (case zT => k_mem); (case zk => (repeat' (first | with_reducible assumption | refine subE_tl ?_))); (case zkey => k_mem); (case zu => (first | exact room_b (by with_reducible assumption) rfl | exact room_a (by with_reducible assumption) rfl | omega | (simp only [Around.deeper, Around.in1]; omega))); (case zf => with_reducible assumption); (case zz => (rw [PySem.sizeLine_eq]; omega))); intro _ _ _ _ _ _)); (try dsimp only)) | (((with_reducible show wpAny _ _ (subscriptTail _ _ (Value.ref _) (Value.ref _)) _ _ _); k_dflt (refine' my_dget ?zN ?zD ?zT ?zk ?zkey ?zu ?zf ?_ ?zs; (case zD => with_reducible assumption); (case zN => k_asm); (case zT => k_mem); (case zk => (repeat' (first | with_reducible assumption | refine subE_tl ?_))); (case zkey => k_mem); (case zu => (first | exact room_b (by with_reducible assumption) rfl | exact room_a (by with_reducible assumption) rfl | omega | (simp only [Around.deeper, Around.in1]; omega))); (case zf => with_reducible assumption); (case zs => with_unfolding_all rfl)); intro _ _); (try dsimp only)) | (k_unfold; (try dsimp only)) | (walk1; (try dsimp only)) | (dsimp only; walk1) | fail "no step"))
          · rename Fr _ _ _ _ => F2
            rename DictIs _ _ _ => hD2
            rename ∀ p, p = _ ∨ _ → _ => hN
            rename (Txt.item _ _ == Txt.item _ _) = true => e
            refine fin _ _ _ _ _ _ _ _ _ _ ?_ F2 ⟨rfl, rfl, rfl, rfl, rfl, rfl, rfl, trivial⟩ hN ?_ hD2 _ _
            · rw [item_eq a b _ _ (by omega) (by omega) (by omega) (by omega), decide_eq_true_eq, show ((a.length : Int) - k).toNat = a.length - k from by omega, show ((b.length : Int) - j).toNat = b.length - j from by omega] at e
              rw [ea, eb, bst, if_pos e]; rfl
            · repeat' (first | exact sub_rfl | refine sub_tl ?_)
          · rename Fr _ _ _ _ => F2
            rename DictIs _ _ _ => hD2
            rename ∀ p, p = _ ∨ _ → _ => hN
            rename (Txt.item _ _ == Txt.item _ _) = false => e
            refine fin _ _ _ _ _ _ _ _ _ _ ?_ F2 ⟨rfl, rfl, rfl, rfl, rfl, rfl, rfl, trivial⟩ hN ?_ hD2 _ _
            · rw [item_eq a b _ _ (by omega) (by omega) (by omega) (by omega), decide_eq_false_iff_not, show ((a.length : Int) - k).toNat = a.length - k from by omega, show ((b.length : Int) - j).toNat = b.length - j from by omega] at e
              rw [ea, eb, bst, if_neg e]; rfl
            · repeat' (first | exact sub_rfl | refine sub_tl ?_)
        · have eb := cps_drop_none b (b.length - j) (by omega)
          clear hc2 hs hs'
          (repeat' ((fail_if_success (with_reducible show wpAny _ _ (exec (Stmt.For _ _ _ _ _) _) _ _ _)); (fail_if_success (with_reducible show wpAny _ _ (exec (Stmt.While _ _ _ _) _) _ _ _)); (fail_if_success (with_reducible show wpAny _ _ (pyIter _) _ _ _)); (fail_if_success (with_reducible show wpAny _ _ (exec (Stmt.Assign _ (Expr.ListComp _ _ _ _) _) _) _ _ _)); (fail_if_success (with_reducible show wpAny _ _ (eval (Expr.ListComp _ _ _ _) _) _ _ _)); first | (((with_reducible show wpAny _ _ (compareOp CmpOp.NotEq (Value.ref _) (Value.ref _)) _ _ _); (k_dflt (refine' my_neVs ?zN ?zm ?zm2 ?zi ?zi2 ?zu ?zbb ?_; (case zN => k_asm); (case zm => k_mem); (case zm2 => k_mem); (case zi => (first | exact IntsAre.nil | exact IntsAre.cons _ _ IntsAre.nil | exact IntsAre.cons _ _ (IntsAre.cons _ _ IntsAre.nil) | exact IntsAre.cons _ _ (IntsAre.cons _ _ (IntsAre.cons _ _ IntsAre.nil)))); (case zi2 => (first | exact IntsAre.nil | exact IntsAre.cons _ _ IntsAre.nil | exact IntsAre.cons _ _ (IntsAre.cons _ _ IntsAre.nil) | exact IntsAre.cons _ _ (IntsAre.cons _ _ (IntsAre.cons _ _ IntsAre.nil)))); (case zu => (first | exact room_b (by with_reducible assumption) rfl | exact room_a (by with_reducible assumption) rfl | omega | (simp only [Around.deeper, Around.in1]; omega))); (case zbb => first | exact (rfl : _ = true) | exact (rfl : _ = false))))); (try dsimp only)) | (((with_reducible show wpAny _ _ (call (Value.builtin _) [Value.ref _]) _ _ _); k_dflt (refine' my_minF ?zhh ?zF ?zN ?zm ?zi ?zz ?_; (case zhh => rfl); (case zF => k_asm); (case zN => k_asm); (case zm => k_mem); (case zi => (first | exact IntsAre.nil | exact IntsAre.cons _ _ IntsAre.nil | exact IntsAre.cons _ _ (IntsAre.cons _ _ IntsAre.nil) | exact IntsAre.cons _ _ (IntsAre.cons _ _ (IntsAre.cons _ _ IntsAre.nil)))); (case zz => exact List.cons_ne_nil _ _)); intro _ _ _ _ _; (try k_sweep)); (try dsimp only)) | (((with_reducible show wpAny _ _ (eval (PySem.Expr.Dict [] [] _) _) _ _ _); (k_dflt (refine' my_newDict ?zF ?zN ?_; (case zF => k_asm); (case zN => k_asm)); intro _ _ _ _ _ l1 _; (try k_lt l1); (try k_sweep))); (try dsimp only)) | (((with_reducible show wpAny _ _ (setItem (Value.ref _) (Value.ref _) _) _ _ _); (k_dflt (refine' my_dset ?zF ?zN ?zD ?zT ?zk ?zkey ?zu ?zf ?zz ?_; (case zD => with_reducible assumption); (case zF => k_asm); (case zN => k_asm); (case zT => k_mem); (case zk => (repeat' (first | with_reducible assumption | refine subE_tl ?_))); (case zkey => k_mem); (case zu => (first | exact room_b (by with_reducible assumption) rfl | exact room_a (by with_reducible assumption) rfl | omega | (simp only [Around.deeper, Around.in1]; omega))); (case zf => with_reducible assumption); (case zz => (rw [PySem.sizeLine_eq]; omega))); intro _ _ _ _ _ _)); (try dsimp only)) | (((with_reducible show wpAny _ _ (subscriptTail _ _ (Value.ref _) (Value.ref _)) _ _ _); k_dflt (refine' my_dget ?zN ?zD ?zT ?zk ?zkey ?zu ?zf ?_ ?zs; (case zD => with_reducible assumption); (case zN => k_asm); (case zT => k_mem); (case zk => (repeat' (first | with_reducible assumption | refine subE_tl ?_))); (case zkey => k_mem); (case zu => (first | exact room_b (by with_reducible assumption) rfl | exact room_a (by with_reducible assumption) rfl | omega | (simp only [Around.deeper, Around.in1]; omega))); (case zf => with_reducible assumption); (case zs => with_unfolding_all rfl)); intro _ _); (try dsimp only)) | (k_unfold; (try dsimp only)) | (walk1; (try dsimp only)) | (dsimp only; walk1) | fail "no step"))
          rename Fr _ _ _ _ => F2
          rename DictIs _ _ _ => hD2
          rename ∀ p, p = _ ∨ _ → _ => hN
          refine fin _ _ _ _ _ _ _ _ _ _ ?_ F2 ⟨rfl, rfl, rfl, rfl, rfl, rfl, rfl, trivial⟩ hN (sub_tl (sub_tl (sub_tl (sub_tl sub_rfl)))) hD2 _ _
          (try dsimp only [minOf, List.foldl]); rw [ea, eb, bst]
      · have ea := cps_drop_none a (a.length - k) (by omega)
        by_cases h2 : 0 < j
        · have hB : HasT ks ((a.length : Int) - k) ((b.length : Int) - j + 1) (bst i r d (a.cps.toList.drop (a.length - k)) (b.cps.toList.drop (b.length - j + 1))) := by
            obtain ⟨t, q0, q1, q2, q3⟩ := hc2.done (a.length - k) (b.length - j + 1) (by rw [len_cps]; omega) (by rw [len_cps]; omega) (by omega)
            exact ⟨t, q0, by omega, by omega, q3⟩
          have eb := cps_drop b (b.length - j) (by omega)
          clear hc2 hs hs'
          (repeat' ((fail_if_success (with_reducible show wpAny _ _ (exec (Stmt.For _ _ _ _ _) _) _ _ _)); (fail_if_success (with_reducible show wpAny _ _ (exec (Stmt.While _ _ _ _) _) _ _ _)); (fail_if_success (with_reducible show wpAny _ _ (pyIter _) _ _ _)); (fail_if_success (with_reducible show wpAny _ _ (exec (Stmt.Assign _ (Expr.ListComp _ _ _ _) _) _) _ _ _)); (fail_if_success (with_reducible show wpAny _ _ (eval (Expr.ListComp _ _ _ _) _) _ _ _)); first | (((with_reducible show wpAny _ _ (compareOp CmpOp.NotEq (Value.ref _) (Value.ref _)) _ _ _); (k_dflt (refine' my_neVs ?zN ?zm ?zm2 ?zi ?zi2 ?zu ?zbb ?_; (case zN => k_asm); (case zm => k_mem); (case zm2 => k_mem); (case zi => (first | exact IntsAre.nil | exact IntsAre.cons _ _ IntsAre.nil | exact IntsAre.cons _ _ (IntsAre.cons _ _ IntsAre.nil) | exact IntsAre.cons _ _ (IntsAre.cons _ _ (IntsAre.cons _ _ IntsAre.nil)))); (case zi2 => (first | exact IntsAre.nil | exact IntsAre.cons _ _ IntsAre.nil | exact IntsAre.cons _ _ (IntsAre.cons _ _ IntsAre.nil) | exact IntsAre.cons _ _ (IntsAre.cons _ _ (IntsAre.cons _ _ IntsAre.nil)))); (case zu => (first | exact room_b (by with_reducible assumption) rfl | exact room_a (by with_reducible assumption) rfl | omega | (simp only [Around.deeper, Around.in1]; omega))); (case zbb => first | exact (rfl : _ = true) | exact (rfl : _ = false))))); (try dsimp only)) | (((with_reducible show wpAny _ _ (call (Value.builtin _) [Value.ref _]) _ _ _); k_dflt (refine' my_minF ?zhh ?zF ?zN ?zm ?zi ?zz ?_; (case zhh => rfl); (case zF => k_asm); (case zN => k_asm); (case zm => k_mem); (case zi => (first | exact IntsAre.nil | exact IntsAre.cons _ _ IntsAre.nil | exact IntsAre.cons _ _ (IntsAre.cons _ _ IntsAre.nil) | exact IntsAre.cons _ _ (IntsAre.cons _ _ (IntsAre.cons _ _ IntsAre.nil)))); (case zz => exact List.cons_ne_nil _ _)); intro _ _ _ _ _; (try k_sweep)); (try dsimp only)) | (((with_reducible show wpAny _ _ (eval (PySem.Expr.Dict [] [] _) _) _ _ _); (k_dflt (refine' my_newDict ?zF ?zN ?_; (case zF => k_asm); (case zN => k_asm)); intro _ _ _ _ _ l1 _; (try k_lt l1); (try k_sweep))); (try dsimp only)) | (((with_reducible show wpAny _ _ (setItem (Value.ref _) (Value.ref _) _) _ _ _); (k_dflt (refine' my_dset ?zF ?zN ?zD ?zT ?zk ?zkey ?zu ?zf ?zz ?_; (case zD => with_reducible assumption); (case zF => k_asm); (case zN => k_asm); (case zT => k_mem); (case zk => (repeat' (first | with_reducible assumption | refine subE_tl ?_))); (case zkey => k_mem); (case zu => (first | exact room_b (by with_reducible assumption) rfl | exact room_a (by with_reducible assumption) rfl | omega | (simp only [Around.deeper, Around.in1]; omega))); (case zf => with_reducible assumption); (case zz => (rw [PySem.sizeLine_eq]; omega))); intro _ _ _ _ _ _)); (try dsimp only)) | (((with_reducible show wpAny _ _ (subscriptTail _ _ (Value.ref _) (Value.ref _)) _ _ _); k_dflt (refine' my_dget ?zN ?zD ?zT ?zk ?zkey ?zu ?zf ?_ ?zs; (case zD => with_reducible assumption); (case zN => k_asm); (case zT => k_mem); (case zk => (repeat' (first | with_reducible assumption | refine subE_tl ?_))); (case zkey => k_mem); (case zu => (first | exact room_b (by with_reducible assumption) rfl | exact room_a (by with_reducible assumption) rfl | omega | (simp only [Around.deeper, Around.in1]; omega))); (case zf => with_reducible assumption); (case zs => with_unfolding_all rfl)); intro _ _); (try dsimp only)) | (k_unfold; (try dsimp only)) | (walk1; (try dsimp only)) | (dsimp only; walk1) | fail "no step"))
          rename Fr _ _ _ _ => F2
          rename DictIs _ _ _ => hD2
          rename ∀ p, p = _ ∨ _ → _ => hN
          refine fin _ _ _ _ _ _ _ _ _ _ ?_ F2 ⟨rfl, rfl, rfl, rfl, rfl, rfl, rfl, trivial⟩ hN (sub_tl (sub_tl (sub_tl (sub_tl sub_rfl)))) hD2 _ _
          (try dsimp only [minOf, List.foldl]); rw [ea, eb, bst]
        · have eb := cps_drop_none b (b.length - j) (by omega)
          clear hc2 hs hs'
          (repeat' ((fail_if_success (with_reducible show wpAny _ _ (exec (Stmt.For _ _ _ _ _) _) _ _ _)); (fail_if_success (with_reducible show wpAny _ _ (exec (Stmt.While _ _ _ _) _) _ _ _)); (fail_if_success (with_reducible show wpAny _ _ (pyIter _) _ _ _)); (fail_if_success (with_reducible show wpAny _ _ (exec (Stmt.Assign _ (Expr.ListComp _ _ _ _) _) _) _ _ _)); (fail_if_success (with_reducible show wpAny _ _ (eval (Expr.ListComp _ _ _ _) _) _ _ _)); first | (((with_reducible show wpAny _ _ (compareOp CmpOp.NotEq (Value.ref _) (Value.ref _)) _ _ _); (k_dflt (refine' my_neVs ?zN ?zm ?zm2 ?zi ?zi2 ?zu ?zbb ?_; (case zN => k_asm); (case zm => k_mem); (case zm2 => k_mem); (case zi => (first | exact IntsAre.nil | exact IntsAre.cons _ _ IntsAre.nil | exact IntsAre.cons _ _ (IntsAre.cons _ _ IntsAre.nil) | exact IntsAre.cons _ _ (IntsAre.cons _ _ (IntsAre.cons _ _ IntsAre.nil)))); (case zi2 => (first | exact IntsAre.nil | exact IntsAre.cons _ _ IntsAre.nil | exact IntsAre.cons _ _ (IntsAre.cons _ _ IntsAre.nil) | exact IntsAre.cons _ _ (IntsAre.cons _ _ (IntsAre.cons _ _ IntsAre.nil)))); (case zu => (first | exact room_b (by with_reducible assumption) rfl | exact room_a (by with_reducible assumption) rfl | omega | (simp only [Around.deeper, Around.in1]; omega))); (case zbb => first | exact (rfl : _ = true) | exact (rfl : _ = false))))); (try dsimp only)) | (((with_reducible show wpAny _ _ (call (Value.builtin _) [Value.ref _]) _ _ _); k_dflt (refine' my_minF ?zhh ?zF ?zN ?zm ?zi ?zz ?_; (case zhh => rfl); (case zF => k_asm); (case zN => k_asm); (case zm => k_mem); (case zi => (first | exact IntsAre.nil | exact IntsAre.cons _ _ IntsAre.nil | exact IntsAre.cons _ _ (IntsAre.cons _ _ IntsAre.nil) | exact IntsAre.cons _ _ (IntsAre.cons _ _ (IntsAre.cons _ _ IntsAre.nil)))); (case zz => exact List.cons_ne_nil _ _)); intro _ _ _ _ _; (try k_sweep)); (try dsimp only)) | (((with_reducible show wpAny _ _ (eval (PySem.Expr.Dict [] [] _) _) _ _ _); (k_dflt (refine' my_newDict ?zF ?zN ?_; (case zF => k_asm); (case zN => k_asm)); intro _ _ _ _ _ l1 _; (try k_lt l1); (try k_sweep))); (try dsimp only)) | (((with_reducible show wpAny _ _ (setItem (Value.ref _) (Value.ref _) _) _ _ _); (k_dflt (refine' my_dset ?zF ?zN ?zD ?zT ?zk ?zkey ?zu ?zf ?zz ?_; (case zD => with_reducible assumption); (case zF => k_asm); (case zN => k_asm); (case zT => k_mem); (case zk => (repeat' (first | with_reducible assumption | refine subE_tl ?_))); (case zkey => k_mem); (case zu => (first | exact room_b (by with_reducible assumption) rfl | exact room_a (by with_reducible assumption) rfl | omega | (simp only [Around.deeper, Around.in1]; omega))); (case zf => with_reducible assumption); (case zz => (rw [PySem.sizeLine_eq]; omega))); intro _ _ _ _ _ _)); (try dsimp only)) | (((with_reducible show wpAny _ _ (subscriptTail _ _ (Value.ref _) (Value.ref _)) _ _ _); k_dflt (refine' my_dget ?zN ?zD ?zT ?zk ?zkey ?zu ?zf ?_ ?zs; (case zD => with_reducible assumption); (case zN => k_asm); (case zT => k_mem); (case zk => (repeat' (first | with_reducible assumption | refine subE_tl ?_))); (case zkey => k_mem); (case zu => (first | exact room_b (by with_reducible assumption) rfl | exact room_a (by with_reducible assumption) rfl | omega | (simp only [Around.deeper, Around.in1]; omega))); (case zf => with_reducible assumption); (case zs => with_unfolding_all rfl)); intro _ _); (try dsimp only)) | (k_unfold; (try dsimp only)) | (walk1; (try dsimp only)) | (dsimp only; walk1) | fail "no step"))
          rename Fr _ _ _ _ => F2
          rename DictIs _ _ _ => hD2
          rename ∀ p, p = _ ∨ _ → _ => hN
          refine fin _ _ _ _ _ _ _ _ _ _ ?_ F2 ⟨rfl, rfl, rfl, rfl, rfl, rfl, rfl, trivial⟩ hN (sub_tl (sub_tl (sub_tl sub_rfl))) hD2 _ _
          (try dsimp only [minOf, List.foldl]); rw [ea, eb, bst]
end
section
theorem lt_a (n : Nat) : ([n] < (Str.ofString "a").cps.toList) = (n < 97) := by
  rw [show (Str.ofString "a").cps.toList = [97] from by decide +kernel, List.cons_lt_cons_iff]; simp
theorem z_lt (n : Nat) : ((Str.ofString "z").cps.toList < [n]) = (122 < n) := by
  rw [show (Str.ofString "z").cps.toList = [122] from by decide +kernel, List.cons_lt_cons_iff]; simp
theorem my_chr {prog : Program} {w : World} {A : Around} {E : Value → Shared → Prop} {s : Shared} {i : Int} {t : Tok} {Q : Value → Shared → Prop} (h0 : 0 ≤ i) (h1 : i ≤ 1114111) (h : ∀ t' tk, Q (.str ⟨#[i.toNat]⟩ t') { s with toks := tk }) :
    wpAny (model prog w) A (call (.builtin "chr") [.int i t]) Q E s := chr_of_range h0 h1 (h _ _)
theorem glue_nil : ∀ ys : List Str, (Txt.join (Str.ofString "") ys).cps.toList = (ys.map (·.cps.toList)).flatten := by
  intro ys
  have e : (Str.ofString "").cps = #[] := by decide +kernel
  have key : ∀ (r : List Str) (acc : Array Nat), (r.foldl (fun acc p => acc ++ (Str.ofString "").cps ++ p.cps) acc).toList = acc.toList ++ (r.map (·.cps.toList)).flatten := by
    intro r
    induction r with
    | nil => intro acc; simp
    | cons y r ih => intro acc; rw [List.foldl_cons, ih, e]; simp
  cases ys with
  | nil => rfl
  | cons y r =>
    show (r.foldl _ y.cps).toList = _
    rw [key]; simp
theorem my_join {prog : Program} {w : World} {A : Around} {E : Value → Shared → Prop} {s : Shared} {h₀ : Heap} {L l : Addr} {news : List (Addr × Obj)} {n : Nat} {vs : List Value} {ys : List Str} {t : Tok} {Q : Value → Shared → Prop}
    (N : News h₀ L s.heap news) (hm : (l, listOf vs.toArray n) ∈ news) (hi : StrsAre vs ys) (hl : ys.length ≤ 10000) (hy : ∀ y ∈ ys, y.length ≤ 10) (h : ∀ t' tk, Q (.str ⟨(ys.map (·.cps.toList)).flatten.toArray⟩ t') { s with toks := tk }) :
    wpAny (model prog w) A (call (.builtin "str.join") [.str (Str.ofString "") t, .ref l]) Q E s := by
  refine join_list (N.isList hm) hi ?_ fun t' k => ?_
  · have := StrLaws.sumLen_le ys hy
    have e : (Str.ofString "").length = 0 := by decide +kernel
    rw [e]; omega
  · have e : Txt.join (Str.ofString "") ys = ⟨(ys.map (·.cps.toList)).flatten.toArray⟩ := by
      have := glue_nil ys
      rw [← this]
    rw [e]; exact h _ _
noncomputable def upc (c : Nat) : Nat := if 97 ≤ c ∧ c ≤ 122 then c - 32 else c
structure StrsAt where
  ad : Addr
  n : Nat
  vs : List Value
  xs : List Str
noncomputable def StrsAt.led (c : StrsAt) : List (Addr × Obj) := [(c.ad, listOf c.vs.toArray c.n)]
theorem con_raised_case (w : World) (x : Str) (tx : Tok) (hx : x.length < 1000) :
   ConS w 81 1 60 [.str x tx] ⟨(x.cps.toList.map upc).toArray⟩ := by
  ((have hfill : ∀ P : Params, PySem.Challenge.rw_pc0254_01.row.prog = PySem.Challenge.rw_pc0254_01.row.prog ∧ hd.heap_39 P = hd.heap_39 P := fun _ => ⟨rfl, rfl⟩); revert hfill; k_fill; intro hfill; clear hfill)
  k_dflt (refine' con_enter (binds := [(Str.ofString "text", .str x tx)]) ?k6 ?k7 ?k9 ?kB ?k8 ?_ ?c5 ?c2 ?c3 ?c4; ((case k6 => k_is); (case k7 => k_is); (case k8 => decide); (case k9 => exact fun _ => BindsTo.of_eq rfl); (case c5 => decide); (case kB => exact locs rfl); (case c2 => exact rfl); (case c3 => exact rfl); (case c4 => exact rfl)))
  intro mean mg mb dp fr gd un s Q g L h₁ F N X T hdp hun hret
  (try k_fold)
  (repeat' ((fail_if_success (with_reducible show wpAny _ _ (exec (Stmt.For _ _ _ _ _) _) _ _ _)); (fail_if_success (with_reducible show wpAny _ _ (exec (Stmt.While _ _ _ _) _) _ _ _)); (fail_if_success (with_reducible show wpAny _ _ (pyIter _) _ _ _)); (fail_if_success (with_reducible show wpAny _ _ (exec (Stmt.Assign _ (Expr.ListComp _ _ _ _) _) _) _ _ _)); (fail_if_success (with_reducible show wpAny _ _ (eval (Expr.ListComp _ _ _ _) _) _ _ _)); first | (((with_reducible show wpAny _ _ (call (Value.builtin "chr") _) _ _ _); (k_dflt (refine' my_chr ?za ?zb ?_; (case za => (simp only [lt_a, z_lt] at *; omega)); (case zb => (simp only [lt_a, z_lt] at *; omega))); intro _ _)); (try dsimp only)) | (k_unfold; (try dsimp only)) | (walk1; (try dsimp only)) | (dsimp only; walk1) | fail "no step"))
  refine For_invV g rfl rfl ?_
  (repeat' ((fail_if_success (with_reducible show wpAny _ _ (exec (Stmt.For _ _ _ _ _) _) _ _ _)); (fail_if_success (with_reducible show wpAny _ _ (exec (Stmt.While _ _ _ _) _) _ _ _)); (fail_if_success (with_reducible show wpAny _ _ (pyIter _) _ _ _)); (fail_if_success (with_reducible show wpAny _ _ (exec (Stmt.Assign _ (Expr.ListComp _ _ _ _) _) _) _ _ _)); (fail_if_success (with_reducible show wpAny _ _ (eval (Expr.ListComp _ _ _ _) _) _ _ _)); first | (((with_reducible show wpAny _ _ (call (Value.builtin "chr") _) _ _ _); (k_dflt (refine' my_chr ?za ?zb ?_; (case za => (simp only [lt_a, z_lt] at *; omega)); (case zb => (simp only [lt_a, z_lt] at *; omega))); intro _ _)); (try dsimp only)) | (k_unfold; (try dsimp only)) | (walk1; (try dsimp only)) | (dsimp only; walk1) | fail "no step"))
  rename Fr _ _ _ _ => F1
  rename News _ _ _ _ => N1
  refine m_for_str (σ := StrsAt) StrsAt.led (fun c => [(Str.ofString "made", .ref c.ad)])
      (fun k c => StrsAre c.vs c.xs ∧ c.xs = (x.cps.toList.take k).map fun c => ⟨#[upc c]⟩) [] rfl F1 N1 sub_nil ?start (fun _ _ _ => ⟨nofun, trivial⟩) ?turn ?done
  case start =>
    exact ⟨⟨_, _, _, _⟩, sub_cons (List.Mem.head _) sub_nil, ⟨rfl, trivial⟩, .nil, rfl⟩
  case done =>
    rintro c u h tk ⟨hc1, hc2⟩ F' N'
    clear F1 N1
    dsimp only [kstB] at F'
    simp only [StrsAt.led, List.nil_append, List.cons_append] at N'
    have hxl : c.xs.length ≤ 1000 := by rw [hc2, List.length_map, List.length_take]; simp only [Str.length] at hx; simp; omega
    (repeat' ((fail_if_success (with_reducible show wpAny _ _ (exec (Stmt.For _ _ _ _ _) _) _ _ _)); (fail_if_success (with_reducible show wpAny _ _ (exec (Stmt.While _ _ _ _) _) _ _ _)); (fail_if_success (with_reducible show wpAny _ _ (pyIter _) _ _ _)); (fail_if_success (with_reducible show wpAny _ _ (exec (Stmt.Assign _ (Expr.ListComp _ _ _ _) _) _) _ _ _)); (fail_if_success (with_reducible show wpAny _ _ (eval (Expr.ListComp _ _ _ _) _) _ _ _)); first | (((with_reducible show wpAny _ _ (call (Value.builtin "chr") _) _ _ _); (k_dflt (refine' my_chr ?za ?zb ?_; (case za => (simp only [lt_a, z_lt] at *; omega)); (case zb => (simp only [lt_a, z_lt] at *; omega))); intro _ _)); (try dsimp only)) | (k_unfold; (try dsimp only)) | (walk1; (try dsimp only)) | (dsimp only; walk1) | fail "no step"))
    refine my_join N' List.mem_cons_self hc1 (by omega) ?_ fun t' tk' => ?_
    · intro y hy
      rw [hc2] at hy
      obtain ⟨c, _, rfl⟩ := List.mem_map.mp hy
      exact (by decide : (1 : Nat) ≤ 10)
    · (repeat' ((fail_if_success (with_reducible show wpAny _ _ (exec (Stmt.For _ _ _ _ _) _) _ _ _)); (fail_if_success (with_reducible show wpAny _ _ (exec (Stmt.While _ _ _ _) _) _ _ _)); (fail_if_success (with_reducible show wpAny _ _ (pyIter _) _ _ _)); (fail_if_success (with_reducible show wpAny _ _ (exec (Stmt.Assign _ (Expr.ListComp _ _ _ _) _) _) _ _ _)); (fail_if_success (with_reducible show wpAny _ _ (eval (Expr.ListComp _ _ _ _) _) _ _ _)); first | (((with_reducible show wpAny _ _ (call (Value.builtin "chr") _) _ _ _); (k_dflt (refine' my_chr ?za ?zb ?_; (case za => (simp only [lt_a, z_lt] at *; omega)); (case zb => (simp only [lt_a, z_lt] at *; omega))); intro _ _)); (try dsimp only)) | (k_unfold; (try dsimp only)) | (walk1; (try dsimp only)) | (dsimp only; walk1) | fail "no step"))
      refine hret _ [] _ _ _ _ F' N' sub_nil ⟨t', congrArg (Value.str · t') ?_, rfl⟩
      rw [hc2]
      congr 1
      rw [List.take_of_length_le (by simp)]
      simp [Function.comp_def]
      induction x.cps.toList with
      | nil => rfl
      | cons a r ih => simp [ih]
  case turn =>
    rintro k n t c u h tk own hn ⟨hc1, hc2⟩ hs hk F' N'
    clear F1 N1
    have hvl := hc1.length
    have hxl : c.xs.length ≤ 1000 := by rw [hc2, List.length_map, List.length_take, len_cps]; omega
    have hoff : ∀ q ∈ own, q.1 ≠ c.ad := fun q hq => (hs q hq).elim nofun fun h => h _ List.mem_cons_self
    dsimp only [kstB] at F'
    simp only [StrsAt.led, List.nil_append, List.cons_append] at N'
    (try k_fold)
    (repeat' ((fail_if_success (with_reducible show wpAny _ _ (exec (Stmt.For _ _ _ _ _) _) _ _ _)); (fail_if_success (with_reducible show wpAny _ _ (exec (Stmt.While _ _ _ _) _) _ _ _)); (fail_if_success (with_reducible show wpAny _ _ (pyIter _) _ _ _)); (fail_if_success (with_reducible show wpAny _ _ (exec (Stmt.Assign _ (Expr.ListComp _ _ _ _) _) _) _ _ _)); (fail_if_success (with_reducible show wpAny _ _ (eval (Expr.ListComp _ _ _ _) _) _ _ _)); first | (((with_reducible show wpAny _ _ (call (Value.builtin "chr") _) _ _ _); (k_dflt (refine' my_chr ?za ?zb ?_; (case za => (simp only [lt_a, z_lt] at *; omega)); (case zb => (simp only [lt_a, z_lt] at *; omega))); intro _ _)); (try dsimp only)) | (k_unfold; (try dsimp only)) | (walk1; (try dsimp only)) | (dsimp only; walk1) | fail "no step"))
    all_goals rename Fr _ _ _ _ => F2
    all_goals rename News _ _ _ _ => N2
    all_goals simp only [lt_a, z_lt] at *
    all_goals
      refine ForEnd.intro ⟨c.ad, c.n + 1, c.vs ++ [_], c.xs ++ [_]⟩ F2 N2 (sub_cons (List.Mem.head _) sub_nil) (sub_tl sub_rfl) ⟨rfl, trivial⟩ ⟨hc1.append' (.cons _ _ .nil), ?_⟩
      have hn' : x.cps.toList[k]? = some n := by simpa using hn
      rw [hc2, List.take_add_one, hn']
      simp only [Option.toList_some, List.map_append, List.map_cons, List.map_nil]
    · rw [upc, if_neg (by omega)]
    · rw [upc, if_neg (by omega)]
    · rw [upc, if_pos (by omega), show ((n : Int) - 32).toNat = n - 32 from by omega]
end
local macro_rules | `(tactic| walk_at "inplaceOp Add str str") => `(tactic| (k_dflt (refine' PyProof.Rows.iadd_str ?h ?z; (case z => (rw [PySem.sizeLine_eq]; (try simp only [PyProof.Rows.len_item]); omega))); intro t' tk'))
section
theorem lt_A (n : Nat) : ([n] < (Str.ofString "A").cps.toList) = (n < 65) := by
  rw [show (Str.ofString "A").cps.toList = [65] from by decide +kernel, List.cons_lt_cons_iff]; simp
theorem Z_lt (n : Nat) : ((Str.ofString "Z").cps.toList < [n]) = (90 < n) := by
  rw [show (Str.ofString "Z").cps.toList = [90] from by decide +kernel, List.cons_lt_cons_iff]; simp
theorem str_eq (a b : Str) : (a == b) = decide (a.cps.toList = b.cps.toList) := by
  obtain ⟨⟨l⟩⟩ := a
  obtain ⟨⟨l'⟩⟩ := b
  by_cases e : l = l'
  · simp [e]
  · rw [decide_eq_false (by simpa using e)]
    exact beq_eq_false_iff_ne.mpr (by simpa using e)
theorem str_ne (a b : Str) : (a != b) = decide (¬ a.cps.toList = b.cps.toList) := by
  show (!(a == b)) = _
  rw [str_eq]; simp
theorem cps_0 : (Str.ofString "0").cps.toList = [48] := by decide +kernel
theorem cps_minus : (Str.ofString "-").cps.toList = [45] := by decide +kernel
theorem cps_empty : (Str.ofString "").cps.toList = [] := by decide +kernel
noncomputable def sdxT : Str := Str.ofString "0123012-02245501262301-202"
noncomputable def sdxc (n : Nat) : Nat := sdxT.cps.getD (n - 65) 0
theorem sdx_item {n : Nat} (h1 : 65 ≤ n) (h2 : n ≤ 90) : (Txt.item sdxT ((n : Int) - 65)).cps.toList = [sdxc n] := by
  have e : sdxT.length = 26 := by decide +kernel
  rw [item_at (x := sdxT) (n := n - 65) (by omega) (by omega) (by omega)]; rfl
noncomputable abbrev KSt := List Nat × List Nat
noncomputable def kstep (s : KSt) (n : Nat) : KSt :=
  if 65 ≤ n ∧ n ≤ 90 ∧ s.1.length < 4 then
    if s.1 = [] then ([n], [sdxc n])
    else if ¬ [sdxc n] = [45] then (if ¬ [sdxc n] = [48] ∧ ¬ [sdxc n] = s.2 then s.1 ++ [sdxc n] else s.1, [sdxc n])
    else s
  else s
noncomputable def sdxKey (l : List Nat) : List Nat :=
  let m := (l.foldl kstep ([], [])).1
  m ++ List.replicate (4 - m.length) 48
theorem kstep_len (s : KSt) (n : Nat) (h : s.1.length ≤ 4) : (kstep s n).1.length ≤ 4 := by
  unfold kstep
  split
  · split
    · simp
    · split
      · dsimp only; split
        · rw [List.length_append, List.length_singleton]; omega
        · omega
      · exact h
  · exact h
theorem kfold_len : ∀ (l : List Nat) (s : KSt), s.1.length ≤ 4 → (l.foldl kstep s).1.length ≤ 4
  | [], _, h => h
  | n :: l, s, h => kfold_len l _ (kstep_len s n h)
theorem con_soundex_code (w : World) (n : Nat) (t : Tok) (h1 : 65 ≤ n) (h2 : n ≤ 90) : ConS w 128 1 20 [.str ⟨#[n]⟩ t] (Txt.item sdxT ((n : Int) - 65)) := by
  ((have hfill : ∀ P : Params, PySem.Challenge.rw_pc0254_01.row.prog = PySem.Challenge.rw_pc0254_01.row.prog ∧ hd.heap_39 P = hd.heap_39 P := fun _ => ⟨rfl, rfl⟩); revert hfill; k_fill; intro hfill; clear hfill)
  k_dflt (refine' con_enter (binds := [(Str.ofString "letter", .str ⟨#[n]⟩ t)]) ?k6 ?k7 ?k9 ?kB ?k8 ?_ ?c5 ?c2 ?c3 ?c4; ((case k6 => k_is); (case k7 => k_is); (case k8 => decide); (case k9 => exact fun _ => BindsTo.of_eq rfl); (case c5 => decide); (case kB => exact locs rfl); (case c2 => exact rfl); (case c3 => exact rfl); (case c4 => exact rfl)))
  intro mean mg mb dp fr gd un s Q g L h₁ F N X T hdp hun hret
  (try k_fold)
  (repeat' ((fail_if_success (with_reducible show wpAny _ _ (exec (Stmt.For _ _ _ _ _) _) _ _ _)); (fail_if_success (with_reducible show wpAny _ _ (exec (Stmt.While _ _ _ _) _) _ _ _)); (fail_if_success (with_reducible show wpAny _ _ (pyIter _) _ _ _)); (fail_if_success (with_reducible show wpAny _ _ (exec (Stmt.Assign _ (Expr.ListComp _ _ _ _) _) _) _ _ _)); (fail_if_success (with_reducible show wpAny _ _ (eval (Expr.ListComp _ _ _ _) _) _ _ _)); first | ((with_reducible show wpAny _ _ (call (Value.ref _) _) _ _ _); k_dflt (refine' con_useS ?zC ?zF ?zN ?zX ?zT ?zhA ?zhd ?zhu ?_); (case zC => exact con_raised_case _ _ _ (by omega)); (case zF => k_asm); (case zN => k_asm); (case zX => k_asm); (case zT => k_asm); (case zhA => rfl); (case zhd => first | exact room_b (by with_reducible assumption) rfl | exact room_a (by with_reducible assumption) rfl | omega | (simp only [Around.deeper, Around.in1]; omega)); (case zhu => first | exact room_b (by with_reducible assumption) rfl | exact room_a (by with_reducible assumption) rfl | omega | (simp only [Around.deeper, Around.in1]; omega)); intro _ _ _ _ _; (try k_sweep); (try dsimp only)) | (k_unfold; (try dsimp only)) | (walk1; (try dsimp only)) | (dsimp only; walk1) | fail "no step"))
  exact hret _ [] _ _ _ _ F N sub_nil ⟨_, rfl, rfl⟩
structure KeySt where
  made : Str
  last : Str
  t1 : Tok
  t2 : Tok
theorem con_soundex_key (w : World) (x : Str) (tx : Tok) (hx : x.length < 1000) : ConS w 135 2 80 [.str x tx] ⟨(sdxKey (x.cps.toList.map upc)).toArray⟩ := by
  ((have hfill : ∀ P : Params, PySem.Challenge.rw_pc0254_01.row.prog = PySem.Challenge.rw_pc0254_01.row.prog ∧ hd.heap_39 P = hd.heap_39 P := fun _ => ⟨rfl, rfl⟩); revert hfill; k_fill; intro hfill; clear hfill)
  k_dflt (refine' con_enter (binds := [(Str.ofString "text", .str x tx)]) ?k6 ?k7 ?k9 ?kB ?k8 ?_ ?c5 ?c2 ?c3 ?c4; ((case k6 => k_is); (case k7 => k_is); (case k8 => decide); (case k9 => exact fun _ => BindsTo.of_eq rfl); (case c5 => decide); (case kB => exact locs rfl); (case c2 => exact rfl); (case c3 => exact rfl); (case c4 => exact rfl)))
  intro mean mg mb dp fr gd un s Q g L h₁ F N X T hdp hun hret
  (try k_fold)
  (repeat' ((fail_if_success (with_reducible show wpAny _ _ (exec (Stmt.For _ _ _ _ _) _) _ _ _)); (fail_if_success (with_reducible show wpAny _ _ (exec (Stmt.While _ _ _ _) _) _ _ _)); (fail_if_success (with_reducible show wpAny _ _ (pyIter _) _ _ _)); (fail_if_success (with_reducible show wpAny _ _ (exec (Stmt.Assign _ (Expr.ListComp _ _ _ _) _) _) _ _ _)); (fail_if_success (with_reducible show wpAny _ _ (eval (Expr.ListComp _ _ _ _) _) _ _ _)); first | ((with_reducible show wpAny _ _ (call (Value.ref _) _) _ _ _); k_dflt (refine' con_useS ?zC ?zF ?zN ?zX ?zT ?zhA ?zhd ?zhu ?_); (case zC => first | exact con_soundex_code _ _ _ (by simp only [lt_A, Z_lt] at *; omega) (by simp only [lt_A, Z_lt] at *; omega) | exact con_raised_case _ _ _ (by omega)); (case zF => k_asm); (case zN => k_asm); (case zX => k_asm); (case zT => k_asm); (case zhA => rfl); (case zhd => first | exact room_b (by with_reducible assumption) rfl | exact room_a (by with_reducible assumption) rfl | omega | (simp only [Around.deeper, Around.in1]; omega)); (case zhu => first | exact room_b (by with_reducible assumption) rfl | exact room_a (by with_reducible assumption) rfl | omega | (simp only [Around.deeper, Around.in1]; omega)); intro _ _ _ _ _; (try k_sweep); (try dsimp only)) | (k_unfold; (try dsimp only)) | (walk1; (try dsimp only)) | (dsimp only; walk1) | fail "no step"))
  refine For_invV g rfl rfl ?_
  (repeat' ((fail_if_success (with_reducible show wpAny _ _ (exec (Stmt.For _ _ _ _ _) _) _ _ _)); (fail_if_success (with_reducible show wpAny _ _ (exec (Stmt.While _ _ _ _) _) _ _ _)); (fail_if_success (with_reducible show wpAny _ _ (pyIter _) _ _ _)); (fail_if_success (with_reducible show wpAny _ _ (exec (Stmt.Assign _ (Expr.ListComp _ _ _ _) _) _) _ _ _)); (fail_if_success (with_reducible show wpAny _ _ (eval (Expr.ListComp _ _ _ _) _) _ _ _)); first | ((with_reducible show wpAny _ _ (call (Value.ref _) _) _ _ _); k_dflt (refine' con_useS ?zC ?zF ?zN ?zX ?zT ?zhA ?zhd ?zhu ?_); (case zC => first | exact con_soundex_code _ _ _ (by simp only [lt_A, Z_lt] at *; omega) (by simp only [lt_A, Z_lt] at *; omega) | exact con_raised_case _ _ _ (by omega)); (case zF => k_asm); (case zN => k_asm); (case zX => k_asm); (case zT => k_asm); (case zhA => rfl); (case zhd => first | exact room_b (by with_reducible assumption) rfl | exact room_a (by with_reducible assumption) rfl | omega | (simp only [Around.deeper, Around.in1]; omega)); (case zhu => first | exact room_b (by with_reducible assumption) rfl | exact room_a (by with_reducible assumption) rfl | omega | (simp only [Around.deeper, Around.in1]; omega)); intro _ _ _ _ _; (try k_sweep); (try dsimp only)) | (k_unfold; (try dsimp only)) | (walk1; (try dsimp only)) | (dsimp only; walk1) | fail "no step"))
  rename Fr _ _ _ _ => F1
  rename News _ _ _ _ => N1
  refine m_for_str (σ := KeySt) (fun _ => []) (fun c => [(Str.ofString "made", .str c.made c.t1), (Str.ofString "last", .str c.last c.t2)])
      (fun k c => (c.made.cps.toList, c.last.cps.toList) = ((x.cps.toList.map upc).take k).foldl kstep ([], [])) [] rfl F1 N1 sub_nil ?start (fun _ _ _ => trivial) ?turn ?done
  case start =>
    exact ⟨⟨_, _, _, _⟩, sub_nil, ⟨rfl, rfl, trivial⟩, by show ((Str.ofString "").cps.toList, (Str.ofString "").cps.toList) = _; rw [cps_empty]; rfl⟩
  case done =>
    rintro c u h tk hc F' N'
    clear F1 N1
    have hlen : c.made.length ≤ 4 := by
      have := kfold_len ((x.cps.toList.map upc).take (⟨(x.cps.toList.map upc).toArray⟩ : Str).cps.size) ([], []) (by simp)
      rw [← hc] at this
      rw [← len_cps]; exact this
    dsimp only [kstB] at F'
    simp only [List.nil_append, List.cons_append] at N'
    (repeat' ((fail_if_success (with_reducible show wpAny _ _ (exec (Stmt.For _ _ _ _ _) _) _ _ _)); (fail_if_success (with_reducible show wpAny _ _ (exec (Stmt.While _ _ _ _) _) _ _ _)); (fail_if_success (with_reducible show wpAny _ _ (pyIter _) _ _ _)); (fail_if_success (with_reducible show wpAny _ _ (exec (Stmt.Assign _ (Expr.ListComp _ _ _ _) _) _) _ _ _)); (fail_if_success (with_reducible show wpAny _ _ (eval (Expr.ListComp _ _ _ _) _) _ _ _)); first | ((with_reducible show wpAny _ _ (call (Value.ref _) _) _ _ _); k_dflt (refine' con_useS ?zC ?zF ?zN ?zX ?zT ?zhA ?zhd ?zhu ?_); (case zC => first | exact con_soundex_code _ _ _ (by simp only [lt_A, Z_lt] at *; omega) (by simp only [lt_A, Z_lt] at *; omega) | exact con_raised_case _ _ _ (by omega)); (case zF => k_asm); (case zN => k_asm); (case zX => k_asm); (case zT => k_asm); (case zhA => rfl); (case zhd => first | exact room_b (by with_reducible assumption) rfl | exact room_a (by with_reducible assumption) rfl | omega | (simp only [Around.deeper, Around.in1]; omega)); (case zhu => first | exact room_b (by with_reducible assumption) rfl | exact room_a (by with_reducible assumption) rfl | omega | (simp only [Around.deeper, Around.in1]; omega)); intro _ _ _ _ _; (try k_sweep); (try dsimp only)) | (k_unfold; (try dsimp only)) | (walk1; (try dsimp only)) | (dsimp only; walk1) | fail "no step"))
    refine hret _ [] _ _ _ _ (by assumption) (by assumption) sub_nil ⟨_, congrArg (Value.str · _) ?_, rfl⟩
    have e1 : c.made.cps.toList = ((x.cps.toList.map upc).foldl kstep ([], [])).1 := by
      have := congrArg Prod.fst hc
      dsimp only at this
      rw [this, List.take_of_length_le (by simp)]
    have e2 : c.made.length = ((x.cps.toList.map upc).foldl kstep ([], [])).1.length := by rw [← len_cps, e1]
    have e3 : (c.made ++ Txt.mul (Str.ofString "0") (4 - (c.made.length : Int))).cps.toList = sdxKey (x.cps.toList.map upc) := by
      rw [show Str.ofString "0" = ⟨#[48]⟩ from by decide +kernel, Str.cps_append, Array.toList_append, mul_one_list, e1, sdxKey, e2]
      congr 2
      omega
    rw [← e3]
  case turn =>
    rintro k n t c u h tk own hn hc hs hk F' N'
    clear F1 N1
    have hlen : c.made.length ≤ 4 := by
      have := kfold_len ((x.cps.toList.map upc).take k) ([], []) (by simp)
      rw [← hc] at this
      rw [← len_cps]; exact this
    have hnx : (x.cps.toList.map upc)[k]? = some n := by simpa using hn
    have fin : ∀ (made last : Str) (t1 t2 : Tok) (h' : Heap) (tk' : Nat) (m' : Str → Option Value) (news' : List (Addr × Obj)), (made.cps.toList, last.cps.toList) = kstep (c.made.cps.toList, c.last.cps.toList) n → Fr g L h' m' → News g L h' news' → (∀ p ∈ own, p ∈ news') → Names m' [(Str.ofString "made", .str made t1), (Str.ofString "last", .str last t2)] →
        ∀ s₁ : Shared, ∀ Q', ForEnd g L s₁ (fun _ => []) (fun (c : KeySt) => [(Str.ofString "made", .str c.made c.t1), (Str.ofString "last", .str c.last c.t2)]) (fun (c : KeySt) => (c.made.cps.toList, c.last.cps.toList) = ((x.cps.toList.map upc).take (k + 1)).foldl kstep ([], [])) own Q' .next { s₁ with heap := h', toks := tk' } := by
      intro made last t1 t2 h' tk' m' news' e F2 N2 hsub hnm s₁ Q'
      refine ForEnd.intro ⟨made, last, t1, t2⟩ F2 N2 sub_nil hsub hnm ?_
      show (made.cps.toList, last.cps.toList) = _
      rw [e, hc, List.take_add_one, hnx]
      simp
    clear hc hs hn
    dsimp only [kstB] at F'
    simp only [List.nil_append, List.cons_append] at N'
    (try k_fold)
    (repeat' ((fail_if_success (with_reducible show wpAny _ _ (exec (Stmt.For _ _ _ _ _) _) _ _ _)); (fail_if_success (with_reducible show wpAny _ _ (exec (Stmt.While _ _ _ _) _) _ _ _)); (fail_if_success (with_reducible show wpAny _ _ (pyIter _) _ _ _)); (fail_if_success (with_reducible show wpAny _ _ (exec (Stmt.Assign _ (Expr.ListComp _ _ _ _) _) _) _ _ _)); (fail_if_success (with_reducible show wpAny _ _ (eval (Expr.ListComp _ _ _ _) _) _ _ _)); first | ((with_reducible show wpAny _ _ (call (Value.ref _) _) _ _ _); k_dflt (refine' con_useS ?zC ?zF ?zN ?zX ?zT ?zhA ?zhd ?zhu ?_); (case zC => first | exact con_soundex_code _ _ _ (by simp only [lt_A, Z_lt] at *; omega) (by simp only [lt_A, Z_lt] at *; omega) | exact con_raised_case _ _ _ (by omega)); (case zF => k_asm); (case zN => k_asm); (case zX => k_asm); (case zT => k_asm); (case zhA => rfl); (case zhd => first | exact room_b (by with_reducible assumption) rfl | exact room_a (by with_reducible assumption) rfl | omega | (simp only [Around.deeper, Around.in1]; omega)); (case zhu => first | exact room_b (by with_reducible assumption) rfl | exact room_a (by with_reducible assumption) rfl | omega | (simp only [Around.deeper, Around.in1]; omega)); intro _ _ _ _ _; (try k_sweep); (try dsimp only)) | (k_unfold; (try dsimp only)) | (walk1; (try dsimp only)) | (dsimp only; walk1) | fail "no step"))
    all_goals rename Fr _ _ _ _ => F2
    all_goals rename News _ _ _ _ => N2
    all_goals refine fin _ _ _ _ _ _ _ _ ?_ F2 N2 sub_rfl ⟨rfl, rfl, trivial⟩ _ _
    all_goals clear fin
    all_goals simp only [lt_A, Z_lt] at *
    all_goals try simp only [str_eq, str_ne, cps_0, cps_minus, cps_empty, decide_eq_true_eq, decide_eq_false_iff_not, Classical.not_not] at *
    all_goals (try simp only [sdx_item (show 65 ≤ n by omega) (show n ≤ 90 by omega)] at *)
    all_goals first
      | (rw [kstep, if_neg (by rw [len_cps]; omega)]; done)
      | (have q1 : 65 ≤ n := by omega
         have q2 : n ≤ 90 := by omega
         have q3 : c.made.cps.toList.length < 4 := by rw [len_cps]; omega
         rw [kstep, if_pos ⟨q1, q2, q3⟩]
         first
           | (rw [if_pos (by assumption)]; done)
           | (rw [if_neg (by assumption), if_neg (by simpa using (by assumption : [sdxc n] = [45]))]; done)
           | (rw [if_neg (by assumption), if_pos (by assumption), if_neg (fun h => absurd (by assumption : [sdxc n] = [48]) h.1)]; done)
           | (rw [if_neg (by assumption), if_pos (by assumption), if_neg (fun h => absurd (by assumption : [sdxc n] = c.last.cps.toList) h.2)]; done)
           | (rw [if_neg (by assumption), if_pos (by assumption), if_pos ⟨by assumption, by assumption⟩, Str.cps_append, Array.toList_append, sdx_item q1 q2]; done))
theorem con_php_soundex (w : World) (host : Value) (l : Addr) (x : Str) (tx : Tok) (n : Nat) (hx : x.length < 1000) :
    Con w 142 3 100 [(l, listOf [Value.str x tx].toArray n)] [host, .ref l] (fun v new => (∃ t, v = .str ⟨(sdxKey (x.cps.toList.map upc)).toArray⟩ t) ∧ new = []) := by
  ((have hfill : ∀ P : Params, PySem.Challenge.rw_pc0254_01.row.prog = PySem.Challenge.rw_pc0254_01.row.prog ∧ hd.heap_39 P = hd.heap_39 P := fun _ => ⟨rfl, rfl⟩); revert hfill; k_fill; intro hfill; clear hfill)
  k_dflt (refine' con_enter (binds := [(Str.ofString "host", host), (Str.ofString "args", .ref l)]) ?k6 ?k7 ?k9 ?kB ?k8 ?_ ?c5 ?c2 ?c3 ?c4; ((case k6 => k_is); (case k7 => k_is); (case k8 => decide); (case k9 => exact fun _ => BindsTo.of_eq rfl); (case c5 => decide); (case kB => exact locs rfl); (case c2 => exact rfl); (case c3 => exact rfl); (case c4 => exact rfl)))
  intro mean mg mb dp fr gd un s Q g L h₁ F N X T hdp hun hret
  (try k_fold)
  (repeat' ((fail_if_success (with_reducible show wpAny _ _ (exec (Stmt.For _ _ _ _ _) _) _ _ _)); (fail_if_success (with_reducible show wpAny _ _ (exec (Stmt.While _ _ _ _) _) _ _ _)); (fail_if_success (with_reducible show wpAny _ _ (pyIter _) _ _ _)); (fail_if_success (with_reducible show wpAny _ _ (exec (Stmt.Assign _ (Expr.ListComp _ _ _ _) _) _) _ _ _)); (fail_if_success (with_reducible show wpAny _ _ (eval (Expr.ListComp _ _ _ _) _) _ _ _)); first | ((with_reducible show wpAny _ _ (call (Value.ref _) _) _ _ _); k_dflt (refine' con_useS ?zC ?zF ?zN ?zX ?zT ?zhA ?zhd ?zhu ?_); (case zC => first | exact con_soundex_key _ _ _ (by omega) | exact con_soundex_code _ _ _ (by simp only [lt_A, Z_lt] at *; omega) (by simp only [lt_A, Z_lt] at *; omega) | exact con_raised_case _ _ _ (by omega)); (case zF => k_asm); (case zN => k_asm); (case zX => k_asm); (case zT => k_asm); (case zhA => rfl); (case zhd => first | exact room_b (by with_reducible assumption) rfl | exact room_a (by with_reducible assumption) rfl | omega | (simp only [Around.deeper, Around.in1]; omega)); (case zhu => first | exact room_b (by with_reducible assumption) rfl | exact room_a (by with_reducible assumption) rfl | omega | (simp only [Around.deeper, Around.in1]; omega)); intro _ _ _ _ _; (try k_sweep); (try dsimp only)) | (k_unfold; (try dsimp only)) | (walk1; (try dsimp only)) | (dsimp only; walk1) | fail "no step"))
  exact hret _ [] _ _ _ _ (by assumption) (by assumption) sub_nil ⟨⟨_, rfl⟩, rfl⟩
end
section
theorem con_php_similar (w : World) (host : Value) (l : Addr) (a b : Str) (ta tb : Tok) (n : Nat) (ha : a.length < 1000) (hb : b.length < 1000) :
    Con w 109 4 80 [(l, listOf [Value.str a ta, .str b tb].toArray n)] [host, .ref l] (fun v new => (∃ t, v = .int (sim a.cps.toList b.cps.toList) t) ∧ new = []) := by
  ((have hfill : ∀ P : Params, PySem.Challenge.rw_pc0254_01.row.prog = PySem.Challenge.rw_pc0254_01.row.prog ∧ hd.heap_39 P = hd.heap_39 P := fun _ => ⟨rfl, rfl⟩); revert hfill; k_fill; intro hfill; clear hfill)
  k_dflt (refine' con_enter (binds := [(Str.ofString "host", host), (Str.ofString "args", .ref l)]) ?k6 ?k7 ?k9 ?kB ?k8 ?_ ?c5 ?c2 ?c3 ?c4; ((case k6 => k_is); (case k7 => k_is); (case k8 => decide); (case k9 => exact fun _ => BindsTo.of_eq rfl); (case c5 => decide); (case kB => exact locs rfl); (case c2 => exact rfl); (case c3 => exact rfl); (case c4 => exact rfl)))
  intro mean mg mb dp fr gd un s Q g L h₁ F N X T hdp hun hret
  (try k_fold)
  (repeat' ((fail_if_success (with_reducible show wpAny _ _ (exec (Stmt.For _ _ _ _ _) _) _ _ _)); (fail_if_success (with_reducible show wpAny _ _ (exec (Stmt.While _ _ _ _) _) _ _ _)); (fail_if_success (with_reducible show wpAny _ _ (pyIter _) _ _ _)); (fail_if_success (with_reducible show wpAny _ _ (exec (Stmt.Assign _ (Expr.ListComp _ _ _ _) _) _) _ _ _)); (fail_if_success (with_reducible show wpAny _ _ (eval (Expr.ListComp _ _ _ _) _) _ _ _)); first | ((with_reducible show wpAny _ _ (call (Value.ref _) _) _ _ _); k_dflt (refine' con_useI ?zC ?zF ?zN ?zX ?zT ?zhA ?zhd ?zhu ?_); (case zC => exact con_similar _ _ _ _ _ (by omega) (by omega)); (case zF => k_asm); (case zN => k_asm); (case zX => k_asm); (case zT => k_asm); (case zhA => rfl); (case zhd => first | exact room_b (by with_reducible assumption) rfl | exact room_a (by with_reducible assumption) rfl | omega | (simp only [Around.deeper, Around.in1]; omega)); (case zhu => first | exact room_b (by with_reducible assumption) rfl | exact room_a (by with_reducible assumption) rfl | omega | (simp only [Around.deeper, Around.in1]; omega)); intro _ _ _ _ _; (try k_sweep); (try dsimp only)) | (k_unfold; (try dsimp only)) | (walk1; (try dsimp only)) | (dsimp only; walk1) | fail "no step"))
  exact hret _ [] _ _ _ _ (by assumption) (by assumption) sub_nil ⟨⟨_, rfl⟩, rfl⟩
theorem con_least (w : World) : ConI w 60 1 20 [] (-(2 ^ 63)) := by
  ((have hfill : ∀ P : Params, PySem.Challenge.rw_pc0254_01.row.prog = PySem.Challenge.rw_pc0254_01.row.prog ∧ hd.heap_39 P = hd.heap_39 P := fun _ => ⟨rfl, rfl⟩); revert hfill; k_fill; intro hfill; clear hfill)
  k_dflt (refine' con_enter (binds := []) ?k6 ?k7 ?k9 ?kB ?k8 ?_ ?c5 ?c2 ?c3 ?c4; ((case k6 => k_is); (case k7 => k_is); (case k8 => decide); (case k9 => exact fun _ => BindsTo.of_eq rfl); (case c5 => decide); (case kB => exact locs rfl); (case c2 => exact rfl); (case c3 => exact rfl); (case c4 => exact rfl)))
  intro mean mg mb dp fr gd un s Q g L h₁ F N X T hdp hun hret
  (try k_fold)
  (repeat' ((fail_if_success (with_reducible show wpAny _ _ (exec (Stmt.For _ _ _ _ _) _) _ _ _)); (fail_if_success (with_reducible show wpAny _ _ (exec (Stmt.While _ _ _ _) _) _ _ _)); (fail_if_success (with_reducible show wpAny _ _ (pyIter _) _ _ _)); (fail_if_success (with_reducible show wpAny _ _ (exec (Stmt.Assign _ (Expr.ListComp _ _ _ _) _) _) _ _ _)); (fail_if_success (with_reducible show wpAny _ _ (eval (Expr.ListComp _ _ _ _) _) _ _ _)); first | ((with_reducible show wpAny _ _ (call (Value.ref _) _) _ _ _); k_dflt (refine' con_useI ?zC ?zF ?zN ?zX ?zT ?zhA ?zhd ?zhu ?_); (case zC => exact con_similar _ _ _ _ _ (by omega) (by omega)); (case zF => k_asm); (case zN => k_asm); (case zX => k_asm); (case zT => k_asm); (case zhA => rfl); (case zhd => first | exact room_b (by with_reducible assumption) rfl | exact room_a (by with_reducible assumption) rfl | omega | (simp only [Around.deeper, Around.in1]; omega)); (case zhu => first | exact room_b (by with_reducible assumption) rfl | exact room_a (by with_reducible assumption) rfl | omega | (simp only [Around.deeper, Around.in1]; omega)); intro _ _ _ _ _; (try k_sweep); (try dsimp only)) | (k_unfold; (try dsimp only)) | (walk1; (try dsimp only)) | (dsimp only; walk1) | fail "no step"))
  exact hret _ [] _ _ _ _ (by assumption) (by assumption) sub_nil ⟨_, rfl, rfl⟩
theorem con_greatest (w : World) : ConI w 67 1 20 [] (2 ^ 63 - 1) := by
  ((have hfill : ∀ P : Params, PySem.Challenge.rw_pc0254_01.row.prog = PySem.Challenge.rw_pc0254_01.row.prog ∧ hd.heap_39 P = hd.heap_39 P := fun _ => ⟨rfl, rfl⟩); revert hfill; k_fill; intro hfill; clear hfill)
  k_dflt (refine' con_enter (binds := []) ?k6 ?k7 ?k9 ?kB ?k8 ?_ ?c5 ?c2 ?c3 ?c4; ((case k6 => k_is); (case k7 => k_is); (case k8 => decide); (case k9 => exact fun _ => BindsTo.of_eq rfl); (case c5 => decide); (case kB => exact locs rfl); (case c2 => exact rfl); (case c3 => exact rfl); (case c4 => exact rfl)))
  intro mean mg mb dp fr gd un s Q g L h₁ F N X T hdp hun hret
  (try k_fold)
  (repeat' ((fail_if_success (with_reducible show wpAny _ _ (exec (Stmt.For _ _ _ _ _) _) _ _ _)); (fail_if_success (with_reducible show wpAny _ _ (exec (Stmt.While _ _ _ _) _) _ _ _)); (fail_if_success (with_reducible show wpAny _ _ (pyIter _) _ _ _)); (fail_if_success (with_reducible show wpAny _ _ (exec (Stmt.Assign _ (Expr.ListComp _ _ _ _) _) _) _ _ _)); (fail_if_success (with_reducible show wpAny _ _ (eval (Expr.ListComp _ _ _ _) _) _ _ _)); first | ((with_reducible show wpAny _ _ (call (Value.ref _) _) _ _ _); k_dflt (refine' con_useI ?zC ?zF ?zN ?zX ?zT ?zhA ?zhd ?zhu ?_); (case zC => exact con_similar _ _ _ _ _ (by omega) (by omega)); (case zF => k_asm); (case zN => k_asm); (case zX => k_asm); (case zT => k_asm); (case zhA => rfl); (case zhd => first | exact room_b (by with_reducible assumption) rfl | exact room_a (by with_reducible assumption) rfl | omega | (simp only [Around.deeper, Around.in1]; omega)); (case zhu => first | exact room_b (by with_reducible assumption) rfl | exact room_a (by with_reducible assumption) rfl | omega | (simp only [Around.deeper, Around.in1]; omega)); intro _ _ _ _ _; (try k_sweep); (try dsimp only)) | (k_unfold; (try dsimp only)) | (walk1; (try dsimp only)) | (dsimp only; walk1) | fail "no step"))
  exact hret _ [] _ _ _ _ (by assumption) (by assumption) sub_nil ⟨_, rfl, rfl⟩
end
local macro_rules | `(tactic| walk_at "subscriptTail Name Constant ref int") => `(tactic| ((with_reducible show wpAny _ _ (subscriptTail _ _ (Value.ref _) (Value.int _ _)) _ _ _); k_dflt (refine' my_item ?N ?m ?z ?ft ?x ?_ ?s ?g; (case N => k_asm); (case m => k_mem); (case z => decide); (case ft => decide); (case x => exact (rfl : _ = some (Value.int _ _))); (case s => with_unfolding_all rfl); (case g => (intro _; with_unfolding_all rfl)))))
local macro_rules | `(tactic| walk_at "binaryOp Pow int int") => `(tactic| (k_dflt (refine' PyProof.Rows.pow_int_small ?a ?b ?c ?_; (case a => first | omega | decide); (case b => first | omega | decide); (case c => decide))))
section
noncomputable abbrev penO (n k : Int) (t u : Tok) (e : Nat) : Obj := listOf [Value.int n t, .int k u].toArray e
structure PenTo (n k many : Int) (v : Value) (o' : Obj) : Prop where
  val : ∃ r t, v = .int r t ∧ 0 ≤ r ∧ r < many
  pen : ∃ n' t u e, o' = penO n' (k + 1) t u e
theorem con_law_take (w : World) (P : Addr) (n k many : Int) (t u tm : Tok) (e : Nat) (hk : 0 ≤ k) (hk2 : k < 500) (hm : 0 < many) (hm2 : many < 100) :
    Con w 277 1 40 [(P, penO n k t u e)] [.ref P, .int many tm] (fun v new => ∃ o', PenTo n k many v o' ∧ new = [(P, o')]) := by
  ((have hfill : ∀ P : Params, PySem.Challenge.rw_pc0254_01.row.prog = PySem.Challenge.rw_pc0254_01.row.prog ∧ hd.heap_39 P = hd.heap_39 P := fun _ => ⟨rfl, rfl⟩); revert hfill; k_fill; intro hfill; clear hfill)
  k_dflt (refine' con_enter (binds := [(Str.ofString "pen", .ref P), (Str.ofString "many", .int many tm)]) ?k6 ?k7 ?k9 ?kB ?k8 ?_ ?c5 ?c2 ?c3 ?c4; ((case k6 => k_is); (case k7 => k_is); (case k8 => decide); (case k9 => exact fun _ => BindsTo.of_eq rfl); (case c5 => decide); (case kB => exact locs rfl); (case c2 => exact rfl); (case c3 => exact rfl); (case c4 => exact rfl)))
  intro mean mg mb dp fr gd un s Q g L h₁ F N X T hdp hun hret
  (try k_fold)
  (repeat' ((fail_if_success (with_reducible show wpAny _ _ (exec (Stmt.For _ _ _ _ _) _) _ _ _)); (fail_if_success (with_reducible show wpAny _ _ (exec (Stmt.While _ _ _ _) _) _ _ _)); (fail_if_success (with_reducible show wpAny _ _ (pyIter _) _ _ _)); (fail_if_success (with_reducible show wpAny _ _ (exec (Stmt.Assign _ (Expr.ListComp _ _ _ _) _) _) _ _ _)); (fail_if_success (with_reducible show wpAny _ _ (eval (Expr.ListComp _ _ _ _) _) _ _ _)); first | (k_unfold; (try dsimp only)) | (walk1; (try dsimp only)) | (dsimp only; walk1) | fail "no step"))
  refine hret _ [(P, _)] _ _ _ _ (by assumption) (by assumption) (fun p hp => hp) ⟨_, ⟨⟨_, _, rfl, ?_, ?_⟩, ⟨_, _, _, _, rfl⟩⟩, rfl⟩
  · exact Int.fmod_nonneg_of_pos _ hm
  · exact Int.fmod_lt_of_pos _ hm
end
section
theorem ints_of_mem : ∀ {vs : List Value}, (∀ v ∈ vs, ∃ n t, v = .int n t) → ∃ ns, IntsAre vs ns
  | [], _ => ⟨[], .nil⟩
  | v :: vs, h => by
    obtain ⟨n, t, rfl⟩ := h v List.mem_cons_self
    obtain ⟨ns, q⟩ := ints_of_mem fun x hx => h x (List.mem_cons_of_mem _ hx)
    exact ⟨n :: ns, .cons n t q⟩
theorem ints_mem {vs : List Value} {ns : List Int} (h : IntsAre vs ns) : ∀ v ∈ vs, ∃ n t, v = .int n t := by
  induction h with
  | nil => exact fun _ h => absurd h List.not_mem_nil
  | cons n t _ ih =>
    intro v hv
    rcases List.mem_cons.mp hv with e | hv
    · exact ⟨n, t, e⟩
    · exact ih v hv
theorem ints_pick {vs : List Value} {ns : List Int} {lo hi st : Option Int} (h : IntsAre vs ns) : ∃ ms, IntsAre (slicePick vs.toArray lo hi st).toList ms := by
  refine ints_of_mem fun v hv => ints_mem h v ?_
  unfold slicePick at hv
  simp only [List.mem_filterMap] at hv
  obtain ⟨k, _, e⟩ := hv
  simp at e
  exact List.mem_of_getElem? e
section
variable {prog : Program} {w : World} {A : Around} {E : Value → Shared → Prop} {s : Shared} {h₀ : Heap} {L l : Addr} {m : Str → Option Value} {news : List (Addr × Obj)} {value slice : PySem.Expr} {vs : List Value} {ns : List Int} {vl vu vk : Value} {lo hi st : Option Int} {Q : Value → Shared → Prop}
theorem my_slice3I {h₁ : Heap} {gg dd tt oo} {n : Nat} {ops : List Value} (F : Fr h₀ L h₁ m) (N : News h₀ L h₁ news) (hm : (l, listOf vs.toArray n) ∈ news) (hI : IntsAre vs ns) (pl : IsPart vl lo) (pu : IsPart vu hi) (pk : IsPart vk st) (h0 : st ≠ some 0) (hz : vs.length ≤ sizeLine)
    (h : ∀ D ws ms h', Fr h₀ L h' m → News h₀ L h' ((D, listOf (List.toArray ws) 0) :: news) → (∀ p ∈ news, p.1 < D) → IntsAre ws ms → ms.length ≤ vs.length → Q (.ref D) { heap := h', gens := gg, drawn := dd, toks := tt, os := oo })
    (hs : subscripted slice false (.ref l) (.ref h₁.objs.size) = operate ops (getItem (.ref l) (.ref h₁.objs.size))) (ht : ∀ r, letTemporaryGo value (.ref l) r = pure ()) :
    wpAny (model prog w) A (subscriptTail value slice (.ref l) (.ref h₁.objs.size)) Q E { heap := h₁.push { cls := .type "slice", data := .fields #[vl, vu, vk] }, gens := gg, drawn := dd, toks := tt, os := oo } := by
  obtain ⟨ms, hms⟩ := ints_pick (lo := lo) (hi := hi) (st := st) hI
  refine kmk_slice3_lit (s := { heap := h₁, gens := gg, drawn := dd, toks := tt, os := oo }) F N (News.isList N hm) pl pu pk h0 rfl (fun D h' F' N' l1 => h D _ ms h' F' N' l1 hms ?_) hs ht (by simpa using hz)
  rw [← hms.length, Array.length_toList]
  exact slicePick_size_le vs.toArray lo hi st
end
end
local macro_rules | `(tactic| walk_at "subscriptTail Name Slice ref ref") => `(tactic| (k_dflt (refine' my_slice3I ?F ?N ?l ?i ?p ?q ?k ?o ?z ?_ ?s ?t; (case F => k_asm); (case N => k_asm); (case l => k_mem); (case i => assumption); (case p => kmk_part); (case q => kmk_part); (case k => kmk_part); (case o => decide); (case z => (rw [PySem.sizeLine_eq]; omega)); (case s => with_unfolding_all rfl); (case t => kmk_pure)); intro D' ws ms h' F' N' l1 i1 i2; (try k_lt l1); (try k_sweep)))
section
theorem con_law_pen (w : World) (S : Addr) (vs : List Value) (ns : List Int) (n : Nat) (nth : Int) (tn : Tok) (hI : IntsAre vs ns) (hv : vs.length < 100) :
    Con w 270 1 40 [(S, listOf vs.toArray n)] [.ref S, .int nth tn] (fun v new => ∃ P k t u, v = .ref P ∧ new = [(P, penO k (17 * nth) t u 0), (S, listOf vs.toArray n)] ∧ P ≠ S) := by
  ((have hfill : ∀ P : Params, PySem.Challenge.rw_pc0254_01.row.prog = PySem.Challenge.rw_pc0254_01.row.prog ∧ hd.heap_39 P = hd.heap_39 P := fun _ => ⟨rfl, rfl⟩); revert hfill; k_fill; intro hfill; clear hfill)
  k_dflt (refine' con_enter (binds := [(Str.ofString "script", .ref S), (Str.ofString "nth", .int nth tn)]) ?k6 ?k7 ?k9 ?kB ?k8 ?_ ?c5 ?c2 ?c3 ?c4; ((case k6 => k_is); (case k7 => k_is); (case k8 => decide); (case k9 => exact fun _ => BindsTo.of_eq rfl); (case c5 => decide); (case kB => exact locs rfl); (case c2 => exact rfl); (case c3 => exact rfl); (case c4 => exact rfl)))
  intro mean mg mb dp fr gd un s Q g L h₁ F N X T hdp hun hret
  (try k_fold)
  (repeat' ((fail_if_success (with_reducible show wpAny _ _ (exec (Stmt.For _ _ _ _ _) _) _ _ _)); (fail_if_success (with_reducible show wpAny _ _ (exec (Stmt.While _ _ _ _) _) _ _ _)); (fail_if_success (with_reducible show wpAny _ _ (pyIter _) _ _ _)); (fail_if_success (with_reducible show wpAny _ _ (exec (Stmt.Assign _ (Expr.ListComp _ _ _ _) _) _) _ _ _)); (fail_if_success (with_reducible show wpAny _ _ (eval (Expr.ListComp _ _ _ _) _) _ _ _)); first | (k_unfold; (try dsimp only)) | (walk1; (try dsimp only)) | (dsimp only; walk1) | fail "no step"))
  refine For_invV g rfl rfl ?_
  (repeat' ((fail_if_success (with_reducible show wpAny _ _ (exec (Stmt.For _ _ _ _ _) _) _ _ _)); (fail_if_success (with_reducible show wpAny _ _ (exec (Stmt.While _ _ _ _) _) _ _ _)); (fail_if_success (with_reducible show wpAny _ _ (pyIter _) _ _ _)); (fail_if_success (with_reducible show wpAny _ _ (exec (Stmt.Assign _ (Expr.ListComp _ _ _ _) _) _) _ _ _)); (fail_if_success (with_reducible show wpAny _ _ (eval (Expr.ListComp _ _ _ _) _) _ _ _)); first | (k_unfold; (try dsimp only)) | (walk1; (try dsimp only)) | (dsimp only; walk1) | fail "no step"))
  rename Fr _ _ _ _ => F1
  rename News _ _ _ _ => N1
  rename IntsAre _ _ => i1
  refine m_for_list (σ := Int × Tok) (fun _ => []) (fun c => [(Str.ofString "script", .ref S), (Str.ofString "nth", .int nth tn), (Str.ofString "number", .int c.1 c.2)]) (fun _ _ => True) _ rfl F1 N1 sub_rfl List.mem_cons_self ?start (fun _ _ _ => trivial) ?turn ?done
  case start => exact ⟨⟨_, _⟩, sub_nil, ⟨rfl, rfl, rfl, trivial⟩, trivial⟩
  case turn =>
    rintro i v c u h tk own hv - hs hk F' N'
    obtain ⟨x, tx, rfl⟩ := ints_mem i1 v (List.mem_of_getElem? (by simpa using hv))
    clear F1 N1
    dsimp only [kstB] at F'
    simp only [List.nil_append] at N'
    (try k_fold)
    (repeat' ((fail_if_success (with_reducible show wpAny _ _ (exec (Stmt.For _ _ _ _ _) _) _ _ _)); (fail_if_success (with_reducible show wpAny _ _ (exec (Stmt.While _ _ _ _) _) _ _ _)); (fail_if_success (with_reducible show wpAny _ _ (pyIter _) _ _ _)); (fail_if_success (with_reducible show wpAny _ _ (exec (Stmt.Assign _ (Expr.ListComp _ _ _ _) _) _) _ _ _)); (fail_if_success (with_reducible show wpAny _ _ (eval (Expr.ListComp _ _ _ _) _) _ _ _)); first | (k_unfold; (try dsimp only)) | (walk1; (try dsimp only)) | (dsimp only; walk1) | fail "no step"))
    rename Fr _ _ _ _ => F2
    rename News _ _ _ _ => N2
    exact ForEnd.intro ⟨_, _⟩ F2 N2 sub_nil sub_rfl ⟨rfl, rfl, rfl, trivial⟩ trivial
  case done =>
    rintro c u h tk - F' N'
    clear F1 N1
    dsimp only [kstB] at F'
    simp only [List.nil_append] at N'
    (try k_fold)
    (repeat' ((fail_if_success (with_reducible show wpAny _ _ (exec (Stmt.For _ _ _ _ _) _) _ _ _)); (fail_if_success (with_reducible show wpAny _ _ (exec (Stmt.While _ _ _ _) _) _ _ _)); (fail_if_success (with_reducible show wpAny _ _ (pyIter _) _ _ _)); (fail_if_success (with_reducible show wpAny _ _ (exec (Stmt.Assign _ (Expr.ListComp _ _ _ _) _) _) _ _ _)); (fail_if_success (with_reducible show wpAny _ _ (eval (Expr.ListComp _ _ _ _) _) _ _ _)); first | (k_unfold; (try dsimp only)) | (walk1; (try dsimp only)) | (dsimp only; walk1) | fail "no step"))
    refine hret _ [(_, _), (S, listOf vs.toArray n)] _ _ _ _ (by assumption) (by assumption) (sub_cons List.mem_cons_self (sub_cons ?mm sub_nil)) ⟨_, _, _, _, rfl, rfl, ?ne⟩
    case mm => k_mem
    case ne =>
      rename _ ∧ S < _ => hlt
      exact Nat.ne_of_gt hlt.2
end
local macro_rules | `(tactic| walk_at "subscriptTail") => `(tactic| ((with_reducible show wpAny _ _ (subscriptTail _ _ (Value.str _ _) (Value.int _ _)) _ _ _); k_dflt (refine' item_str ?f ?lo ?hi ?_; (case f => exact fitsSsize_of (N := 9223372036854775808) (by omega) (by omega) (Int.le_refl _)); (case lo => omega); (case hi => omega)); intro _))
section
section
variable {w : World} {A : Around} {E : Value → Shared → Prop} {s : Shared} {h₀ : Heap} {L P : Addr} {m : Str → Option Value} {news : List (Addr × Obj)} {mean : ExcName → Option Value} {mg mb : Str → Option Value} {Q : Value → Shared → Prop}
theorem my_take {n k many : Int} {t u tm : Tok} {e : Nat} {go : Obj → List (Addr × Obj)} (F : Fr h₀ L s.heap m) (N : News h₀ L s.heap news) (X : (hd.heap_39 w.params).In h₀) (T : Top hd.view_39 (looseW hd.view_39 []) mean mg mb h₀)
    (U : ∀ o', UpdO P (penO n k t u e) o' news (go o')) (hk : 0 ≤ k ∧ k < 500) (hm : 0 < many ∧ many < 100) (hA : A.handled = none) (hdp : A.depth + 1 < recursionLimit) (hun : A.units + 40 < cLine)
    (h : ∀ r tr n' t' u' e' h' tk, Fr h₀ L h' m → News h₀ L h' (go (penO n' (k + 1) t' u' e')) → 0 ≤ r → r < many → Q (.int r tr) { s with heap := h', toks := tk }) :
    wpAny (model PySem.Challenge.rw_pc0254_01.row.prog w) A (call (.ref 277) [.ref P, .int many tm]) Q E s :=
  con_useU (con_law_take w P n k many t u tm e hk.1 hk.2 hm.1 hm.2) F N X T rfl U hA hdp hun fun v o' h' tk F' N' ⟨⟨r, tr, hv, h1, h2⟩, ⟨n', t', u', e', ho⟩⟩ => by
    subst hv ho; exact h r tr n' t' u' e' h' tk F' N' h1 h2
end
structure TextTo (cs : List Nat) (most k : Int) (v : Value) (o' : Obj) : Prop where
  val : ∃ xs t, v = .str ⟨List.toArray xs⟩ t ∧ (xs.length : Int) ≤ most ∧ ∀ c ∈ xs, c ∈ cs
  pen : ∃ n' k' t u e, o' = penO n' k' t u e ∧ k ≤ k' ∧ k' ≤ k + most + 1
structure PenAt where
  p : Addr
  n : Int
  k : Int
  t : Tok
  u : Tok
  e : Nat
noncomputable def PenAt.led (c : PenAt) : List (Addr × Obj) := [(c.p, penO c.n c.k c.t c.u c.e)]
theorem con_law_text (w : World) (P : Addr) (n k most : Int) (t u tm ts : Tok) (e : Nat) (sg : Str) (hk : 0 ≤ k ∧ k < 300) (hm : 0 ≤ most ∧ most < 50) (hs : 0 < sg.length ∧ sg.length < 50) :
    Con w 282 3 80 [(P, penO n k t u e)] [.ref P, .str sg ts, .int most tm] (fun v new => ∃ o', TextTo sg.cps.toList most k v o' ∧ new = [(P, o')]) := by
  ((have hfill : ∀ P : Params, PySem.Challenge.rw_pc0254_01.row.prog = PySem.Challenge.rw_pc0254_01.row.prog ∧ hd.heap_39 P = hd.heap_39 P := fun _ => ⟨rfl, rfl⟩); revert hfill; k_fill; intro hfill; clear hfill)
  k_dflt (refine' con_enterC [(Str.ofString "pen", .ref P), (Str.ofString "signs", .str sg ts), (Str.ofString "most", .int most tm)] [(Str.ofString "most", .int most tm)] (fun L => [(Str.ofString "signs", L + 1 + 1), (Str.ofString "pen", L + 1)]) ?k6 ?k7 ?k9 ?kB ?k8 ?nd ?lo ?cs ?_ ?c2 ?c3 ?c4; (case k6 => k_is); (case k7 => k_is); (case k8 => decide); (case k9 => exact fun _ => BindsTo.of_eq rfl); (case kB => exact rfl); (case nd => decide +kernel); (case lo => exact fun _ => rfl); (case cs => exact fun _ => rfl); (case c2 => exact rfl); (case c3 => exact rfl); (case c4 => exact rfl))
  intro mean mg mb dp fr gd un s Q g L h₁ tk cells F N Y hold X T hdp hun hret
  obtain ⟨o1, o2, rfl, h1, h2⟩ := CellsAre.two Y
  replace h1 : o1.data = .cell (some (.str sg ts)) := h1
  replace h2 : o2.data = .cell (some (.ref P)) := h2
  clear Y
  dsimp only [kstB] at F
  simp only [List.cons_append, List.nil_append] at N
  have hP : P < L := hold _ List.mem_cons_self
  have hP1 : L + 1 ≠ P := Nat.ne_of_gt (Nat.lt_succ_of_lt hP)
  have hP2 : L + 1 + 1 ≠ P := Nat.ne_of_gt (Nat.lt_succ_of_lt (Nat.lt_succ_of_lt hP))
  (try k_fold)
  (repeat' ((fail_if_success (with_reducible show wpAny _ _ (exec (Stmt.For _ _ _ _ _) _) _ _ _)); (fail_if_success (with_reducible show wpAny _ _ (exec (Stmt.While _ _ _ _) _) _ _ _)); (fail_if_success (with_reducible show wpAny _ _ (pyIter _) _ _ _)); (fail_if_success (with_reducible show wpAny _ _ (exec (Stmt.Assign _ (Expr.ListComp _ _ _ _) _) _) _ _ _)); (fail_if_success (with_reducible show wpAny _ _ (eval (Expr.ListComp _ _ _ _) _) _ _ _)); first | (((with_reducible show wpAny _ _ (call (Value.ref 277) _) _ _ _); k_dflt (refine' my_take ?zF ?zN ?zX ?zT ?zU ?zhk ?zhm ?zhA ?zhd ?zhu ?_; (case zF => k_asm); (case zN => k_asm); (case zX => k_asm); (case zT => k_asm); (case zU => (intro _; tb_start)); (case zhk => ((try dsimp only); omega)); (case zhm => ((try dsimp only); omega)); (case zhA => rfl); (case zhd => (first | exact room_b (by with_reducible assumption) rfl | exact room_a (by with_reducible assumption) rfl | omega | (simp only [Around.deeper, Around.in1]; omega))); (case zhu => (first | exact room_b (by with_reducible assumption) rfl | exact room_a (by with_reducible assumption) rfl | omega | (simp only [Around.deeper, Around.in1]; omega)))); intro _ _ _ _ _ _ _ _ _ _ _ _; (try k_sweep)); (try dsimp only)) | (k_unfold; (try dsimp only)) | (walk1; (try dsimp only)) | (dsimp only; walk1) | fail "no step"))
  refine m_ListComp (by with_unfolding_all rfl) rfl (by decide) ?_
  (repeat' ((fail_if_success (with_reducible show wpAny _ _ (exec (Stmt.For _ _ _ _ _) _) _ _ _)); (fail_if_success (with_reducible show wpAny _ _ (exec (Stmt.While _ _ _ _) _) _ _ _)); (fail_if_success (with_reducible show wpAny _ _ (pyIter _) _ _ _)); (fail_if_success (with_reducible show wpAny _ _ (exec (Stmt.Assign _ (Expr.ListComp _ _ _ _) _) _) _ _ _)); (fail_if_success (with_reducible show wpAny _ _ (eval (Expr.ListComp _ _ _ _) _) _ _ _)); first | (((with_reducible show wpAny _ _ (call (Value.ref 277) _) _ _ _); k_dflt (refine' my_take ?zF ?zN ?zX ?zT ?zU ?zhk ?zhm ?zhA ?zhd ?zhu ?_; (case zF => k_asm); (case zN => k_asm); (case zX => k_asm); (case zT => k_asm); (case zU => (intro _; tb_start)); (case zhk => ((try dsimp only); omega)); (case zhm => ((try dsimp only); omega)); (case zhA => rfl); (case zhd => (first | exact room_b (by with_reducible assumption) rfl | exact room_a (by with_reducible assumption) rfl | omega | (simp only [Around.deeper, Around.in1]; omega))); (case zhu => (first | exact room_b (by with_reducible assumption) rfl | exact room_a (by with_reducible assumption) rfl | omega | (simp only [Around.deeper, Around.in1]; omega)))); intro _ _ _ _ _ _ _ _ _ _ _ _; (try k_sweep)); (try dsimp only)) | (k_unfold; (try dsimp only)) | (walk1; (try dsimp only)) | (dsimp only; walk1) | fail "no step"))
  rename Fr _ _ _ _ => F1
  rename News _ _ _ _ => N1
  rename IsRange _ _ _ _ _ _ _ _ => R1
  rename_i r _ n1 t1 u1 e1 _ _ hr1 hr2 _ _ _ _ _ _ _ _ _
  refine m_comp_range (σ := PenAt) PenAt.led [(L + 1 + 1, o1), (L + 1, o2)] [(L + 1 + 1, o1), (L + 1, o2)] [P] (fun i acc c => c.p = P ∧ c.k = k + 1 + i ∧ ∃ ys : List Nat, StrsAre acc.toList (ys.map fun c => ⟨#[c]⟩) ∧ ys.length = i ∧ ∀ y ∈ ys, y ∈ sg.cps.toList) r.toNat rfl R1 (by omega) (by omega) (by omega) (by omega) (by omega) (by rw [PySem.sizeLine_eq]; omega) F1 N1 X T (by decide) rfl rfl ?vis ?start ?adr ?rest ?acc ?turn ?done
  case vis => exact sub_cons (by simp) (sub_cons (by simp) sub_nil)
  case start => exact ⟨⟨P, n1, k + 1, t1, u1, e1⟩, sub_cons (by simp [PenAt.led]) sub_nil, rfl, by simp, [], .nil, rfl, nofun⟩
  case adr =>
    rintro i acc c ⟨rfl, -⟩
    rfl
  case rest =>
    intro p hp
    simp only [List.mem_cons, List.not_mem_nil, or_false] at hp ⊢
    rcases hp with rfl | rfl
    · exact ⟨.inl rfl, hP2⟩
    · exact ⟨.inr (.inl rfl), hP1⟩
  case acc =>
    rintro i acc c ⟨-, -, ys, h, hy, -⟩
    have := h.length
    simp only [List.length_map] at this
    simp at this
    omega
  case turn =>
    rintro g' C i t' ⟨P', n2, k2, t2, u2, e2⟩ acc u' h tk own hi ⟨e1, e2, ys, hJ, hy, hys⟩ hs X' T' F' N'
    dsimp only at e1 e2
    subst e1 e2
    have hoff : Off P' own := Off.of fun q hq => hs q hq _ List.mem_cons_self
    clear F1 N1 R1
    simp only [PenAt.led, List.nil_append, List.cons_append] at N'
    (try k_fold)
    (repeat' ((fail_if_success (with_reducible show wpAny _ _ (exec (Stmt.For _ _ _ _ _) _) _ _ _)); (fail_if_success (with_reducible show wpAny _ _ (exec (Stmt.While _ _ _ _) _) _ _ _)); (fail_if_success (with_reducible show wpAny _ _ (pyIter _) _ _ _)); (fail_if_success (with_reducible show wpAny _ _ (exec (Stmt.Assign _ (Expr.ListComp _ _ _ _) _) _) _ _ _)); (fail_if_success (with_reducible show wpAny _ _ (eval (Expr.ListComp _ _ _ _) _) _ _ _)); first | (((with_reducible show wpAny _ _ (call (Value.ref 277) _) _ _ _); k_dflt (refine' my_take ?zF ?zN ?zX ?zT ?zU ?zhk ?zhm ?zhA ?zhd ?zhu ?_; (case zF => k_asm); (case zN => k_asm); (case zX => k_asm); (case zT => k_asm); (case zU => (intro _; tb_start)); (case zhk => ((try dsimp only); omega)); (case zhm => ((try dsimp only); omega)); (case zhA => rfl); (case zhd => (first | exact room_b (by with_reducible assumption) rfl | exact room_a (by with_reducible assumption) rfl | omega | (simp only [Around.deeper, Around.in1]; omega))); (case zhu => (first | exact room_b (by with_reducible assumption) rfl | exact room_a (by with_reducible assumption) rfl | omega | (simp only [Around.deeper, Around.in1]; omega)))); intro _ _ _ _ _ _ _ _ _ _ _ _; (try k_sweep)); (try dsimp only)) | (k_unfold; (try dsimp only)) | (walk1; (try dsimp only)) | (dsimp only; walk1) | fail "no step"))
    rename 0 ≤ _ => q1
    rename _ < _ => q2
    rename Fr _ _ _ _ => F2
    rename News _ _ _ _ => N2
    rename_i rr _ _ _ _ _ _ _ _
    refine CompEnd.intro ⟨P', _, k + 1 + i + 1, _, _, _⟩ F2 N2 (sub_cons (List.Mem.head _) sub_nil) (sub_tl sub_rfl) ⟨rfl, by dsimp only; omega, ys ++ [sg.cps.getD rr.toNat 0], ?_, by simp [hy], ?_⟩
    · rw [Array.toList_push, List.map_append, item_at q1 q2 rfl]
      exact hJ.append' (.cons _ _ .nil)
    · intro y hy
      rcases List.mem_append.mp hy with hy | hy
      · exact hys y hy
      · rw [List.mem_singleton.mp hy, Array.getD_eq_getD_getElem?, Array.getElem?_eq_getElem (by simp only [Str.length] at q2; omega)]
        exact Array.getElem_mem_toList _
  case done =>
    rintro D C ⟨P', n2, k2, t2, u2, e2⟩ acc nn h' tk' hCL hled h0 hn ⟨F', N', ⟨e1, e2, ys, hJ, hy, hys⟩, hlt⟩
    dsimp only at e1 e2
    subst e1 e2
    refine compPost_none hCL hled h0 hn F' N' ?_
    clear F' N' F1 N1 R1 hled hn h0
    intro h' F' N'
    simp only [PenAt.led, List.nil_append, List.cons_append] at N'
    (repeat' ((fail_if_success (with_reducible show wpAny _ _ (exec (Stmt.For _ _ _ _ _) _) _ _ _)); (fail_if_success (with_reducible show wpAny _ _ (exec (Stmt.While _ _ _ _) _) _ _ _)); (fail_if_success (with_reducible show wpAny _ _ (pyIter _) _ _ _)); (fail_if_success (with_reducible show wpAny _ _ (exec (Stmt.Assign _ (Expr.ListComp _ _ _ _) _) _) _ _ _)); (fail_if_success (with_reducible show wpAny _ _ (eval (Expr.ListComp _ _ _ _) _) _ _ _)); first | (((with_reducible show wpAny _ _ (call (Value.ref 277) _) _ _ _); k_dflt (refine' my_take ?zF ?zN ?zX ?zT ?zU ?zhk ?zhm ?zhA ?zhd ?zhu ?_; (case zF => k_asm); (case zN => k_asm); (case zX => k_asm); (case zT => k_asm); (case zU => (intro _; tb_start)); (case zhk => ((try dsimp only); omega)); (case zhm => ((try dsimp only); omega)); (case zhA => rfl); (case zhd => (first | exact room_b (by with_reducible assumption) rfl | exact room_a (by with_reducible assumption) rfl | omega | (simp only [Around.deeper, Around.in1]; omega))); (case zhu => (first | exact room_b (by with_reducible assumption) rfl | exact room_a (by with_reducible assumption) rfl | omega | (simp only [Around.deeper, Around.in1]; omega)))); intro _ _ _ _ _ _ _ _ _ _ _ _; (try k_sweep)); (try dsimp only)) | (k_unfold; (try dsimp only)) | (walk1; (try dsimp only)) | (dsimp only; walk1) | fail "no step"))
    refine my_join N' List.mem_cons_self (vs := acc.toList) hJ (by simp; omega) ?_ fun t' tk' => ?_
    · intro y hy
      obtain ⟨c, _, rfl⟩ := List.mem_map.mp hy
      exact (by decide : (1 : Nat) ≤ 10)
    · (repeat' ((fail_if_success (with_reducible show wpAny _ _ (exec (Stmt.For _ _ _ _ _) _) _ _ _)); (fail_if_success (with_reducible show wpAny _ _ (exec (Stmt.While _ _ _ _) _) _ _ _)); (fail_if_success (with_reducible show wpAny _ _ (pyIter _) _ _ _)); (fail_if_success (with_reducible show wpAny _ _ (exec (Stmt.Assign _ (Expr.ListComp _ _ _ _) _) _) _ _ _)); (fail_if_success (with_reducible show wpAny _ _ (eval (Expr.ListComp _ _ _ _) _) _ _ _)); first | (((with_reducible show wpAny _ _ (call (Value.ref 277) _) _ _ _); k_dflt (refine' my_take ?zF ?zN ?zX ?zT ?zU ?zhk ?zhm ?zhA ?zhd ?zhu ?_; (case zF => k_asm); (case zN => k_asm); (case zX => k_asm); (case zT => k_asm); (case zU => (intro _; tb_start)); (case zhk => ((try dsimp only); omega)); (case zhm => ((try dsimp only); omega)); (case zhA => rfl); (case zhd => (first | exact room_b (by with_reducible assumption) rfl | exact room_a (by with_reducible assumption) rfl | omega | (simp only [Around.deeper, Around.in1]; omega))); (case zhu => (first | exact room_b (by with_reducible assumption) rfl | exact room_a (by with_reducible assumption) rfl | omega | (simp only [Around.deeper, Around.in1]; omega)))); intro _ _ _ _ _ _ _ _ _ _ _ _; (try k_sweep)); (try dsimp only)) | (k_unfold; (try dsimp only)) | (walk1; (try dsimp only)) | (dsimp only; walk1) | fail "no step"))
      refine hret _ [(P', penO n2 (k + 1 + r.toNat) t2 u2 e2)] _ _ _ _ F' N' (sub_cons (by simp) sub_nil) ⟨_, ⟨⟨ys, t', ?_, by omega, hys⟩, ⟨_, _, _, _, _, rfl, by omega, by omega⟩⟩, rfl⟩
      congr 1
      congr 1
      clear hJ hy hys
      induction ys with
      | nil => rfl
      | cons a r ih => simp at ih ⊢; simpa using ih
end
section
inductive Ed (i o d : Int) (x : List Nat) : List Nat → Int → Prop
  | refl : Ed i o d x x 0
  | ins {y c} (p : Nat) (s : Nat) : Ed i o d x y c → p ≤ y.length → Ed i o d x (y.take p ++ [s] ++ y.drop p) (c + i)
  | rep {y c} (p : Nat) (s : Nat) : Ed i o d x y c → p < y.length → Ed i o d x (y.take p ++ [s] ++ y.drop (p + 1)) (c + o)
  | del {y c} (p : Nat) : Ed i o d x y c → p < y.length → Ed i o d x (y.take p ++ y.drop (p + 1)) (c + d)
structure EdAt where
  p : Addr
  n : Int
  k : Int
  t : Tok
  u : Tok
  e : Nat
  y : Str
  ty : Tok
  c : Int
  tc : Tok
noncomputable def EdAt.led (c : EdAt) : List (Addr × Obj) := [(c.p, penO c.n c.k c.t c.u c.e)]
noncomputable abbrev tupSI (x : Str) (tx : Tok) (n : Int) (tn : Tok) : Obj := { cls := .type "tuple", data := .seq #[.str x tx, .int n tn] }
structure EdTo (i o d : Int) (x : Str) (k : Int) (y : Str) (c : Int) (o' : Obj) : Prop where
  ed : Ed i o d x.cps.toList y.cps.toList c
  len : y.length ≤ x.length + 4
  pen : ∃ n' k' t u e, o' = penO n' k' t u e ∧ k ≤ k' ∧ k' ≤ k + 13
theorem glue3 (a b c : Str) : (a ++ b ++ c).cps.toList = a.cps.toList ++ b.cps.toList ++ c.cps.toList := by
  show ((a.cps ++ b.cps) ++ c.cps).toList = _
  simp
theorem ed_ins {i o d c : Int} {x : List Nat} {y : Str} {p q : Int} {n : Nat} (h : Ed i o d x y.cps.toList c) (hl : y.length ≤ n) (h1 : p < (y.length : Int) + 1) (h3 : q < 4) (h0 : 0 ≤ p) (h2 : 0 ≤ q) :
    (Txt.slice y none (some p) ++ Txt.item (Str.ofString "abcd") q ++ Txt.slice y (some p) none).length ≤ n + 1 ∧ Ed i o d x (Txt.slice y none (some p) ++ Txt.item (Str.ofString "abcd") q ++ Txt.slice y (some p) none).cps.toList (c + i) := by
  obtain ⟨p, rfl⟩ := Int.eq_ofNat_of_zero_le h0
  rw [← len_cps, glue3, sl_to, sl_from, item_at h2 (by rw [show (Str.ofString "abcd").length = 4 from by decide +kernel]; exact h3) rfl]
  refine ⟨?_, .ins p _ h (by rw [len_cps]; omega)⟩
  have := len_cps y
  simp only [List.length_append, List.length_take, List.length_drop, List.length_cons, List.length_nil]
  omega
theorem ed_rep {i o d c : Int} {x : List Nat} {y : Str} {p q : Int} {n : Nat} (h : Ed i o d x y.cps.toList c) (hl : y.length ≤ n) (h1 : p < (y.length : Int)) (h3 : q < 4) (h0 : 0 ≤ p) (h2 : 0 ≤ q) :
    (Txt.slice y none (some p) ++ Txt.item (Str.ofString "abcd") q ++ Txt.slice y (some (p + 1)) none).length ≤ n + 1 ∧ Ed i o d x (Txt.slice y none (some p) ++ Txt.item (Str.ofString "abcd") q ++ Txt.slice y (some (p + 1)) none).cps.toList (c + o) := by
  obtain ⟨p, rfl⟩ := Int.eq_ofNat_of_zero_le h0
  have e := sl_from y (p + 1)
  rw [Int.natCast_add] at e
  rw [← len_cps, glue3, sl_to, show (some ((p : Int) + 1)) = some ((p : Int) + ((1 : Nat) : Int)) from rfl, e, item_at h2 (by rw [show (Str.ofString "abcd").length = 4 from by decide +kernel]; exact h3) rfl]
  refine ⟨?_, .rep p _ h (by rw [len_cps]; omega)⟩
  have := len_cps y
  simp only [List.length_append, List.length_take, List.length_drop, List.length_cons, List.length_nil]
  omega
theorem ed_del {i o d c : Int} {x : List Nat} {y : Str} {p : Int} {n : Nat} (h : Ed i o d x y.cps.toList c) (hl : y.length ≤ n) (h1 : p < (y.length : Int)) (h0 : 0 ≤ p) :
    (Txt.slice y none (some p) ++ Str.ofString "" ++ Txt.slice y (some (p + 1)) none).length ≤ n + 1 ∧ Ed i o d x (Txt.slice y none (some p) ++ Str.ofString "" ++ Txt.slice y (some (p + 1)) none).cps.toList (c + d) := by
  obtain ⟨p, rfl⟩ := Int.eq_ofNat_of_zero_le h0
  have e := sl_from y (p + 1)
  rw [Int.natCast_add] at e
  rw [← len_cps, glue3, sl_to, show (some ((p : Int) + 1)) = some ((p : Int) + ((1 : Nat) : Int)) from rfl, e, show (Str.ofString "").cps.toList = [] from by decide +kernel, List.append_nil]
  refine ⟨?_, .del p h (by rw [len_cps]; omega)⟩
  have := len_cps y
  simp only [List.length_append, List.length_take, List.length_drop]
  omega
theorem con_law_edited (w : World) (P : Addr) (n k i o d : Int) (t u tx ti to td : Tok) (e : Nat) (x : Str) (hk : 0 ≤ k ∧ k < 300) (hx : x.length < 50) :
    Con w 310 2 80 [(P, penO n k t u e)] [.ref P, .str x tx, .int i ti, .int o to, .int d td] (fun v new => ∃ y ty c tc T o', v = .ref T ∧ EdTo i o d x k y c o' ∧ new = [(P, o'), (T, tupSI y ty c tc)]) := by
  ((have hfill : ∀ P : Params, PySem.Challenge.rw_pc0254_01.row.prog = PySem.Challenge.rw_pc0254_01.row.prog ∧ hd.heap_39 P = hd.heap_39 P := fun _ => ⟨rfl, rfl⟩); revert hfill; k_fill; intro hfill; clear hfill)
  k_dflt (refine' con_enter (binds := [(Str.ofString "pen", .ref P), (Str.ofString "text", .str x tx), (Str.ofString "into", .int i ti), (Str.ofString "other", .int o to), (Str.ofString "away", .int d td)]) ?k6 ?k7 ?k9 ?kB ?k8 ?_ ?c5 ?c2 ?c3 ?c4; ((case k6 => k_is); (case k7 => k_is); (case k8 => decide); (case k9 => exact fun _ => BindsTo.of_eq rfl); (case c5 => decide); (case kB => exact locs rfl); (case c2 => exact rfl); (case c3 => exact rfl); (case c4 => exact rfl)))
  intro mean mg mb dp fr gd un s Q g L h₁ F N X T hdp hun hret
  (try k_fold)
  (repeat' ((fail_if_success (with_reducible show wpAny _ _ (exec (Stmt.For _ _ _ _ _) _) _ _ _)); (fail_if_success (with_reducible show wpAny _ _ (exec (Stmt.While _ _ _ _) _) _ _ _)); (fail_if_success (with_reducible show wpAny _ _ (pyIter _) _ _ _)); (fail_if_success (with_reducible show wpAny _ _ (exec (Stmt.Assign _ (Expr.ListComp _ _ _ _) _) _) _ _ _)); (fail_if_success (with_reducible show wpAny _ _ (eval (Expr.ListComp _ _ _ _) _) _ _ _)); first | (((with_reducible show wpAny _ _ (call (Value.ref 277) _) _ _ _); k_dflt (refine' my_take ?zF ?zN ?zX ?zT ?zU ?zhk ?zhm ?zhA ?zhd ?zhu ?_; (case zF => k_asm); (case zN => k_asm); (case zX => k_asm); (case zT => k_asm); (case zU => (intro _; tb_start)); (case zhk => ((try dsimp only); omega)); (case zhm => ((try dsimp only); omega)); (case zhA => rfl); (case zhd => (first | exact room_b (by with_reducible assumption) rfl | exact room_a (by with_reducible assumption) rfl | omega | (simp only [Around.deeper, Around.in1]; omega))); (case zhu => (first | exact room_b (by with_reducible assumption) rfl | exact room_a (by with_reducible assumption) rfl | omega | (simp only [Around.deeper, Around.in1]; omega)))); intro _ _ _ _ _ _ _ _ _ _ _ _; (try k_sweep)); (try dsimp only)) | (k_unfold; (try dsimp only)) | (walk1; (try dsimp only)) | (dsimp only; walk1) | fail "no step"))
  refine For_invV g rfl rfl ?_
  (repeat' ((fail_if_success (with_reducible show wpAny _ _ (exec (Stmt.For _ _ _ _ _) _) _ _ _)); (fail_if_success (with_reducible show wpAny _ _ (exec (Stmt.While _ _ _ _) _) _ _ _)); (fail_if_success (with_reducible show wpAny _ _ (pyIter _) _ _ _)); (fail_if_success (with_reducible show wpAny _ _ (exec (Stmt.Assign _ (Expr.ListComp _ _ _ _) _) _) _ _ _)); (fail_if_success (with_reducible show wpAny _ _ (eval (Expr.ListComp _ _ _ _) _) _ _ _)); first | (((with_reducible show wpAny _ _ (call (Value.ref 277) _) _ _ _); k_dflt (refine' my_take ?zF ?zN ?zX ?zT ?zU ?zhk ?zhm ?zhA ?zhd ?zhu ?_; (case zF => k_asm); (case zN => k_asm); (case zX => k_asm); (case zT => k_asm); (case zU => (intro _; tb_start)); (case zhk => ((try dsimp only); omega)); (case zhm => ((try dsimp only); omega)); (case zhA => rfl); (case zhd => (first | exact room_b (by with_reducible assumption) rfl | exact room_a (by with_reducible assumption) rfl | omega | (simp only [Around.deeper, Around.in1]; omega))); (case zhu => (first | exact room_b (by with_reducible assumption) rfl | exact room_a (by with_reducible assumption) rfl | omega | (simp only [Around.deeper, Around.in1]; omega)))); intro _ _ _ _ _ _ _ _ _ _ _ _; (try k_sweep)); (try dsimp only)) | (k_unfold; (try dsimp only)) | (walk1; (try dsimp only)) | (dsimp only; walk1) | fail "no step"))
  rename Fr _ _ _ _ => F1
  rename News _ _ _ _ => N1
  rename IsRange _ _ _ _ _ _ _ _ => R1
  rename 0 ≤ _ => q1
  rename _ < 5 => q2
  rename_i r _ n1 t1 u1 e1 _ _ _ _ _ _ _ _ _ _
  obtain ⟨r, rfl⟩ := Int.eq_ofNat_of_zero_le q1
  refine m_range0 (σ := EdAt) EdAt.led (fun c => [(Str.ofString "pen", .ref P), (Str.ofString "text", .str c.y c.ty), (Str.ofString "into", .int i ti), (Str.ofString "other", .int o to), (Str.ofString "away", .int d td), (Str.ofString "cost", .int c.c c.tc)])
    (fun j c => c.p = P ∧ k + 1 ≤ c.k ∧ c.k ≤ k + 1 + 3 * j ∧ c.y.length ≤ x.length + j ∧ Ed i o d x.cps.toList c.y.cps.toList c.c) [] r rfl R1 (by omega) (by omega) (by omega) F1 N1 sub_nil ?start (fun _ _ _ => ⟨nofun, trivial⟩) ?turn ?done
  case start => exact ⟨⟨P, n1, k + 1, t1, u1, e1, x, _, 0, _⟩, sub_cons (List.Mem.head _) sub_nil, ⟨rfl, rfl, rfl, rfl, rfl, rfl, trivial⟩, rfl, Int.le_refl _, by simp, by simp, .refl⟩
  case done =>
    rintro ⟨P', n2, k2, t2, u2, e2, y, ty, c, tc⟩ uu h tk ⟨h1, h2, h3, h4, h5⟩ F' N'
    dsimp only at h1 h2 h3 h4 h5
    subst h1
    clear F1 N1 R1
    dsimp only [kstB] at F'
    simp only [EdAt.led, List.nil_append, List.cons_append] at N'
    (try k_fold)
    (repeat' ((fail_if_success (with_reducible show wpAny _ _ (exec (Stmt.For _ _ _ _ _) _) _ _ _)); (fail_if_success (with_reducible show wpAny _ _ (exec (Stmt.While _ _ _ _) _) _ _ _)); (fail_if_success (with_reducible show wpAny _ _ (pyIter _) _ _ _)); (fail_if_success (with_reducible show wpAny _ _ (exec (Stmt.Assign _ (Expr.ListComp _ _ _ _) _) _) _ _ _)); (fail_if_success (with_reducible show wpAny _ _ (eval (Expr.ListComp _ _ _ _) _) _ _ _)); first | (((with_reducible show wpAny _ _ (call (Value.ref 277) _) _ _ _); k_dflt (refine' my_take ?zF ?zN ?zX ?zT ?zU ?zhk ?zhm ?zhA ?zhd ?zhu ?_; (case zF => k_asm); (case zN => k_asm); (case zX => k_asm); (case zT => k_asm); (case zU => (intro _; tb_start)); (case zhk => ((try dsimp only); omega)); (case zhm => ((try dsimp only); omega)); (case zhA => rfl); (case zhd => (first | exact room_b (by with_reducible assumption) rfl | exact room_a (by with_reducible assumption) rfl | omega | (simp only [Around.deeper, Around.in1]; omega))); (case zhu => (first | exact room_b (by with_reducible assumption) rfl | exact room_a (by with_reducible assumption) rfl | omega | (simp only [Around.deeper, Around.in1]; omega)))); intro _ _ _ _ _ _ _ _ _ _ _ _; (try k_sweep)); (try dsimp only)) | (k_unfold; (try dsimp only)) | (walk1; (try dsimp only)) | (dsimp only; walk1) | fail "no step"))
    refine hret _ [(P', penO n2 k2 t2 u2 e2), (_, tupSI y ty c tc)] _ _ _ _ (by assumption) (by assumption) (sub_cons (by simp) (sub_cons (by simp) sub_nil)) ⟨_, _, _, _, _, _, rfl, ⟨h5, by omega, _, _, _, _, _, rfl, by omega, by omega⟩, rfl⟩
  case turn =>
    rintro j tj ⟨P', n2, k2, t2, u2, e2, y, ty, c, tc⟩ uu h tk own hj ⟨h1, h2, h3, h4, h5⟩ hs hk F' N'
    dsimp only at h1 h2 h3 h4 h5
    subst h1
    have hoff : Off P' own := Off.of fun q hq => (hs q hq).elim nofun fun h => h _ List.mem_cons_self
    clear F1 N1 R1
    dsimp only [kstB] at F'
    simp only [EdAt.led, List.nil_append, List.cons_append] at N'
    (try k_fold)
    (repeat' ((fail_if_success (with_reducible show wpAny _ _ (exec (Stmt.For _ _ _ _ _) _) _ _ _)); (fail_if_success (with_reducible show wpAny _ _ (exec (Stmt.While _ _ _ _) _) _ _ _)); (fail_if_success (with_reducible show wpAny _ _ (pyIter _) _ _ _)); (fail_if_success (with_reducible show wpAny _ _ (exec (Stmt.Assign _ (Expr.ListComp _ _ _ _) _) _) _ _ _)); (fail_if_success (with_reducible show wpAny _ _ (eval (Expr.ListComp _ _ _ _) _) _ _ _)); first | (((with_reducible show wpAny _ _ (call (Value.ref 277) _) _ _ _); k_dflt (refine' my_take ?zF ?zN ?zX ?zT ?zU ?zhk ?zhm ?zhA ?zhd ?zhu ?_; (case zF => k_asm); (case zN => k_asm); (case zX => k_asm); (case zT => k_asm); (case zU => (intro _; tb_start)); (case zhk => ((try dsimp only); omega)); (case zhm => ((try dsimp only); omega)); (case zhA => rfl); (case zhd => (first | exact room_b (by with_reducible assumption) rfl | exact room_a (by with_reducible assumption) rfl | omega | (simp only [Around.deeper, Around.in1]; omega))); (case zhu => (first | exact room_b (by with_reducible assumption) rfl | exact room_a (by with_reducible assumption) rfl | omega | (simp only [Around.deeper, Around.in1]; omega)))); intro _ _ _ _ _ _ _ _ _ _ _ _; (try k_sweep)); (try dsimp only)) | (k_unfold; (try dsimp only)) | (walk1; (try dsimp only)) | (dsimp only; walk1) | fail "no step"))
    all_goals rename Fr _ _ _ _ => F2
    all_goals rename News _ _ _ _ => N2
    · have q := ed_ins h5 h4 (by assumption) (by assumption) (by assumption) (by assumption)
      exact ForEnd.intro ⟨P', _, k2 + 1 + 1 + 1, _, _, _, _, _, _, _⟩ F2 N2 (sub_cons (List.Mem.tail _ (List.Mem.head _)) sub_nil) (sub_tl (sub_tl sub_rfl)) ⟨rfl, rfl, rfl, rfl, rfl, rfl, trivial⟩ ⟨rfl, by dsimp only; omega, by dsimp only; omega, q.1, q.2⟩
    · have q := ed_rep h5 h4 (by assumption) (by assumption) (by assumption) (by assumption)
      exact ForEnd.intro ⟨P', _, k2 + 1 + 1 + 1, _, _, _, _, _, _, _⟩ F2 N2 (sub_cons (List.Mem.tail _ (List.Mem.head _)) sub_nil) (sub_tl (sub_tl sub_rfl)) ⟨rfl, rfl, rfl, rfl, rfl, rfl, trivial⟩ ⟨rfl, by dsimp only; omega, by dsimp only; omega, q.1, q.2⟩
    · exfalso; trace_state; omega
    · exfalso; omega
    · have q := ed_del h5 h4 (by assumption) (by assumption)
      exact ForEnd.intro ⟨P', _, k2 + 1 + 1 + 1, _, _, _, _, _, _, _⟩ F2 N2 (sub_cons (List.Mem.tail _ (List.Mem.head _)) sub_nil) (sub_tl (sub_tl sub_rfl)) ⟨rfl, rfl, rfl, rfl, rfl, rfl, trivial⟩ ⟨rfl, by dsimp only; omega, by dsimp only; omega, q.1, q.2⟩
    · exact ForEnd.intro ⟨P', _, k2 + 1 + 1 + 1, _, _, _, y, _, c, _⟩ F2 N2 (sub_cons (List.Mem.tail _ (List.Mem.head _)) sub_nil) (sub_tl (sub_tl sub_rfl)) ⟨rfl, rfl, rfl, rfl, rfl, rfl, trivial⟩ ⟨rfl, by dsimp only; omega, by dsimp only; omega, by dsimp only; omega, h5⟩
end
section
theorem con_law_one (w : World) (a b : Str) (ta tb : Tok) (ha : a.length < 1000) (hb : b.length < 1000) :
    ConI w 317 3 70 [.str a ta, .str b tb] (dist a.cps.toList b.cps.toList 1 1 1) := by
  ((have hfill : ∀ P : Params, PySem.Challenge.rw_pc0254_01.row.prog = PySem.Challenge.rw_pc0254_01.row.prog ∧ hd.heap_39 P = hd.heap_39 P := fun _ => ⟨rfl, rfl⟩); revert hfill; k_fill; intro hfill; clear hfill)
  k_dflt (refine' con_enter (binds := [(Str.ofString "a", .str a ta), (Str.ofString "b", .str b tb)]) ?k6 ?k7 ?k9 ?kB ?k8 ?_ ?c5 ?c2 ?c3 ?c4; ((case k6 => k_is); (case k7 => k_is); (case k8 => decide); (case k9 => exact fun _ => BindsTo.of_eq rfl); (case c5 => decide); (case kB => exact locs rfl); (case c2 => exact rfl); (case c3 => exact rfl); (case c4 => exact rfl)))
  intro mean mg mb dp fr gd un s Q g L h₁ F N X T hdp hun hret
  (try k_fold)
  (repeat' ((fail_if_success (with_reducible show wpAny _ _ (exec (Stmt.For _ _ _ _ _) _) _ _ _)); (fail_if_success (with_reducible show wpAny _ _ (exec (Stmt.While _ _ _ _) _) _ _ _)); (fail_if_success (with_reducible show wpAny _ _ (pyIter _) _ _ _)); (fail_if_success (with_reducible show wpAny _ _ (exec (Stmt.Assign _ (Expr.ListComp _ _ _ _) _) _) _ _ _)); (fail_if_success (with_reducible show wpAny _ _ (eval (Expr.ListComp _ _ _ _) _) _ _ _)); first | ((with_reducible show wpAny _ _ (call (Value.ref _) _) _ _ _); k_dflt (refine' con_useI ?zC ?zF ?zN ?zX ?zT ?zhA ?zhd ?zhu ?_); (case zC => exact con_distance _ _ _ _ _ _ _ _ _ _ _ (by omega) (by omega)); (case zF => k_asm); (case zN => k_asm); (case zX => k_asm); (case zT => k_asm); (case zhA => rfl); (case zhd => first | exact room_b (by with_reducible assumption) rfl | exact room_a (by with_reducible assumption) rfl | omega | (simp only [Around.deeper, Around.in1]; omega)); (case zhu => first | exact room_b (by with_reducible assumption) rfl | exact room_a (by with_reducible assumption) rfl | omega | (simp only [Around.deeper, Around.in1]; omega)); intro _ _ _ _ _; (try k_sweep); (try dsimp only)) | (k_unfold; (try dsimp only)) | (walk1; (try dsimp only)) | (dsimp only; walk1) | fail "no step"))
  exact hret _ [] _ _ _ _ (by assumption) (by assumption) sub_nil ⟨_, rfl, rfl⟩
theorem slen_pre {c a : Str} {j : Nat} (hc : c.length < 100) (ha : a.length < 100) : (Txt.slice c none (some (j : Int)) ++ a).length < 1000 := by
  rw [← len_cps]
  show ((Txt.slice c none (some (j : Int))).cps ++ a.cps).toList.length < 1000
  rw [Array.toList_append, List.length_append, sl_to, List.length_take, len_cps, len_cps]
  omega
theorem slen_suf {c a : Str} {j : Nat} (hc : c.length < 100) (ha : a.length < 100) : (a ++ Txt.slice c none (some (j : Int))).length < 1000 := by
  rw [← len_cps]
  show (a.cps ++ (Txt.slice c none (some (j : Int))).cps).toList.length < 1000
  rw [Array.toList_append, List.length_append, sl_to, List.length_take, len_cps, len_cps]
  omega
theorem pre_cps {c a : Str} {j : Nat} : (Txt.slice c none (some (j : Int)) ++ a).cps.toList = c.cps.toList.take j ++ a.cps.toList := by
  show ((Txt.slice c none (some (j : Int))).cps ++ a.cps).toList = _
  rw [Array.toList_append, sl_to]
theorem suf_cps {c a : Str} {j : Nat} : (a ++ Txt.slice c none (some (j : Int))).cps.toList = a.cps.toList ++ c.cps.toList.take j := by
  show (a.cps ++ (Txt.slice c none (some (j : Int))).cps).toList = _
  rw [Array.toList_append, sl_to]
theorem pre2 {c a : Str} : (Txt.slice c none (some 2) ++ a).cps.toList = c.cps.toList.take 2 ++ a.cps.toList := pre_cps (j := 2)
theorem suf2 {c a : Str} : (a ++ Txt.slice c none (some 2)).cps.toList = a.cps.toList ++ c.cps.toList.take 2 := suf_cps (j := 2)
structure MetricAt (a b c : List Nat) : Prop where
  zero : dist a b 1 1 1 = 0 ↔ a = b
  symm : dist b a 1 1 1 = dist a b 1 1 1
  t1 : dist a b 1 1 1 ≤ dist a c 1 1 1 + dist b c 1 1 1
  t2 : dist a c 1 1 1 ≤ dist a b 1 1 1 + dist b c 1 1 1
  t3 : dist b c 1 1 1 ≤ dist a b 1 1 1 + dist a c 1 1 1
  lo : ((a.length : Int) - c.length).natAbs ≤ dist a c 1 1 1
  hi : dist a c 1 1 1 ≤ max (a.length : Int) c.length
  pre : dist (c.take 2 ++ a) (c.take 2 ++ b) 1 1 1 = dist a b 1 1 1
  suf : dist (a ++ c.take 2) (b ++ c.take 2) 1 1 1 = dist a b 1 1 1
theorem con_law_is_metric (w : World) (a b c : Str) (ta tb tc : Tok) (ha : a.length < 100) (hb : b.length < 100) (hc : c.length < 100) (hM : MetricAt a.cps.toList b.cps.toList c.cps.toList) :
    ConB w 324 4 100 [.str a ta, .str b tb, .str c tc] true := by
  ((have hfill : ∀ P : Params, PySem.Challenge.rw_pc0254_01.row.prog = PySem.Challenge.rw_pc0254_01.row.prog ∧ hd.heap_39 P = hd.heap_39 P := fun _ => ⟨rfl, rfl⟩); revert hfill; k_fill; intro hfill; clear hfill)
  k_dflt (refine' con_enter (binds := [(Str.ofString "a", .str a ta), (Str.ofString "b", .str b tb), (Str.ofString "c", .str c tc)]) ?k6 ?k7 ?k9 ?kB ?k8 ?_ ?c5 ?c2 ?c3 ?c4; ((case k6 => k_is); (case k7 => k_is); (case k8 => decide); (case k9 => exact fun _ => BindsTo.of_eq rfl); (case c5 => decide); (case kB => exact locs rfl); (case c2 => exact rfl); (case c3 => exact rfl); (case c4 => exact rfl)))
  intro mean mg mb dp fr gd un s Q g L h₁ F N X T hdp hun hret
  (try k_fold)
  (repeat' ((fail_if_success (with_reducible show wpAny _ _ (exec (Stmt.For _ _ _ _ _) _) _ _ _)); (fail_if_success (with_reducible show wpAny _ _ (exec (Stmt.While _ _ _ _) _) _ _ _)); (fail_if_success (with_reducible show wpAny _ _ (pyIter _) _ _ _)); (fail_if_success (with_reducible show wpAny _ _ (exec (Stmt.Assign _ (Expr.ListComp _ _ _ _) _) _) _ _ _)); (fail_if_success (with_reducible show wpAny _ _ (eval (Expr.ListComp _ _ _ _) _) _ _ _)); first | ((with_reducible show wpAny _ _ (call (Value.ref _) _) _ _ _); k_dflt (refine' con_useI ?zC ?zF ?zN ?zX ?zT ?zhA ?zhd ?zhu ?_); (case zC => first | exact con_law_one _ _ _ _ _ (by first | omega | exact slen_pre (j := 2) (by omega) (by omega) | exact slen_suf (j := 2) (by omega) (by omega)) (by first | omega | exact slen_pre (j := 2) (by omega) (by omega) | exact slen_suf (j := 2) (by omega) (by omega)) | exact con_distance _ _ _ _ _ _ _ _ _ _ _ (by omega) (by omega)); (case zF => k_asm); (case zN => k_asm); (case zX => k_asm); (case zT => k_asm); (case zhA => rfl); (case zhd => first | exact room_b (by with_reducible assumption) rfl | exact room_a (by with_reducible assumption) rfl | omega | (simp only [Around.deeper, Around.in1]; omega)); (case zhu => first | exact room_b (by with_reducible assumption) rfl | exact room_a (by with_reducible assumption) rfl | omega | (simp only [Around.deeper, Around.in1]; omega)); intro _ _ _ _ _; (try k_sweep); (try dsimp only)) | (k_unfold; (try dsimp only)) | (walk1; (try dsimp only)) | (dsimp only; walk1) | fail "no step"))
  · rename (_ != _) = true => h
    have f0 : ((dist a.cps.toList b.cps.toList 1 1 1 == 0) != (a == b)) = false := by
      have e : (dist a.cps.toList b.cps.toList 1 1 1 == 0) = (a == b) := by
        rw [Bool.eq_iff_iff, beq_iff_eq, beq_iff_eq, hM.zero]
        exact ⟨ext_toList, fun h => by rw [h]⟩
      rw [e]
      simp
    rw [f0] at h; cases h
  · exact absurd hM.symm (by assumption)
  · exfalso; have := hM.t1; omega
  · exfalso; have := hM.t2; omega
  · exfalso; have := hM.t3; omega
  · refine hret _ [] _ _ _ _ (by assumption) (by assumption) sub_nil ⟨congrArg Value.bool ?_, rfl⟩
    rw [suf2, suf2, beq_iff_eq]
    exact hM.suf
  · rename ¬ _ => h
    rw [pre2, pre2] at h
    exact absurd hM.pre h
  · rename ¬ _ => h
    have := hM.hi
    have la := len_cps a
    have lc := len_cps c
    exfalso
    split at h <;> omega
  · rename ¬ _ => h
    have := hM.lo
    have la := len_cps a
    have lc := len_cps c
    exfalso
    split at h <;> omega
end
section
open PySem PySem.W PySem.Calls PyProof.Rows PySem.Spec PySem.Builtin.Str PySem.StrLaws
theorem occ_one_full (s sub : Str) (hi : Nat) : ∀ (l : List Nat) (a free : Nat), (forIn (m := Id) l ((#[a] : Array Nat), free) (occBody s sub hi 1)).run.fst = #[a]
  | [], _, _ => rfl
  | i :: l, a, free => by
    rw [List.forIn_cons]
    have c : ¬ ((((#[a] : Array Nat).size < 1 ∧ free ≤ i) ∧ i + sub.length ≤ hi) ∧ subAt s sub i = true) := fun h => absurd h.1.1.1 (by simp)
    simp only [occBody, if_neg c]
    exact occ_one_full s sub hi l a free
theorem occ_one (s sub : Str) (hi : Nat) : ∀ (l : List Nat) (free : Nat), (∀ i ∈ l, free ≤ i) →
    (forIn (m := Id) l ((#[] : Array Nat), free) (occBody s sub hi 1)).run.fst.toList = (l.find? fun i => decide (i + sub.length ≤ hi) && subAt s sub i).toList
  | [], _, _ => rfl
  | a :: l, free, hf => by
    rw [List.forIn_cons]
    have ha : free ≤ a := hf a List.mem_cons_self
    by_cases hc : a + sub.length ≤ hi ∧ subAt s sub a = true
    · have c : ((((#[] : Array Nat).size < 1 ∧ free ≤ a) ∧ a + sub.length ≤ hi) ∧ subAt s sub a = true) := ⟨⟨⟨by simp, ha⟩, hc.1⟩, hc.2⟩
      simp only [occBody, if_pos c]
      have e : (decide (a + sub.length ≤ hi) && subAt s sub a) = true := by simp [hc.1, hc.2]
      rw [List.find?_cons_of_pos (p := fun i => decide (i + sub.length ≤ hi) && subAt s sub i) e]
      exact congrArg Array.toList (occ_one_full s sub hi l a _)
    · have c : ¬ ((((#[] : Array Nat).size < 1 ∧ free ≤ a) ∧ a + sub.length ≤ hi) ∧ subAt s sub a = true) := fun h => hc ⟨h.1.2, h.2⟩
      simp only [occBody, if_neg c]
      have e : ¬ (decide (a + sub.length ≤ hi) && subAt s sub a) = true := by simpa using hc
      rw [List.find?_cons_of_neg (p := fun i => decide (i + sub.length ≤ hi) && subAt s sub i) e]
      exact occ_one s sub hi l free fun i h => hf i (List.mem_cons_of_mem _ h)
theorem find_is (x y : Str) : Txt.find x y = match (List.range (x.length + 1)).find? (fun i => decide (i + y.length ≤ x.length) && subAt x y i) with | some i => (i : Int) | none => -1 := by
  unfold Txt.find
  rw [occ_eq, occ_one _ _ _ _ _ (fun _ _ => Nat.zero_le _), Nat.sub_zero, List.range_eq_range']
  cases List.find? _ _ <;> rfl
theorem cpl_ge : ∀ {n : Nat} {l r : List Nat}, n ≤ l.length → (n ≤ cpl l r ↔ (r.take n = l.take n))
  | 0, _, _, _ => by simp
  | n + 1, [], _, h => absurd h (by simp)
  | n + 1, a :: l, [], _ => by simp [cpl]
  | n + 1, a :: l, b :: r, h => by
    simp only [cpl, List.take_succ_cons, List.cons.injEq]
    split
    · rename_i e
      subst e
      simp only [true_and]
      rw [← cpl_ge (by simpa using h)]
      omega
    · rename_i e
      constructor
      · intro h; omega
      · intro h; exact absurd h.1.symm e
theorem find_sub {a b s : Str} {i n : Nat} (hs : s.cps.toList = (a.cps.toList.drop i).take n) (h : i + n ≤ a.length) (h0 : 0 < n) :
    (Txt.find b s < 0 ∧ ∀ j, cpl (a.cps.toList.drop i) (b.cps.toList.drop j) < n) ∨
    (∃ j : Nat, Txt.find b s = j ∧ n ≤ cpl (a.cps.toList.drop i) (b.cps.toList.drop j) ∧ ∀ j' < j, cpl (a.cps.toList.drop i) (b.cps.toList.drop j') < n) := by
  have ha := len_cps a
  have hb := len_cps b
  have hn : s.length = n := by rw [← len_cps, hs, List.length_take, List.length_drop]; omega
  have key : ∀ j, (decide (j + s.length ≤ b.length) && subAt b s j) = true ↔ n ≤ cpl (a.cps.toList.drop i) (b.cps.toList.drop j) := by
    intro j
    rw [cpl_ge (by rw [List.length_drop]; omega), subAt_eq, hn, hs, Bool.and_eq_true, decide_eq_true_eq, beq_iff_eq]
    refine ⟨fun h => h.2, fun h' => ⟨?_, h'⟩⟩
    have := congrArg List.length h'
    simp only [List.length_take, List.length_drop] at this
    omega
  rw [find_is]
  cases e : List.find? (fun i => decide (i + s.length ≤ b.length) && subAt b s i) (List.range (b.length + 1)) with
  | none =>
    refine .inl ⟨by decide, fun j => ?_⟩
    rw [List.find?_eq_none] at e
    by_cases hj : j < b.length + 1
    · have := e j (List.mem_range.mpr hj)
      rw [key] at this
      omega
    · rw [List.drop_eq_nil_of_le (as := b.cps.toList) (by omega), cpl_nil_right]
      exact h0
  | some j =>
    rw [List.find?_eq_some_iff_getElem] at e
    obtain ⟨h1, k, hk, rfl, h2⟩ := e
    simp only [List.getElem_range] at h1 h2 ⊢
    refine .inr ⟨k, rfl, (key k).mp h1, fun j' hj' => ?_⟩
    have := h2 j' hj'
    have q := key j'
    simp only [List.length_range] at hk
    by_cases h3 : n ≤ cpl (a.cps.toList.drop i) (b.cps.toList.drop j')
    · rw [q.mpr h3] at this; cases this
    · omega
theorem scanRow_lt {a b : List Nat} {i n : Nat} : ∀ (m : Nat) {p : Best}, p.2.2 < n → (∀ j < m, cpl (a.drop i) (b.drop j) < n) → (scanRow a b i m p).2.2 < n
  | 0, _, h, _ => h
  | m + 1, _, h, hc => by
    rw [scanRow_succ]
    have := scanRow_lt m h fun j hj => hc j (Nat.lt_succ_of_lt hj)
    have := hc m (Nat.lt_succ_self _)
    unfold better; split
    · assumption
    · assumption
theorem scanRow_stay {a b : List Nat} {i : Nat} {p : Best} : ∀ (m : Nat), (∀ j, cpl (a.drop i) (b.drop j) ≤ p.2.2) → scanRow a b i m p = p
  | 0, _ => rfl
  | m + 1, hc => by
    rw [scanRow_succ, scanRow_stay m hc, better, if_neg]
    have := hc m; omega
theorem scanRow_hit {a b : List Nat} {i j n : Nat} (e : cpl (a.drop i) (b.drop j) = n) (hall : ∀ j, cpl (a.drop i) (b.drop j) ≤ n) (hlt : ∀ j' < j, cpl (a.drop i) (b.drop j') < n) :
    ∀ (m : Nat) {p : Best}, p.2.2 < n → j < m → scanRow a b i m p = (i, j, n)
  | 0, _, _, h => absurd h (Nat.not_lt_zero _)
  | m + 1, p, h, hj => by
    rw [scanRow_succ]
    by_cases q : j = m
    · subst q
      have := scanRow_lt (i := i) (a := a) (b := b) j h hlt
      rw [better, if_pos (by rw [e]; exact this), e]
    · rw [scanRow_hit e hall hlt m h (by omega), better, if_neg]
      have := hall m; dsimp only; omega
theorem scanAll_lt {a b : List Nat} {n : Nat} (h0 : 0 < n) : ∀ (m : Nat), (∀ i < m, ∀ j, cpl (a.drop i) (b.drop j) < n) → (scanAll a b m).2.2 < n
  | 0, _ => h0
  | m + 1, h => by
    rw [scanAll_succ]
    exact scanRow_lt _ (scanAll_lt h0 m fun i hi => h i (Nat.lt_succ_of_lt hi)) fun j _ => h m (Nat.lt_succ_self _) j
theorem scanAll_hit {a b : List Nat} {i j n : Nat} (e : cpl (a.drop i) (b.drop j) = n) (h0 : 0 < n) (hj : j < b.length) (hall : ∀ i j, cpl (a.drop i) (b.drop j) ≤ n) (hrow : ∀ i' < i, ∀ j, cpl (a.drop i') (b.drop j) < n) (hlt : ∀ j' < j, cpl (a.drop i) (b.drop j') < n) :
    ∀ (m : Nat), i < m → scanAll a b m = (i, j, n)
  | 0, h => absurd h (Nat.not_lt_zero _)
  | m + 1, hi => by
    rw [scanAll_succ]
    by_cases q : i = m
    · subst q
      exact scanRow_hit e (hall i) hlt _ (scanAll_lt h0 i hrow) hj
    · rw [scanAll_hit e h0 hj hall hrow hlt m (by omega)]
      exact scanRow_stay _ (hall m)
theorem piece_is {a b : List Nat} {i j n : Nat} (e : cpl (a.drop i) (b.drop j) = n) (h0 : 0 < n) (hall : ∀ i j, cpl (a.drop i) (b.drop j) ≤ n) (hrow : ∀ i' < i, ∀ j, cpl (a.drop i') (b.drop j) < n) (hlt : ∀ j' < j, cpl (a.drop i) (b.drop j') < n) :
    piece a b = (i, j, n) := by
  have e1 := cpl_le_left (a.drop i) (b.drop j)
  have e2 := cpl_le_right (a.drop i) (b.drop j)
  rw [List.length_drop] at e1 e2
  exact scanAll_hit e h0 (by omega) hall hrow hlt _ (by omega)
theorem piece_none {a b : List Nat} (h : ∀ i j, cpl (a.drop i) (b.drop j) = 0) : piece a b = (0, 0, 0) := by
  have : ∀ m, scanAll a b m = (0, 0, 0) := by
    intro m
    induction m with
    | zero => rfl
    | succ m ih => rw [scanAll_succ, ih]; exact scanRow_stay _ fun j => Nat.le_of_eq (h m j)
  exact this _
end
section
theorem con_law_piece (w : World) (a b : Str) (ta tb : Tok) (ha : a.length < 100) (hb : b.length < 100) :
   Con w 331 2 60 [] [.str a ta, .str b tb] (fun v new => ∃ c : BestAt, c.best = piece a.cps.toList b.cps.toList ∧ v = .ref c.ad ∧ new = c.led) := by
  ((have hfill : ∀ P : Params, PySem.Challenge.rw_pc0254_01.row.prog = PySem.Challenge.rw_pc0254_01.row.prog ∧ hd.heap_39 P = hd.heap_39 P := fun _ => ⟨rfl, rfl⟩); revert hfill; k_fill; intro hfill; clear hfill)
  k_dflt (refine' con_enter (binds := [(Str.ofString "a", .str a ta), (Str.ofString "b", .str b tb)]) ?k6 ?k7 ?k9 ?kB ?k8 ?_ ?c5 ?c2 ?c3 ?c4; ((case k6 => k_is); (case k7 => k_is); (case k8 => decide); (case k9 => exact fun _ => BindsTo.of_eq rfl); (case c5 => decide); (case kB => exact locs rfl); (case c2 => exact rfl); (case c3 => exact rfl); (case c4 => exact rfl)))
  intro mean mg mb dp fr gd un s Q g L h₁ F N X T hdp hun hret
  (try k_fold)
  (repeat' ((fail_if_success (with_reducible show wpAny _ _ (exec (Stmt.For _ _ _ _ _) _) _ _ _)); (fail_if_success (with_reducible show wpAny _ _ (exec (Stmt.While _ _ _ _) _) _ _ _)); (fail_if_success (with_reducible show wpAny _ _ (pyIter _) _ _ _)); (fail_if_success (with_reducible show wpAny _ _ (exec (Stmt.Assign _ (Expr.ListComp _ _ _ _) _) _) _ _ _)); (fail_if_success (with_reducible show wpAny _ _ (eval (Expr.ListComp _ _ _ _) _) _ _ _)); first | (((with_reducible show wpAny _ _ (call (Value.builtin _) [Value.str _ _, Value.str _ _]) _ _ _); k_dflt (refine' PyProof.Rows.SC.find ?_)); (try dsimp only)) | (k_unfold; (try dsimp only)) | (walk1; (try dsimp only)) | (dsimp only; walk1) | fail "no step"))
  refine For_invV g rfl rfl ?_
  (repeat' ((fail_if_success (with_reducible show wpAny _ _ (exec (Stmt.For _ _ _ _ _) _) _ _ _)); (fail_if_success (with_reducible show wpAny _ _ (exec (Stmt.While _ _ _ _) _) _ _ _)); (fail_if_success (with_reducible show wpAny _ _ (pyIter _) _ _ _)); (fail_if_success (with_reducible show wpAny _ _ (exec (Stmt.Assign _ (Expr.ListComp _ _ _ _) _) _) _ _ _)); (fail_if_success (with_reducible show wpAny _ _ (eval (Expr.ListComp _ _ _ _) _) _ _ _)); first | (((with_reducible show wpAny _ _ (call (Value.builtin _) [Value.str _ _, Value.str _ _]) _ _ _); k_dflt (refine' PyProof.Rows.SC.find ?_)); (try dsimp only)) | (k_unfold; (try dsimp only)) | (walk1; (try dsimp only)) | (dsimp only; walk1) | fail "no step"))
  rename Fr _ _ _ _ => F1
  rename News _ _ _ _ => N1
  rename IsRange _ _ _ _ _ _ _ _ => R1
  have la := len_cps a
  have lb := len_cps b
  obtain ⟨M, hM⟩ : ∃ M : Nat, M = min a.length b.length := ⟨_, rfl⟩
  have eM : (if (b.length : Int) < a.length then (b.length : Int) else a.length) = (M : Int) := by split <;> omega
  rw [eM] at R1
  clear eM
  have hMa : M ≤ a.length := by rw [hM]; exact Nat.min_le_left _ _
  have hMb : M ≤ b.length := by rw [hM]; exact Nat.min_le_right _ _
  have hMm : ∀ z, z ≤ a.length → z ≤ b.length → z ≤ M := fun z h1 h2 => by rw [hM]; exact Nat.le_min.mpr ⟨h1, h2⟩
  clear hM
  refine m_range_down (σ := Unit) (fun _ => []) (fun _ => [(Str.ofString "a", .str a ta), (Str.ofString "b", .str b tb)])
    (fun i _ => ∀ p q, cpl (a.cps.toList.drop p) (b.cps.toList.drop q) ≤ M - i) [] M rfl R1 (by omega) (by omega) (by omega) (by omega) (by omega) F1 N1 sub_nil ?start (fun _ _ _ => trivial) ?turn ?done
  case start =>
    refine ⟨(), sub_nil, ⟨rfl, rfl, trivial⟩, fun p q => ?_⟩
    have e1 := cpl_le_left (a.cps.toList.drop p) (b.cps.toList.drop q)
    have e2 := cpl_le_right (a.cps.toList.drop p) (b.cps.toList.drop q)
    rw [List.length_drop] at e1 e2
    exact hMm _ (by omega) (by omega)
  case done =>
    intro _ u h tk hc F' N'
    clear F1 N1 R1
    dsimp only [kstB] at F'
    simp only [List.nil_append] at N'
    (try k_fold)
    (repeat' ((fail_if_success (with_reducible show wpAny _ _ (exec (Stmt.For _ _ _ _ _) _) _ _ _)); (fail_if_success (with_reducible show wpAny _ _ (exec (Stmt.While _ _ _ _) _) _ _ _)); (fail_if_success (with_reducible show wpAny _ _ (pyIter _) _ _ _)); (fail_if_success (with_reducible show wpAny _ _ (exec (Stmt.Assign _ (Expr.ListComp _ _ _ _) _) _) _ _ _)); (fail_if_success (with_reducible show wpAny _ _ (eval (Expr.ListComp _ _ _ _) _) _ _ _)); first | (((with_reducible show wpAny _ _ (call (Value.builtin _) [Value.str _ _, Value.str _ _]) _ _ _); k_dflt (refine' PyProof.Rows.SC.find ?_)); (try dsimp only)) | (k_unfold; (try dsimp only)) | (walk1; (try dsimp only)) | (dsimp only; walk1) | fail "no step"))
    refine hret _ [(_, tup3 0 0 0 _ _ _)] _ _ _ _ (by assumption) (by assumption) (sub_cons List.mem_cons_self sub_nil) ⟨⟨(0, 0, 0), _, _, _, _⟩, (piece_none fun p q => ?_).symm, rfl, rfl⟩
    have := hc p q
    omega
  case turn =>
    intro i ti _ u h tk own hi hc hs hk F' N'
    clear F1 N1 R1 hs hk
    obtain ⟨sz, hsz⟩ : ∃ sz : Nat, sz = M - i := ⟨_, rfl⟩
    rw [show (M : Int) - (i : Int) = (sz : Int) from by omega] at F'
    rw [← hsz] at hc
    have hsz0 : 0 < sz := by omega
    have hsz1 : sz ≤ a.length := by omega
    dsimp only [kstB] at F'
    simp only [List.nil_append] at N'
    (try k_fold)
    (repeat' ((fail_if_success (with_reducible show wpAny _ _ (exec (Stmt.For _ _ _ _ _) _) _ _ _)); (fail_if_success (with_reducible show wpAny _ _ (exec (Stmt.While _ _ _ _) _) _ _ _)); (fail_if_success (with_reducible show wpAny _ _ (pyIter _) _ _ _)); (fail_if_success (with_reducible show wpAny _ _ (exec (Stmt.Assign _ (Expr.ListComp _ _ _ _) _) _) _ _ _)); (fail_if_success (with_reducible show wpAny _ _ (eval (Expr.ListComp _ _ _ _) _) _ _ _)); first | (((with_reducible show wpAny _ _ (call (Value.builtin _) [Value.str _ _, Value.str _ _]) _ _ _); k_dflt (refine' PyProof.Rows.SC.find ?_)); (try dsimp only)) | (k_unfold; (try dsimp only)) | (walk1; (try dsimp only)) | (dsimp only; walk1) | fail "no step"))
    refine For_invV g rfl rfl ?_
    (repeat' ((fail_if_success (with_reducible show wpAny _ _ (exec (Stmt.For _ _ _ _ _) _) _ _ _)); (fail_if_success (with_reducible show wpAny _ _ (exec (Stmt.While _ _ _ _) _) _ _ _)); (fail_if_success (with_reducible show wpAny _ _ (pyIter _) _ _ _)); (fail_if_success (with_reducible show wpAny _ _ (exec (Stmt.Assign _ (Expr.ListComp _ _ _ _) _) _) _ _ _)); (fail_if_success (with_reducible show wpAny _ _ (eval (Expr.ListComp _ _ _ _) _) _ _ _)); first | (((with_reducible show wpAny _ _ (call (Value.builtin _) [Value.str _ _, Value.str _ _]) _ _ _); k_dflt (refine' PyProof.Rows.SC.find ?_)); (try dsimp only)) | (k_unfold; (try dsimp only)) | (walk1; (try dsimp only)) | (dsimp only; walk1) | fail "no step"))
    rename Fr _ _ _ _ => F1
    rename News _ _ _ _ => N1
    rename IsRange _ _ _ _ _ _ _ _ => R1
    refine m_range0 (σ := Unit) (fun _ => []) (fun _ => [(Str.ofString "a", .str a ta), (Str.ofString "b", .str b tb), (Str.ofString "size", .int (sz : Int) ti)])
      (fun k _ => ∀ p < k, ∀ q, cpl (a.cps.toList.drop p) (b.cps.toList.drop q) < sz) own (a.length - sz + 1) rfl R1 (by omega) (by omega) (by omega) F1 N1 sub_rfl ?start (fun _ _ _ => trivial) ?turn ?done
    case start => exact ⟨(), sub_nil, ⟨rfl, rfl, rfl, trivial⟩, nofun⟩
    case done =>
      intro _ u h tk hr F' N'
      clear F1 N1 R1
      dsimp only [kstB] at F'
      simp only [List.nil_append] at N'
      (try k_fold)
      (repeat' ((fail_if_success (with_reducible show wpAny _ _ (exec (Stmt.For _ _ _ _ _) _) _ _ _)); (fail_if_success (with_reducible show wpAny _ _ (exec (Stmt.While _ _ _ _) _) _ _ _)); (fail_if_success (with_reducible show wpAny _ _ (pyIter _) _ _ _)); (fail_if_success (with_reducible show wpAny _ _ (exec (Stmt.Assign _ (Expr.ListComp _ _ _ _) _) _) _ _ _)); (fail_if_success (with_reducible show wpAny _ _ (eval (Expr.ListComp _ _ _ _) _) _ _ _)); first | (((with_reducible show wpAny _ _ (call (Value.builtin _) [Value.str _ _, Value.str _ _]) _ _ _); k_dflt (refine' PyProof.Rows.SC.find ?_)); (try dsimp only)) | (k_unfold; (try dsimp only)) | (walk1; (try dsimp only)) | (dsimp only; walk1) | fail "no step"))
      refine ForEnd.intro () F' N' sub_nil sub_rfl ⟨rfl, rfl, trivial⟩ fun p q => ?_
      by_cases hp : p < a.length - sz + 1
      · have := hr p hp q
        omega
      · have e1 := cpl_le_left (a.cps.toList.drop p) (b.cps.toList.drop q)
        rw [List.length_drop] at e1
        omega
    case turn =>
      intro k tk' _ u h tk own' hkk hr hs hk F' N'
      clear F1 N1 R1 hs hk
      have eS := sl_seg a k (k + sz) (by omega) (by omega)
      rw [Int.natCast_add, Nat.add_sub_cancel_left] at eS
      have key := find_sub (b := b) eS (by omega) hsz0
      dsimp only [kstB] at F'
      simp only [List.nil_append] at N'
      (try k_fold)
      (repeat' ((fail_if_success (with_reducible show wpAny _ _ (exec (Stmt.For _ _ _ _ _) _) _ _ _)); (fail_if_success (with_reducible show wpAny _ _ (exec (Stmt.While _ _ _ _) _) _ _ _)); (fail_if_success (with_reducible show wpAny _ _ (pyIter _) _ _ _)); (fail_if_success (with_reducible show wpAny _ _ (exec (Stmt.Assign _ (Expr.ListComp _ _ _ _) _) _) _ _ _)); (fail_if_success (with_reducible show wpAny _ _ (eval (Expr.ListComp _ _ _ _) _) _ _ _)); first | (((with_reducible show wpAny _ _ (call (Value.builtin _) [Value.str _ _, Value.str _ _]) _ _ _); k_dflt (refine' PyProof.Rows.SC.find ?_)); (try dsimp only)) | (k_unfold; (try dsimp only)) | (walk1; (try dsimp only)) | (dsimp only; walk1) | fail "no step"))
      · rename 0 ≤ Txt.find _ _ => hf
        rename Fr _ _ _ _ => F2
        rename News _ _ _ _ => N2
        rcases key with ⟨h1, -⟩ | ⟨j, hj, h1, h2⟩
        · omega
        · have e : cpl (a.cps.toList.drop k) (b.cps.toList.drop j) = sz := Nat.le_antisymm (hc k j) h1
          rw [hj] at N2
          refine hret (.ref _) [(_, tup3 k j sz _ _ _)] _ _ _ _ F2 N2 (sub_cons List.mem_cons_self sub_nil) ⟨⟨(k, j, sz), _, _, _, _⟩, (piece_is e hsz0 hc hr h2).symm, rfl, rfl⟩
      · rename ¬ _ => hf
        rename Fr _ _ _ _ => F2
        rename News _ _ _ _ => N2
        refine ForEnd.intro () F2 N2 sub_nil sub_rfl ⟨rfl, rfl, rfl, trivial⟩ fun p hp q => ?_
        rcases key with ⟨-, h1⟩ | ⟨j, hj, -, -⟩
        · rcases Nat.lt_succ_iff_lt_or_eq.mp hp with hp | rfl
          · exact hr p hp q
          · exact h1 q
        · exfalso; omega
end
section
theorem slen_to {x : Str} {j : Nat} : (Txt.slice x none (some (j : Int))).length = min j x.length := by
  rw [← len_cps, sl_to, List.length_take, len_cps]
theorem slen_from {x : Str} {j k : Nat} : (Txt.slice x (some ((j : Int) + (k : Int))) none).length = x.length - (j + k) := by
  have e := sl_from x (j + k)
  rw [Int.natCast_add] at e
  rw [← len_cps, e, List.length_drop, len_cps]
theorem con_law_shared (w : World) (n : Nat) : ∀ (a b : Str) (ta tb : Tok), a.length < n → n ≤ 100 → b.length < 100 → ConI w 338 (n + 3) (20 * n + 80) [.str a ta, .str b tb] (sim a.cps.toList b.cps.toList) := by
  induction n with
  | zero => exact fun _ _ _ _ h _ _ => absurd h (Nat.not_lt_zero _)
  | succ n ih =>
  intro a b ta tb ha hn hb
  ((have hfill : ∀ P : Params, PySem.Challenge.rw_pc0254_01.row.prog = PySem.Challenge.rw_pc0254_01.row.prog ∧ hd.heap_39 P = hd.heap_39 P := fun _ => ⟨rfl, rfl⟩); revert hfill; k_fill; intro hfill; clear hfill)
  k_dflt (refine' con_enter (binds := [(Str.ofString "a", .str a ta), (Str.ofString "b", .str b tb)]) ?k6 ?k7 ?k9 ?kB ?k8 ?_ ?c5 ?c2 ?c3 ?c4; (case k8 => exact Nat.succ_pos _); (case k6 => k_is); (case k7 => k_is); (case k9 => exact fun _ => BindsTo.of_eq rfl); (case c5 => decide); (case kB => exact locs rfl); (case c2 => exact rfl); (case c3 => exact rfl); (case c4 => exact rfl))
  intro mean mg mb dp fr gd un s Q g L h₁ F N X T hdp hun hret
  (try k_fold)
  (repeat' ((fail_if_success (with_reducible show wpAny _ _ (exec (Stmt.For _ _ _ _ _) _) _ _ _)); (fail_if_success (with_reducible show wpAny _ _ (exec (Stmt.While _ _ _ _) _) _ _ _)); (fail_if_success (with_reducible show wpAny _ _ (pyIter _) _ _ _)); (fail_if_success (with_reducible show wpAny _ _ (exec (Stmt.Assign _ (Expr.ListComp _ _ _ _) _) _) _ _ _)); (fail_if_success (with_reducible show wpAny _ _ (eval (Expr.ListComp _ _ _ _) _) _ _ _)); first | (((with_reducible show wpAny _ _ (call (Value.ref _) _) _ _ _); (k_dflt (refine' con_use0 ?zC ?zF ?zN ?zX ?zT ?zhA ?zhd ?zhu ?_); (case zC => exact con_law_piece _ _ _ _ _ (by omega) (by omega)); (case zF => k_asm); (case zN => k_asm); (case zX => k_asm); (case zT => k_asm); (case zhA => rfl); (case zhd => first | exact room_b (by with_reducible assumption) rfl | exact room_a (by with_reducible assumption) rfl | omega | (simp only [Around.deeper, Around.in1]; omega)); (case zhu => first | exact room_b (by with_reducible assumption) rfl | exact room_a (by with_reducible assumption) rfl | omega | (simp only [Around.deeper, Around.in1]; omega)); intro _ _ _ _ _ N' hR'; obtain ⟨cB, hB, e1', e2'⟩ := hR'; subst e1' e2'; dsimp only [BestAt.led, List.cons_append, List.nil_append] at N'; (try k_sweep))); (try dsimp only)) | ((with_reducible show wpAny _ _ (call (Value.ref _) _) _ _ _); k_dflt (refine' con_useI ?zC ?zF ?zN ?zX ?zT ?zhA ?zhd ?zhu ?_); (case zC => exact con_law_piece _ _ _ _ _ (by omega) (by omega)); (case zF => k_asm); (case zN => k_asm); (case zX => k_asm); (case zT => k_asm); (case zhA => rfl); (case zhd => first | exact room_b (by with_reducible assumption) rfl | exact room_a (by with_reducible assumption) rfl | omega | (simp only [Around.deeper, Around.in1]; omega)); (case zhu => first | exact room_b (by with_reducible assumption) rfl | exact room_a (by with_reducible assumption) rfl | omega | (simp only [Around.deeper, Around.in1]; omega)); intro _ _ _ _ _; (try k_sweep); (try dsimp only)) | (k_unfold; (try dsimp only)) | (walk1; (try dsimp only)) | (dsimp only; walk1) | fail "no step"))
  · rename _ = piece _ _ => hB
    refine hret _ [] _ _ _ _ (by assumption) (by assumption) sub_nil ⟨_, congrArg (Value.int · _) ?_, rfl⟩
    rw [sim_eq, if_pos (by rw [← hB]; omega)]
    rfl
  · rename _ = piece _ _ => hB
    rename BestAt => cB
    have hin := (piece_good a.cps.toList b.cps.toList).in
    rw [← hB, len_cps, len_cps] at hin
    refine con_useI (ih _ _ _ _ (by simp only [slen_to]; omega) (by omega) (by simp only [slen_to]; omega)) (by k_asm) (by k_asm) (by k_asm) (by k_asm) rfl (by (first | exact room_b (by with_reducible assumption) rfl | exact room_a (by with_reducible assumption) rfl | omega | (simp only [Around.deeper, Around.in1]; omega))) (by (first | exact room_b (by with_reducible assumption) rfl | exact room_a (by with_reducible assumption) rfl | omega | (simp only [Around.deeper, Around.in1]; omega))) ?_
    intro t' h' tk' F' N'
    (repeat' ((fail_if_success (with_reducible show wpAny _ _ (exec (Stmt.For _ _ _ _ _) _) _ _ _)); (fail_if_success (with_reducible show wpAny _ _ (exec (Stmt.While _ _ _ _) _) _ _ _)); (fail_if_success (with_reducible show wpAny _ _ (pyIter _) _ _ _)); (fail_if_success (with_reducible show wpAny _ _ (exec (Stmt.Assign _ (Expr.ListComp _ _ _ _) _) _) _ _ _)); (fail_if_success (with_reducible show wpAny _ _ (eval (Expr.ListComp _ _ _ _) _) _ _ _)); first | (((with_reducible show wpAny _ _ (call (Value.ref _) _) _ _ _); (k_dflt (refine' con_use0 ?zC ?zF ?zN ?zX ?zT ?zhA ?zhd ?zhu ?_); (case zC => exact con_law_piece _ _ _ _ _ (by omega) (by omega)); (case zF => k_asm); (case zN => k_asm); (case zX => k_asm); (case zT => k_asm); (case zhA => rfl); (case zhd => first | exact room_b (by with_reducible assumption) rfl | exact room_a (by with_reducible assumption) rfl | omega | (simp only [Around.deeper, Around.in1]; omega)); (case zhu => first | exact room_b (by with_reducible assumption) rfl | exact room_a (by with_reducible assumption) rfl | omega | (simp only [Around.deeper, Around.in1]; omega)); intro _ _ _ _ _ N' hR'; obtain ⟨cB, hB, e1', e2'⟩ := hR'; subst e1' e2'; dsimp only [BestAt.led, List.cons_append, List.nil_append] at N'; (try k_sweep))); (try dsimp only)) | ((with_reducible show wpAny _ _ (call (Value.ref _) _) _ _ _); k_dflt (refine' con_useI ?zC ?zF ?zN ?zX ?zT ?zhA ?zhd ?zhu ?_); (case zC => exact con_law_piece _ _ _ _ _ (by omega) (by omega)); (case zF => k_asm); (case zN => k_asm); (case zX => k_asm); (case zT => k_asm); (case zhA => rfl); (case zhd => first | exact room_b (by with_reducible assumption) rfl | exact room_a (by with_reducible assumption) rfl | omega | (simp only [Around.deeper, Around.in1]; omega)); (case zhu => first | exact room_b (by with_reducible assumption) rfl | exact room_a (by with_reducible assumption) rfl | omega | (simp only [Around.deeper, Around.in1]; omega)); intro _ _ _ _ _; (try k_sweep); (try dsimp only)) | (k_unfold; (try dsimp only)) | (walk1; (try dsimp only)) | (dsimp only; walk1) | fail "no step"))
    refine con_useI (ih _ _ _ _ (by simp only [slen_from]; omega) (by omega) (by simp only [slen_from]; omega)) (by k_asm) (by k_asm) (by k_asm) (by k_asm) rfl (by (first | exact room_b (by with_reducible assumption) rfl | exact room_a (by with_reducible assumption) rfl | omega | (simp only [Around.deeper, Around.in1]; omega))) (by (first | exact room_b (by with_reducible assumption) rfl | exact room_a (by with_reducible assumption) rfl | omega | (simp only [Around.deeper, Around.in1]; omega))) ?_
    intro t' h' tk' F' N'
    (repeat' ((fail_if_success (with_reducible show wpAny _ _ (exec (Stmt.For _ _ _ _ _) _) _ _ _)); (fail_if_success (with_reducible show wpAny _ _ (exec (Stmt.While _ _ _ _) _) _ _ _)); (fail_if_success (with_reducible show wpAny _ _ (pyIter _) _ _ _)); (fail_if_success (with_reducible show wpAny _ _ (exec (Stmt.Assign _ (Expr.ListComp _ _ _ _) _) _) _ _ _)); (fail_if_success (with_reducible show wpAny _ _ (eval (Expr.ListComp _ _ _ _) _) _ _ _)); first | (((with_reducible show wpAny _ _ (call (Value.ref _) _) _ _ _); (k_dflt (refine' con_use0 ?zC ?zF ?zN ?zX ?zT ?zhA ?zhd ?zhu ?_); (case zC => exact con_law_piece _ _ _ _ _ (by omega) (by omega)); (case zF => k_asm); (case zN => k_asm); (case zX => k_asm); (case zT => k_asm); (case zhA => rfl); (case zhd => first | exact room_b (by with_reducible assumption) rfl | exact room_a (by with_reducible assumption) rfl | omega | (simp only [Around.deeper, Around.in1]; omega)); (case zhu => first | exact room_b (by with_reducible assumption) rfl | exact room_a (by with_reducible assumption) rfl | omega | (simp only [Around.deeper, Around.in1]; omega)); intro _ _ _ _ _ N' hR'; obtain ⟨cB, hB, e1', e2'⟩ := hR'; subst e1' e2'; dsimp only [BestAt.led, List.cons_append, List.nil_append] at N'; (try k_sweep))); (try dsimp only)) | ((with_reducible show wpAny _ _ (call (Value.ref _) _) _ _ _); k_dflt (refine' con_useI ?zC ?zF ?zN ?zX ?zT ?zhA ?zhd ?zhu ?_); (case zC => exact con_law_piece _ _ _ _ _ (by omega) (by omega)); (case zF => k_asm); (case zN => k_asm); (case zX => k_asm); (case zT => k_asm); (case zhA => rfl); (case zhd => first | exact room_b (by with_reducible assumption) rfl | exact room_a (by with_reducible assumption) rfl | omega | (simp only [Around.deeper, Around.in1]; omega)); (case zhu => first | exact room_b (by with_reducible assumption) rfl | exact room_a (by with_reducible assumption) rfl | omega | (simp only [Around.deeper, Around.in1]; omega)); intro _ _ _ _ _; (try k_sweep); (try dsimp only)) | (k_unfold; (try dsimp only)) | (walk1; (try dsimp only)) | (dsimp only; walk1) | fail "no step"))
    refine hret _ [] _ _ _ _ (by assumption) (by assumption) sub_nil ⟨_, congrArg (Value.int · _) ?_, rfl⟩
    have e1 := sl_from a (cB.best.1 + cB.best.2.2)
    have e2 := sl_from b (cB.best.2.1 + cB.best.2.2)
    rw [Int.natCast_add] at e1 e2
    rw [sim_eq a.cps.toList b.cps.toList, if_neg (by rw [← hB]; omega), e1, e2, sl_to, sl_to, ← hB]
    omega
end
section
structure SimilarAt (a b : List Nat) : Prop where
  self : sim a a = a.length
  le : 2 * (sim a b : Int) ≤ (a.length : Int) + b.length - dist a b 1 2 1
theorem con_law_is_similar (w : World) (host : Value) (a b : Str) (ta tb : Tok) (ha : a.length < 20) (hb : b.length < 20) (hS : SimilarAt a.cps.toList b.cps.toList) :
    ConB w 345 26 600 [host, .str a ta, .str b tb] true := by
  ((have hfill : ∀ P : Params, PySem.Challenge.rw_pc0254_01.row.prog = PySem.Challenge.rw_pc0254_01.row.prog ∧ hd.heap_39 P = hd.heap_39 P := fun _ => ⟨rfl, rfl⟩); revert hfill; k_fill; intro hfill; clear hfill)
  k_dflt (refine' con_enter (binds := [(Str.ofString "host", host), (Str.ofString "a", .str a ta), (Str.ofString "b", .str b tb)]) ?k6 ?k7 ?k9 ?kB ?k8 ?_ ?c5 ?c2 ?c3 ?c4; ((case k6 => k_is); (case k7 => k_is); (case k8 => decide); (case k9 => exact fun _ => BindsTo.of_eq rfl); (case c5 => decide); (case kB => exact locs rfl); (case c2 => exact rfl); (case c3 => exact rfl); (case c4 => exact rfl)))
  intro mean mg mb dp fr gd un s Q g L h₁ F N X T hdp hun hret
  (try k_fold)
  (repeat' ((fail_if_success (with_reducible show wpAny _ _ (exec (Stmt.For _ _ _ _ _) _) _ _ _)); (fail_if_success (with_reducible show wpAny _ _ (exec (Stmt.While _ _ _ _) _) _ _ _)); (fail_if_success (with_reducible show wpAny _ _ (pyIter _) _ _ _)); (fail_if_success (with_reducible show wpAny _ _ (exec (Stmt.Assign _ (Expr.ListComp _ _ _ _) _) _) _ _ _)); (fail_if_success (with_reducible show wpAny _ _ (eval (Expr.ListComp _ _ _ _) _) _ _ _)); first | (((with_reducible show wpAny _ _ (call (Value.ref 109) _) _ _ _); k_dflt (refine' con_use1 (con_php_similar _ _ _ _ _ _ _ _ ?zl1 ?zl2) ?zF ?zN ?zX ?zT ?zhl ?zU ?zhA ?zhd ?zhu ?_; (case zF => k_asm); (case zN => k_asm); (case zX => k_asm); (case zT => k_asm); (case zl1 => omega); (case zl2 => omega); (case zhl => rfl); (case zU => kwd_less); (case zhA => rfl); (case zhd => (first | exact room_b (by with_reducible assumption) rfl | exact room_a (by with_reducible assumption) rfl | omega | (simp only [Around.deeper, Around.in1]; omega))); (case zhu => (first | exact room_b (by with_reducible assumption) rfl | exact room_a (by with_reducible assumption) rfl | omega | (simp only [Around.deeper, Around.in1]; omega)))); intro _ _ _ _ _ hR'; obtain ⟨tt, e1'⟩ := hR'; subst e1'; (try k_sweep)); (try dsimp only)) | ((with_reducible show wpAny _ _ (call (Value.ref _) _) _ _ _); k_dflt (refine' con_useI ?zC ?zF ?zN ?zX ?zT ?zhA ?zhd ?zhu ?_); (case zC => first | exact con_law_shared _ 20 _ _ _ _ (by omega) (by omega) (by omega) | exact con_distance _ _ _ _ _ _ _ _ _ _ _ (by omega) (by omega)); (case zF => k_asm); (case zN => k_asm); (case zX => k_asm); (case zT => k_asm); (case zhA => rfl); (case zhd => first | exact room_b (by with_reducible assumption) rfl | exact room_a (by with_reducible assumption) rfl | omega | (simp only [Around.deeper, Around.in1]; omega)); (case zhu => first | exact room_b (by with_reducible assumption) rfl | exact room_a (by with_reducible assumption) rfl | omega | (simp only [Around.deeper, Around.in1]; omega)); intro _ _ _ _ _; (try k_sweep); (try dsimp only)) | (k_unfold; (try dsimp only)) | (walk1; (try dsimp only)) | (dsimp only; walk1) | fail "no step"))
  · rename ¬ _ => h
    exact absurd rfl h
  · rename ¬ _ => h
    have := hS.self
    have := len_cps a
    exfalso
    omega
  · refine hret _ [] _ _ _ _ (by assumption) (by assumption) sub_nil ⟨congrArg Value.bool ?_, rfl⟩
    have := hS.le
    have := len_cps a
    have := len_cps b
    rw [decide_eq_true_eq]
    omega
end
section
theorem strs_at : ∀ {vs : List Value} {ss : List Str}, StrsAre vs ss → ∀ {i : Nat}, i < ss.length → ∃ t, vs[i]? = some (.str (ss.getD i Str.empty) t)
  | _, _, .nil, _, h => absurd h (Nat.not_lt_zero _)
  | _, _, .cons _ t _, 0, _ => ⟨t, rfl⟩
  | _, _, .cons _ _ r, i + 1, h => strs_at r (i := i) (Nat.lt_of_succ_lt_succ h)
section
variable {prog : Program} {w : World} {A : Around} {E : Value → Shared → Prop} {s : Shared} {h₀ : Heap} {L l : Addr} {news : List (Addr × Obj)} {value slice : PySem.Expr} {vs : List Value} {ss : List Str}
theorem my_itemS {n : Nat} {i : Int} {u : Tok} {Q : Value → Shared → Prop} (N : News h₀ L s.heap news) (hm : (l, listOf vs.toArray n) ∈ news) (hi : StrsAre vs ss) (h0 : 0 ≤ i) (h1 : i < ss.length) (hr : i < 2 ^ 63)
    (h : ∀ t, Q (.str (ss.getD i.toNat Str.empty) t) s)
    (hs : subscripted slice false (.ref l) (.int i u) = operate [.ref l, .int i u] (getItem (.ref l) (.int i u)))
    (ht : ∀ r, letTemporaryGo value (.ref l) r = pure ()) :
    wpAny (model prog w) A (subscriptTail value slice (.ref l) (.int i u)) Q E s := by
  obtain ⟨t, e⟩ := strs_at hi (i := i.toNat) (by omega)
  exact my_item N hm h0 hr (by simpa using e) (h t) hs ht
end
end
local macro_rules | `(tactic| walk_at "subscriptTail") => `(tactic| ((with_reducible show wpAny _ _ (subscriptTail _ _ (Value.ref _) (Value.int _ _)) _ _ _); k_dflt (refine' my_itemS ?N ?m ?i ?z ?lt ?ft ?_ ?s ?g; (case N => k_asm); (case m => k_mem); (case i => assumption); (case z => omega); (case lt => omega); (case ft => omega); (case s => with_unfolding_all rfl); (case g => (intro _; with_unfolding_all rfl))); intro t'))
section
noncomputable def codeGroups : List Str := [Str.ofString "AEIOUY", Str.ofString "BFPV", Str.ofString "CGJKQSXZ", Str.ofString "DT", Str.ofString "L", Str.ofString "MN", Str.ofString "R", Str.ofString "HW"]
noncomputable def codeTo (c n : Nat) : List Int := ((List.range n).filter fun (k : Nat) => decide (c ∈ (codeGroups.getD k Str.empty).cps.toList)).map fun (k : Nat) => (k : Int)
noncomputable def codeOf (c : Nat) : Int := (codeTo c 8).headD 0
theorem code_one (c : Nat) (h : 65 ≤ c) (h' : c ≤ 90) : codeTo c 8 = [codeOf c] := by
  have : ∀ k < 26, codeTo (65 + k) 8 = [codeOf (65 + k)] := by decide +kernel
  obtain ⟨k, rfl⟩ : ∃ k, c = 65 + k := ⟨c - 65, by omega⟩
  exact this k (by omega)
theorem codeTo_succ (c k : Nat) : codeTo c (k + 1) = codeTo c k ++ if c ∈ (codeGroups.getD k Str.empty).cps.toList then [(k : Int)] else [] := by
  unfold codeTo
  rw [List.range_succ, List.filter_append, List.map_append]
  congr 1
  by_cases h : c ∈ (codeGroups.getD k Str.empty).cps.toList
  · rw [if_pos h, List.filter_cons_of_pos (p := fun (k : Nat) => decide (c ∈ (codeGroups.getD k Str.empty).cps.toList)) (decide_eq_true h), List.filter_nil]; rfl
  · rw [if_neg h, List.filter_cons_of_neg (p := fun (k : Nat) => decide (c ∈ (codeGroups.getD k Str.empty).cps.toList)) (by rw [decide_eq_true_eq]; exact h), List.filter_nil]; rfl
theorem code_in {s : Str} {c : Nat} {b : Bool} (h : (Builtin.Str.occurrences s ⟨#[c]⟩ 0 s.length 1).isEmpty = b) : decide (c ∈ s.cps.toList) = !b := by
  rw [← PySem.StrLaws.found_one, h]
theorem con_law_code (w : World) (c : Nat) (t : Tok) (hc1 : 65 ≤ c) (hc2 : c ≤ 90) : ConI w 350 2 60 [.str ⟨#[c]⟩ t] (codeOf c) := by
  ((have hfill : ∀ P : Params, PySem.Challenge.rw_pc0254_01.row.prog = PySem.Challenge.rw_pc0254_01.row.prog ∧ hd.heap_39 P = hd.heap_39 P := fun _ => ⟨rfl, rfl⟩); revert hfill; k_fill; intro hfill; clear hfill)
  k_dflt (refine' con_enterC [(Str.ofString "letter", .str ⟨#[c]⟩ t)] [] (fun L => [(Str.ofString "groups", L + 1 + 1), (Str.ofString "letter", L + 1)]) ?k6 ?k7 ?k9 ?kB ?k8 ?nd ?lo ?cs ?_ ?c2 ?c3 ?c4; (case k6 => k_is); (case k7 => k_is); (case k8 => decide); (case k9 => exact fun _ => BindsTo.of_eq rfl); (case kB => exact rfl); (case nd => decide +kernel); (case lo => exact fun _ => rfl); (case cs => exact fun _ => rfl); (case c2 => exact rfl); (case c3 => exact rfl); (case c4 => exact rfl))
  intro mean mg mb dp fr gd un s Q g L h₁ tk cells F N Y hold X T hdp hun hret
  obtain ⟨o1, o2, rfl, h1, h2⟩ := CellsAre.two Y
  replace h1 : o1.data = .cell none := h1
  replace h2 : o2.data = .cell (some (.str ⟨#[c]⟩ t)) := h2
  clear Y
  dsimp only [kstB] at F
  simp only [List.cons_append, List.nil_append, List.append_nil] at N
  (try k_fold)
  (repeat' ((fail_if_success (with_reducible show wpAny _ _ (exec (Stmt.For _ _ _ _ _) _) _ _ _)); (fail_if_success (with_reducible show wpAny _ _ (exec (Stmt.While _ _ _ _) _) _ _ _)); (fail_if_success (with_reducible show wpAny _ _ (pyIter _) _ _ _)); (fail_if_success (with_reducible show wpAny _ _ (exec (Stmt.Assign _ (Expr.ListComp _ _ _ _) _) _) _ _ _)); (fail_if_success (with_reducible show wpAny _ _ (eval (Expr.ListComp _ _ _ _) _) _ _ _)); first | (k_unfold; (try dsimp only)) | (walk1; (try dsimp only)) | (dsimp only; walk1) | fail "no step"))
  refine m_ListComp (by with_unfolding_all rfl) rfl (by decide) ?_
  (repeat' ((fail_if_success (with_reducible show wpAny _ _ (exec (Stmt.For _ _ _ _ _) _) _ _ _)); (fail_if_success (with_reducible show wpAny _ _ (exec (Stmt.While _ _ _ _) _) _ _ _)); (fail_if_success (with_reducible show wpAny _ _ (pyIter _) _ _ _)); (fail_if_success (with_reducible show wpAny _ _ (exec (Stmt.Assign _ (Expr.ListComp _ _ _ _) _) _) _ _ _)); (fail_if_success (with_reducible show wpAny _ _ (eval (Expr.ListComp _ _ _ _) _) _ _ _)); first | (k_unfold; (try dsimp only)) | (walk1; (try dsimp only)) | (dsimp only; walk1) | fail "no step"))
  rename Fr _ _ _ _ => F1
  rename News _ _ _ _ => N1
  rename IsRange _ _ _ _ _ _ _ _ => R1
  rename Heap => hh
  obtain ⟨gs, l, o', hgs, hd', N2⟩ : ∃ gs l o', StrsAre gs codeGroups ∧ o'.data = .cell (some (.ref l)) ∧ News g L hh [(l, listOf (List.toArray gs) 0), (L + 1 + 1, o'), (L + 1, o2)] :=
    ⟨_, _, _, .cons _ _ (.cons _ _ (.cons _ _ (.cons _ _ (.cons _ _ (.cons _ _ (.cons _ _ (.cons _ _ .nil))))))), by assumption, N1⟩
  refine m_comp_range (σ := Unit) (fun _ => []) [(l, listOf gs.toArray 0), (L + 1 + 1, o'), (L + 1, o2)] [(l, listOf gs.toArray 0), (L + 1 + 1, o'), (L + 1, o2)] [] (fun k acc _ => IntsAre acc.toList (codeTo c k)) 8 rfl R1 (by decide) (by decide) (by decide) (by decide) rfl (by rw [PySem.sizeLine_eq]; decide) F1 N2 X T (by decide) rfl rfl sub_rfl ⟨(), sub_nil, IntsAre.nil⟩ (fun _ _ _ _ => rfl) (fun p hp => ⟨hp, List.not_mem_nil⟩) ?acc ?turn ?done
  case acc =>
    intro k acc _ h
    have := h.length
    have h2 : (codeTo c k).length ≤ k := by
      rw [codeTo, List.length_map]
      exact Nat.le_trans (List.length_filter_le _ _) (by simp)
    simp only [Array.length_toList] at this
    omega
  case turn =>
    intro g' C k tk' _ acc u h tk own hk hJ hs X' T' F' N'
    clear F1 N1 N2 R1
    simp only [List.nil_append, List.cons_append] at N'
    have hk2 : (0 + (k : Int)) < codeGroups.length := by rw [show codeGroups.length = 8 from rfl]; omega
    (try k_fold)
    (repeat' ((fail_if_success (with_reducible show wpAny _ _ (exec (Stmt.For _ _ _ _ _) _) _ _ _)); (fail_if_success (with_reducible show wpAny _ _ (exec (Stmt.While _ _ _ _) _) _ _ _)); (fail_if_success (with_reducible show wpAny _ _ (pyIter _) _ _ _)); (fail_if_success (with_reducible show wpAny _ _ (exec (Stmt.Assign _ (Expr.ListComp _ _ _ _) _) _) _ _ _)); (fail_if_success (with_reducible show wpAny _ _ (eval (Expr.ListComp _ _ _ _) _) _ _ _)); first | (k_unfold; (try dsimp only)) | (walk1; (try dsimp only)) | (dsimp only; walk1) | fail "no step"))
    · rename List.isEmpty _ = true => e
      replace e := code_in e
      rename Fr _ _ _ _ => F2
      rename News _ _ _ _ => N2
      refine CompEnd.intro () F2 N2 sub_nil sub_rfl ?_
      rw [show (0 + (k : Int)).toNat = k from by omega] at e
      replace e := of_decide_eq_false e
      rw [codeTo_succ, if_neg e, List.append_nil]
      exact hJ
    · rename List.isEmpty _ = false => e
      replace e := code_in e
      rename Fr _ _ _ _ => F2
      rename News _ _ _ _ => N2
      refine CompEnd.intro () F2 N2 sub_nil sub_rfl ?_
      rw [show (0 + (k : Int)).toNat = k from by omega] at e
      replace e := of_decide_eq_true e
      rw [codeTo_succ, if_pos e, Int.zero_add]
      exact ints_push hJ _ _
  case done =>
    rintro D C _ acc nn h' tk' hCL hled h0 hn ⟨F', N', hJ, hlt⟩
    refine compPost_none hCL hled h0 hn F' N' ?_
    clear F' N' F1 N1 N2 R1 hled hn h0
    rw [code_one c hc1 hc2] at hJ
    intro h' F' N'
    simp only [List.nil_append] at N'
    (repeat' ((fail_if_success (with_reducible show wpAny _ _ (exec (Stmt.For _ _ _ _ _) _) _ _ _)); (fail_if_success (with_reducible show wpAny _ _ (exec (Stmt.While _ _ _ _) _) _ _ _)); (fail_if_success (with_reducible show wpAny _ _ (pyIter _) _ _ _)); (fail_if_success (with_reducible show wpAny _ _ (exec (Stmt.Assign _ (Expr.ListComp _ _ _ _) _) _) _ _ _)); (fail_if_success (with_reducible show wpAny _ _ (eval (Expr.ListComp _ _ _ _) _) _ _ _)); first | (k_unfold; (try dsimp only)) | (walk1; (try dsimp only)) | (dsimp only; walk1) | fail "no step"))
    exact hret _ [] _ _ _ _ (by assumption) (by assumption) sub_nil ⟨_, rfl, rfl⟩
end
section
inductive Ali (i r d : Int) : List Nat → List Nat → Int → Prop
  | nil : Ali i r d [] [] 0
  | ins {a b c} (y : Nat) : Ali i r d a b c → Ali i r d a (y :: b) (c + i)
  | del {a b c} (x : Nat) : Ali i r d a b c → Ali i r d (x :: a) b (c + d)
  | rep {a b c} (x y : Nat) : Ali i r d a b c → Ali i r d (x :: a) (y :: b) (c + if x = y then 0 else r)
section
variable {i r d : Int}
theorem bst_nn : bst i r d [] [] = 0 := by rw [bst]
theorem bst_cn (x : Nat) (a : List Nat) : bst i r d (x :: a) [] = bst i r d a [] + d := by rw [bst]
theorem bst_nc (y : Nat) (b : List Nat) : bst i r d [] (y :: b) = bst i r d [] b + i := by rw [bst]
theorem bst_cc (x y : Nat) (a b : List Nat) : bst i r d (x :: a) (y :: b) = min (min (bst i r d a (y :: b) + d) (bst i r d (x :: a) b + i)) (bst i r d a b + (if x = y then 0 else r)) := by rw [bst]
theorem Ali.of {a b : List Nat} {c c' : Int} (h : Ali i r d a b c) (e : c = c') : Ali i r d a b c' := e ▸ h
theorem ali_bst_n : ∀ (n : Nat) (a b : List Nat), a.length + b.length ≤ n → Ali i r d a b (bst i r d a b)
  | n, [], [], _ => by rw [bst_nn]; exact .nil
  | 0, x :: a, _, h => by simp at h
  | 0, [], y :: b, h => by simp at h
  | n + 1, x :: a, [], h => by
    simp only [List.length_cons, List.length_nil] at h
    rw [bst_cn]; exact .del _ (ali_bst_n n a [] (by simp only [List.length_nil]; omega))
  | n + 1, [], y :: b, h => by
    simp only [List.length_cons, List.length_nil] at h
    rw [bst_nc]; exact .ins _ (ali_bst_n n [] b (by simp only [List.length_nil]; omega))
  | n + 1, x :: a, y :: b, h => by
    simp only [List.length_cons] at h
    have h1 := Ali.del x (ali_bst_n n a (y :: b) (by simp only [List.length_cons]; omega))
    have h2 := Ali.ins y (ali_bst_n n (x :: a) b (by simp only [List.length_cons]; omega))
    have h3 := Ali.rep x y (ali_bst_n n a b (by omega))
    rw [bst_cc]
    rcases Int.le_total (bst i r d a (y :: b) + d) (bst i r d (x :: a) b + i) with q | q
    · rw [Int.min_eq_left q]
      rcases Int.le_total (bst i r d a (y :: b) + d) (bst i r d a b + (if x = y then 0 else r)) with q | q
      · rw [Int.min_eq_left q]; exact h1
      · rw [Int.min_eq_right q]; exact h3
    · rw [Int.min_eq_right q]
      rcases Int.le_total (bst i r d (x :: a) b + i) (bst i r d a b + (if x = y then 0 else r)) with q | q
      · rw [Int.min_eq_left q]; exact h2
      · rw [Int.min_eq_right q]; exact h3
theorem ali_bst (a b : List Nat) : Ali i r d a b (bst i r d a b) := ali_bst_n _ a b (Nat.le_refl _)
theorem bst_ins (a b : List Nat) (y : Nat) : bst i r d a (y :: b) ≤ bst i r d a b + i := by
  cases a with
  | nil => rw [bst_nc]; exact Int.le_refl _
  | cons x a => rw [bst_cc]; omega
theorem bst_del (a b : List Nat) (x : Nat) : bst i r d (x :: a) b ≤ bst i r d a b + d := by
  cases b with
  | nil => rw [bst_cn]; exact Int.le_refl _
  | cons y b => rw [bst_cc]; omega
theorem bst_le {a b : List Nat} {c : Int} (h : Ali i r d a b c) : bst i r d a b ≤ c := by
  induction h with
  | nil => rw [bst_nn]; exact Int.le_refl _
  | @ins a b c y _ ih => have := bst_ins (i := i) (r := r) (d := d) a b y; omega
  | @del a b c x _ ih => have := bst_del (i := i) (r := r) (d := d) a b x; omega
  | @rep a b c x y _ ih =>
    rw [bst_cc]
    generalize (if x = y then (0 : Int) else r) = q
    omega
theorem Ali.append {a b a' b' : List Nat} {c c' : Int} (h : Ali i r d a b c) (h' : Ali i r d a' b' c') : Ali i r d (a ++ a') (b ++ b') (c + c') := by
  induction h with
  | nil => exact h'.of (by omega)
  | ins y _ ih => exact (Ali.ins y ih).of (by omega)
  | del x _ ih => exact (Ali.del x ih).of (by omega)
  | rep x y _ ih => exact (Ali.rep x y ih).of (by omega)
theorem Ali.reverse {a b : List Nat} {c : Int} (h : Ali i r d a b c) : Ali i r d a.reverse b.reverse c := by
  induction h with
  | nil => exact .nil
  | ins y _ ih => rw [List.reverse_cons]; have := ih.append (Ali.ins y .nil); rw [List.append_nil] at this; exact this.of (by omega)
  | del x _ ih => rw [List.reverse_cons]; have := ih.append (Ali.del x .nil); rw [List.append_nil] at this; exact this.of (by omega)
  | rep x y _ ih => rw [List.reverse_cons, List.reverse_cons]; exact (ih.append (Ali.rep x y .nil)).of (by omega)
theorem bst_reverse (a b : List Nat) : bst i r d a.reverse b.reverse = bst i r d a b := by
  have h1 := bst_le (ali_bst (i := i) (r := r) (d := d) a b).reverse
  have h2 := bst_le (ali_bst (i := i) (r := r) (d := d) a.reverse b.reverse).reverse
  rw [List.reverse_reverse, List.reverse_reverse] at h2
  omega
theorem Ali.swap {a b : List Nat} {c : Int} (h : Ali i r d a b c) : Ali d r i b a c := by
  induction h with
  | nil => exact .nil
  | ins y _ ih => exact .del y ih
  | del x _ ih => exact .ins x ih
  | rep x y _ ih => exact (Ali.rep y x ih).of (by simp only [eq_comm])
theorem bst_swap (a b : List Nat) : bst d r i b a = bst i r d a b := by
  have h1 := bst_le (ali_bst (i := i) (r := r) (d := d) a b).swap
  have h2 := bst_le (ali_bst (i := d) (r := r) (d := i) b a).swap
  omega
theorem bst_nil_left (b : List Nat) : bst i r d [] b = b.length * i := by
  induction b with
  | nil => rw [bst_nn]; simp
  | cons y b ih => rw [bst_nc, ih, List.length_cons, Int.natCast_add, Int.add_mul]; simp
theorem bst_nil_right (a : List Nat) : bst i r d a [] = a.length * d := by
  induction a with
  | nil => rw [bst_nn]; simp
  | cons x a ih => rw [bst_cn, ih, List.length_cons, Int.natCast_add, Int.add_mul]; simp
theorem take_rev {b : List Nat} {m : Nat} (h : m < b.length) : (b.take (m + 1)).reverse = b.getD m 0 :: (b.take m).reverse := by
  rw [List.take_add_one, List.getElem?_eq_getElem h, List.reverse_append]
  simp [List.getD, List.getElem?_eq_getElem h]
theorem stepRow_at {x : Nat} {b A : List Nat} {row : List Int} (hr : ∀ j, j ≤ b.length → row.getD j 0 = bst i r d A (b.take j).reverse) :
    ∀ m, m ≤ b.length → ∀ j, j ≤ m → (stepRow x b i r d row m).getD j 0 = bst i r d (x :: A) (b.take j).reverse
  | 0, _, j, hj => by
    obtain rfl : j = 0 := by omega
    have := hr 0 (by omega)
    rw [stepRow]
    simp only [List.take_zero, List.reverse_nil] at this ⊢
    rw [bst_cn, ← this]; rfl
  | m + 1, hm, j, hj => by
    rw [stepRow]
    have hl := stepRow_length x b i r d row m
    by_cases h : j ≤ m
    · rw [← stepRow_at hr m (by omega) j h]
      simp only [List.getD]
      rw [List.getElem?_append_left (by omega)]
    · obtain rfl : j = m + 1 := by omega
      have e : ∀ z : Int, (stepRow x b i r d row m ++ [z]).getD (m + 1) 0 = z := by
        intro z
        simp only [List.getD]
        rw [List.getElem?_append_right (by omega), hl]
        simp
      rw [e, stepRow_at hr m (by omega) m (Nat.le_refl m), hr m (by omega), hr (m + 1) hm, take_rev (by omega), bst_cc, min3]
      generalize (if x = b.getD m 0 then (0 : Int) else r) = q
      first | exact (Int.min_assoc _ _ _).trans (Int.min_comm _ _) | omega
theorem rowsAt_at {a b : List Nat} : ∀ k, k ≤ a.length → ∀ j, j ≤ b.length → (rowsAt a b i r d k).getD j 0 = bst i r d (a.take k).reverse (b.take j).reverse
  | 0, _, j, hj => by
    rw [show rowsAt a b i r d 0 = row0 i (b.length + 1) from rfl, List.take_zero, List.reverse_nil, bst_nil_left, List.length_reverse, List.length_take]
    simp only [row0, List.getD, List.getElem?_map]
    rw [List.getElem?_range (by omega)]
    simp only [Option.map_some, Option.getD_some]
    rw [Nat.min_eq_left hj]
  | k + 1, hk, j, hj => by
    rw [rowsAt_succ (List.getElem?_eq_getElem (show k < a.length by omega)), take_rev (show k < a.length by omega)]
    have e : a[k]'(by omega) = a.getD k 0 := by simp [List.getD, List.getElem?_eq_getElem (show k < a.length by omega)]
    rw [e]
    exact stepRow_at (fun j hj => rowsAt_at k (by omega) j hj) b.length (Nat.le_refl _) j hj
theorem dist_bst (a b : List Nat) : dist a b i r d = bst i r d a b := by
  rw [dist]
  split
  · rename_i h; rw [h, bst_nil_left]
  · split
    · rename_i h; rw [h, bst_nil_right]
    · rw [rowsAt_at a.length (Nat.le_refl _) b.length (Nat.le_refl _), List.take_length, List.take_length, bst_reverse]
theorem dist_swap (a b : List Nat) : dist b a d r i = dist a b i r d := by rw [dist_bst, dist_bst, bst_swap]
theorem dist_reverse (a b : List Nat) : dist a.reverse b.reverse i r d = dist a b i r d := by rw [dist_bst, dist_bst, bst_reverse]
end
end
section
section
variable {i r d : Int}
theorem Ali.trans {n : Nat} : ∀ {a b c : List Nat} {p q : Int}, 0 ≤ i → 0 ≤ r → 0 ≤ d → a.length + b.length + c.length ≤ n → Ali i r d a b p → Ali i r d b c q → ∃ s, s ≤ p + q ∧ Ali i r d a c s := by
  induction n with
  | zero =>
    intro a b c p q hi hr hd hn h1 h2
    cases h1 with
    | nil => exact ⟨q, by omega, h2⟩
    | ins y h => simp at hn
    | del x h => simp at hn
    | rep x y h => simp at hn
  | succ n ih =>
    intro a b c p q hi hr hd hn h1 h2
    cases h1 with
    | nil => exact ⟨q, by omega, h2⟩
    | @del a' _ p' x h =>
      simp only [List.length_cons] at hn
      obtain ⟨s, hs, H⟩ := ih hi hr hd (by omega) h h2
      exact ⟨_, by omega, .del x H⟩
    | @ins _ b' p' y h =>
      simp only [List.length_cons] at hn
      cases h2 with
      | @ins _ c' q' z h' =>
        simp only [List.length_cons] at hn
        obtain ⟨s, hs, H⟩ := ih hi hr hd (by simp only [List.length_cons]; omega) (Ali.ins y h) h'
        exact ⟨_, by omega, .ins z H⟩
      | @del _ _ q' _ h' =>
        obtain ⟨s, hs, H⟩ := ih hi hr hd (by omega) h h'
        exact ⟨_, by omega, H⟩
      | @rep _ c' q' _ z h' =>
        simp only [List.length_cons] at hn
        obtain ⟨s, hs, H⟩ := ih hi hr hd (by omega) h h'
        refine ⟨_, ?_, .ins z H⟩
        split <;> omega
    | @rep a' b' p' x y h =>
      simp only [List.length_cons] at hn
      cases h2 with
      | @ins _ c' q' z h' =>
        simp only [List.length_cons] at hn
        obtain ⟨s, hs, H⟩ := ih hi hr hd (by simp only [List.length_cons]; omega) (Ali.rep x y h) h'
        exact ⟨_, by omega, .ins z H⟩
      | @del _ _ q' _ h' =>
        obtain ⟨s, hs, H⟩ := ih hi hr hd (by omega) h h'
        refine ⟨_, ?_, .del x H⟩
        split <;> omega
      | @rep _ c' q' _ z h' =>
        simp only [List.length_cons] at hn
        obtain ⟨s, hs, H⟩ := ih hi hr hd (by omega) h h'
        refine ⟨_, ?_, .rep x z H⟩
        by_cases e1 : x = y
        · subst e1
          rw [if_pos rfl]; omega
        · by_cases e2 : y = z
          · subst e2
            rw [if_neg e1, if_pos rfl]; omega
          · rw [if_neg e1, if_neg e2]
            split <;> omega
theorem Ali.refl (a : List Nat) : Ali i r d a a 0 := by
  induction a with
  | nil => exact .nil
  | cons x a ih => exact (Ali.rep x x ih).of (by rw [if_pos rfl]; omega)
theorem bst_tri {a b c : List Nat} (hi : 0 ≤ i) (hr : 0 ≤ r) (hd : 0 ≤ d) : bst i r d a c ≤ bst i r d a b + bst i r d b c := by
  obtain ⟨s, hs, H⟩ := Ali.trans hi hr hd (Nat.le_refl _) (ali_bst a b) (ali_bst b c)
  have := bst_le H
  omega
theorem ed_ali {x y : List Nat} {c : Int} (hi : 0 ≤ i) (hr : 0 ≤ r) (hd : 0 ≤ d) (h : Ed i r d x y c) : ∃ s, s ≤ c ∧ Ali i r d x y s := by
  induction h with
  | refl => exact ⟨0, Int.le_refl _, .refl x⟩
  | @ins y c p s _ hp ih =>
    obtain ⟨q, hq, H⟩ := ih
    have E : Ali i r d y (y.take p ++ [s] ++ y.drop p) i := by
      have := (Ali.refl (i := i) (r := r) (d := d) (y.take p)).append (Ali.ins s (Ali.refl (y.drop p)))
      rw [List.take_append_drop] at this
      rw [List.append_assoc]
      exact this.of (by omega)
    obtain ⟨t, ht, H'⟩ := Ali.trans hi hr hd (Nat.le_refl _) H E
    exact ⟨t, by omega, H'⟩
  | @rep y c p s _ hp ih =>
    obtain ⟨q, hq, H⟩ := ih
    have E : Ali i r d y (y.take p ++ [s] ++ y.drop (p + 1)) (if y[p] = s then 0 else r) := by
      have := (Ali.refl (i := i) (r := r) (d := d) (y.take p)).append (Ali.rep y[p] s (Ali.refl (y.drop (p + 1))))
      rw [← List.drop_eq_getElem_cons, List.take_append_drop] at this
      rw [List.append_assoc]
      exact this.of (by omega)
    obtain ⟨t, ht, H'⟩ := Ali.trans hi hr hd (Nat.le_refl _) H E
    refine ⟨t, ?_, H'⟩
    revert ht
    split <;> omega
  | @del y c p _ hp ih =>
    obtain ⟨q, hq, H⟩ := ih
    have E : Ali i r d y (y.take p ++ y.drop (p + 1)) d := by
      have := (Ali.refl (i := i) (r := r) (d := d) (y.take p)).append (Ali.del y[p] (Ali.refl (y.drop (p + 1))))
      rw [← List.drop_eq_getElem_cons, List.take_append_drop] at this
      exact this.of (by omega)
    obtain ⟨t, ht, H'⟩ := Ali.trans hi hr hd (Nat.le_refl _) H E
    exact ⟨t, by omega, H'⟩
theorem ed_dist {x y : List Nat} {c : Int} (hi : 0 ≤ i) (hr : 0 ≤ r) (hd : 0 ≤ d) (h : Ed i r d x y c) : dist x y i r d ≤ c := by
  obtain ⟨s, hs, H⟩ := ed_ali hi hr hd h
  have := bst_le H
  rw [dist_bst]
  omega
end
theorem ali1_nonneg {a b : List Nat} {c : Int} (h : Ali 1 1 1 a b c) : ((a.length : Int) - b.length).natAbs ≤ c ∧ (c = 0 → a = b) := by
  induction h with
  | nil => simp
  | ins y _ ih => simp only [List.length_cons]; refine ⟨by omega, fun h => ?_⟩; omega
  | del x _ ih => simp only [List.length_cons]; refine ⟨by omega, fun h => ?_⟩; omega
  | rep x y _ ih =>
    simp only [List.length_cons]
    split
    · rename_i e
      refine ⟨by omega, fun h => ?_⟩
      rw [e, ih.2 (by omega)]
    · refine ⟨by omega, fun h => ?_⟩; omega
theorem bst1_le : ∀ a b : List Nat, bst 1 1 1 a b ≤ max (a.length : Int) b.length
  | [], b => by rw [bst_nil_left]; simp only [List.length_nil]; omega
  | x :: a, [] => by rw [bst_nil_right]; simp only [List.length_nil, List.length_cons]; omega
  | x :: a, y :: b => by
    have := bst1_le a b
    rw [bst_cc]
    simp only [List.length_cons]
    have q : (if x = y then (0 : Int) else 1) ≤ 1 := by split <;> decide
    refine Int.le_trans (Int.min_le_right _ _) ?_
    generalize (if x = y then (0 : Int) else 1) = q1 at q ⊢
    generalize bst 1 1 1 a b = z at this ⊢
    omega
theorem bst1_cons (x : Nat) (a b : List Nat) : bst 1 1 1 (x :: a) (x :: b) = bst 1 1 1 a b := by
  have h1 : bst 1 1 1 a b ≤ bst 1 1 1 a (x :: b) + 1 := by
    have := bst_tri (i := 1) (r := 1) (d := 1) (a := a) (b := x :: b) (c := b) (by omega) (by omega) (by omega)
    have := bst_le (Ali.del x (Ali.refl (i := 1) (r := 1) (d := 1) b))
    omega
  have h2 : bst 1 1 1 a b ≤ bst 1 1 1 (x :: a) b + 1 := by
    have := bst_tri (i := 1) (r := 1) (d := 1) (a := a) (b := x :: a) (c := b) (by omega) (by omega) (by omega)
    have := bst_le (Ali.ins x (Ali.refl (i := 1) (r := 1) (d := 1) a))
    omega
  rw [bst_cc, if_pos rfl]
  omega
theorem bst1_pre (p a b : List Nat) : bst 1 1 1 (p ++ a) (p ++ b) = bst 1 1 1 a b := by
  induction p with
  | nil => rfl
  | cons x p ih => rw [List.cons_append, List.cons_append, bst1_cons, ih]
theorem bst1_suf (p a b : List Nat) : bst 1 1 1 (a ++ p) (b ++ p) = bst 1 1 1 a b := by
  rw [← bst_reverse, List.reverse_append, List.reverse_append, bst1_pre, bst_reverse]
theorem metricAt (a b c : List Nat) : MetricAt a b c where
  zero := by
    rw [dist_bst]
    refine ⟨fun h => (ali1_nonneg (ali_bst a b)).2 h, ?_⟩
    rintro rfl
    have h1 := bst_le (Ali.refl (i := 1) (r := 1) (d := 1) a)
    have h2 := (ali1_nonneg (ali_bst (i := 1) (r := 1) (d := 1) a a)).1
    omega
  symm := dist_swap a b
  t1 := by
    simp only [dist_bst]
    have := bst_tri (i := 1) (r := 1) (d := 1) (a := a) (b := c) (c := b) (by omega) (by omega) (by omega)
    have := bst_swap (i := 1) (r := 1) (d := 1) b c
    omega
  t2 := by
    simp only [dist_bst]
    exact bst_tri (by omega) (by omega) (by omega)
  t3 := by
    simp only [dist_bst]
    have := bst_tri (i := 1) (r := 1) (d := 1) (a := b) (b := a) (c := c) (by omega) (by omega) (by omega)
    have := bst_swap (i := 1) (r := 1) (d := 1) a b
    omega
  lo := by rw [dist_bst]; exact (ali1_nonneg (ali_bst a c)).1
  hi := by rw [dist_bst]; exact bst1_le a c
  pre := by rw [dist_bst, dist_bst, bst1_pre]
  suf := by rw [dist_bst, dist_bst, bst1_suf]
theorem cpl_take : ∀ a b : List Nat, a.take (cpl a b) = b.take (cpl a b)
  | [], _ => by rw [cpl_nil_left]; simp
  | _ :: _, [] => by rw [cpl_nil_right]; simp
  | x :: a, y :: b => by
    have := cpl_take a b
    rw [cpl]
    split
    · rename_i e; rw [List.take_succ_cons, List.take_succ_cons, this, e]
    · simp
theorem cpl_self (a : List Nat) : cpl a a = a.length := by
  induction a with
  | nil => rfl
  | cons x a ih => rw [cpl, if_pos rfl, ih, List.length_cons]
theorem ali_all (a b : List Nat) : Ali 1 2 1 a b (a.length + b.length) := by
  induction a with
  | nil =>
    induction b with
    | nil => exact .nil
    | cons y b ih => exact (Ali.ins y ih).of (by simp only [List.length_cons, List.length_nil]; omega)
  | cons x a ih => exact (Ali.del x ih).of (by simp only [List.length_cons]; omega)
theorem parts3 (l : List Nat) (n k : Nat) : l.take n ++ ((l.drop n).take k ++ l.drop (n + k)) = l := by
  rw [← List.drop_drop, List.take_append_drop, List.take_append_drop]
theorem sim_ali : ∀ (n : Nat) (a b : List Nat), a.length ≤ n → ∃ s, s ≤ (a.length : Int) + b.length - 2 * sim a b ∧ Ali 1 2 1 a b s
  | n, a, b, hn => by
    rw [sim_eq]
    have G := piece_good a b
    have hin := G.in
    generalize piece a b = P at *
    split
    · exact ⟨_, by omega, ali_all a b⟩
    · rename_i hz
      cases n with
      | zero => omega
      | succ n =>
        rcases G with e | ⟨e, _⟩
        · rw [e] at hz; simp at hz
        · obtain ⟨s1, h1, H1⟩ := sim_ali n (a.take P.1) (b.take P.2.1) (by rw [List.length_take]; omega)
          obtain ⟨s2, h2, H2⟩ := sim_ali n (a.drop (P.1 + P.2.2)) (b.drop (P.2.1 + P.2.2)) (by rw [List.length_drop]; omega)
          have ht := cpl_take (a.drop P.1) (b.drop P.2.1)
          rw [← e] at ht
          have M := Ali.refl (i := 1) (r := 2) (d := 1) ((a.drop P.1).take P.2.2)
          have H := H1.append (Ali.append (show Ali 1 2 1 ((a.drop P.1).take P.2.2) ((b.drop P.2.1).take P.2.2) 0 by rw [← ht]; exact M) H2)
          rw [parts3, parts3] at H
          refine ⟨_, ?_, H⟩
          simp only [List.length_take, List.length_drop] at h1 h2
          omega
theorem better_full {a : List Nat} {p : Best} (h : p.2.2 = a.length) (i j : Nat) (b : List Nat) : better p i j (cpl (a.drop i) b) = p := by
  have := cpl_le_left (a.drop i) b
  rw [List.length_drop] at this
  rw [better, if_neg (by omega)]
theorem scanRow_full {a : List Nat} (i : Nat) (b : List Nat) : ∀ (n : Nat) {p : Best}, p.2.2 = a.length → scanRow a b i n p = p
  | 0, _, _ => rfl
  | n + 1, _, h => by rw [scanRow_succ, scanRow_full i b n h, better_full h]
theorem scanRow_self (a : List Nat) : ∀ n, scanRow a a 0 (n + 1) (0, 0, 0) = (0, 0, a.length)
  | 0 => by
    rw [scanRow_succ, show scanRow a a 0 0 (0, 0, 0) = (0, 0, 0) from rfl, List.drop_zero, cpl_self, better]
    split
    · rfl
    · rename_i h
      rw [show a.length = 0 from by simpa using h]
  | n + 1 => by rw [scanRow_succ, scanRow_self a n, better_full rfl]
theorem scanAll_self (a : List Nat) (ha : 0 < a.length) : ∀ n, scanAll a a (n + 1) = (0, 0, a.length)
  | 0 => by
    rw [scanAll_succ, show scanAll a a 0 = (0, 0, 0) from rfl]
    obtain ⟨m, hm⟩ : ∃ m, a.length = m + 1 := ⟨a.length - 1, by omega⟩
    have := scanRow_self a m
    rw [← hm] at this
    exact this
  | n + 1 => by rw [scanAll_succ, scanAll_self a ha n, scanRow_full _ _ _ rfl]
theorem piece_nil : piece [] [] = (0, 0, 0) := rfl
theorem sim_nil : sim [] [] = 0 := by rw [sim_eq, piece_nil]; rfl
theorem sim_self (a : List Nat) : sim a a = a.length := by
  rcases a with _ | ⟨x, a⟩
  · exact sim_nil
  · rw [sim_eq, piece, List.length_cons, scanAll_self (x :: a) (by simp), if_neg (by simp)]
    simp only [List.take_zero, Nat.zero_add, List.drop_length, sim_nil]
    rfl
theorem similarAt (a b : List Nat) : SimilarAt a b where
  self := sim_self a
  le := by
    obtain ⟨s, hs, H⟩ := sim_ali a.length a b (Nat.le_refl _)
    have := bst_le H
    rw [dist_bst]
    omega
end
section
noncomputable def notHW (c : Nat) : Bool := decide (c ≠ 72 ∧ c ≠ 87)
noncomputable def isUp (c : Nat) : Bool := decide (65 ≤ c ∧ c ≤ 90)
theorem codeOf_le {c : Nat} (h1 : 65 ≤ c) (h2 : c ≤ 90) : 0 ≤ codeOf c ∧ codeOf c ≤ 7 := by
  have H : ∀ k, k < 26 → 0 ≤ codeOf (k + 65) ∧ codeOf (k + 65) ≤ 7 := by decide +kernel
  have := H (c - 65) (by omega)
  rwa [show c - 65 + 65 = c from by omega] at this
noncomputable def keptTo (cds : List Int) : Nat → List Int
  | 0 => []
  | k + 1 => keptTo cds k ++ (if ¬ cds.getD (k + 1) 0 = 0 ∧ ¬ cds.getD (k + 1) 0 = cds.getD k 0 then [cds.getD (k + 1) 0] else [])
theorem keptTo_len (cds : List Int) (k : Nat) : (keptTo cds k).length ≤ k := by
  induction k with
  | zero => exact Nat.le_refl _
  | succ k ih =>
    rw [keptTo, List.length_append]
    split
    · simp only [List.length_cons, List.length_nil]; omega
    · simp only [List.length_nil]; omega
theorem keptTo_cons (p c : Int) (r : List Int) : ∀ k, keptTo (p :: c :: r) (k + 1) = (if ¬ c = 0 ∧ ¬ c = p then [c] else []) ++ keptTo (c :: r) k
  | 0 => by simp [keptTo]
  | k + 1 => by
    rw [keptTo, keptTo_cons p c r k, keptTo, List.append_assoc]
    rfl
noncomputable def dgN (c : Int) : Nat := 48 + c.toNat
noncomputable def lastN (p : Int) : Nat := if p = 7 then 45 else 48 + p.toNat
noncomputable def cdsOf (v : List Nat) : List Int := ((v.filter isUp).filter notHW).map codeOf
theorem code_notHW {c : Nat} (h1 : 65 ≤ c) (h2 : c ≤ 90) (h : notHW c = true) : codeOf c ≤ 6 ∧ sdxc c = 48 + (codeOf c).toNat := by
  have H : ∀ k, k < 26 → notHW (k + 65) = true → codeOf (k + 65) ≤ 6 ∧ sdxc (k + 65) = 48 + (codeOf (k + 65)).toNat := by decide +kernel
  have := H (c - 65) (by omega)
  rw [show c - 65 + 65 = c from by omega] at this
  exact this h
theorem code_HW {c : Nat} (h1 : 65 ≤ c) (h2 : c ≤ 90) (h : notHW c = false) : codeOf c = 7 ∧ sdxc c = 45 := by
  have H : ∀ k, k < 26 → notHW (k + 65) = false → codeOf (k + 65) = 7 ∧ sdxc (k + 65) = 45 := by decide +kernel
  have := H (c - 65) (by omega)
  rw [show c - 65 + 65 = c from by omega] at this
  exact this h
theorem last_code {c : Nat} (h1 : 65 ≤ c) (h2 : c ≤ 90) : lastN (codeOf c) = sdxc c := by
  rw [lastN]
  cases h : notHW c with
  | true => have := code_notHW h1 h2 h; rw [if_neg (by omega), this.2]
  | false => have := code_HW h1 h2 h; rw [if_pos this.1, this.2]
theorem kstep_skip {s : KSt} {n : Nat} (h : ¬ (65 ≤ n ∧ n ≤ 90)) : kstep s n = s := by
  rw [kstep, if_neg (fun q => h ⟨q.1, q.2.1⟩)]
theorem kstep_full {s : KSt} {n : Nat} (h : s.1.length = 4) : kstep s n = s := by
  rw [kstep, if_neg (fun q => by omega)]
theorem fold_full {s : KSt} (h : s.1.length = 4) : ∀ v : List Nat, v.foldl kstep s = s
  | [] => rfl
  | n :: v => by rw [List.foldl_cons, kstep_full h, fold_full h v]
theorem fold_main : ∀ (v : List Nat) (m : List Nat) (p : Int), m ≠ [] → m.length ≤ 4 → 0 ≤ p → p ≤ 7 →
    (v.foldl kstep (m, [lastN p])).1 = (m ++ (keptTo (p :: cdsOf v) (cdsOf v).length).map dgN).take 4
  | [], m, p, _, h4, _, _ => by
    show m = _
    rw [show cdsOf [] = [] from rfl]
    simp only [List.length_nil, keptTo, List.map_nil, List.append_nil]
    rw [List.take_of_length_le h4]
  | n :: v, m, p, hm, h4, hp0, hp7 => by
    by_cases hf : m.length = 4
    · rw [fold_full hf]
      show m = _
      rw [List.take_append_of_le_length (by omega), List.take_of_length_le h4]
    · rw [List.foldl_cons]
      by_cases hu : 65 ≤ n ∧ n ≤ 90
      · cases hw : notHW n with
        | false =>
          have hc := code_HW hu.1 hu.2 hw
          have e : kstep (m, [lastN p]) n = (m, [lastN p]) := by
            rw [kstep, if_pos ⟨hu.1, hu.2, by show m.length < 4; omega⟩, if_neg hm, hc.2, if_neg (by simp)]
          have e2 : cdsOf (n :: v) = cdsOf v := by
            rw [cdsOf, List.filter_cons_of_pos (by rw [isUp, decide_eq_true_eq]; exact hu), List.filter_cons_of_neg (by rw [hw]; exact Bool.false_ne_true)]; rfl
          rw [e, e2]
          exact fold_main v m p hm h4 hp0 hp7
        | true =>
          have hc := code_notHW hu.1 hu.2 hw
          have hl := codeOf_le hu.1 hu.2
          have e2 : cdsOf (n :: v) = codeOf n :: cdsOf v := by
            rw [cdsOf, List.filter_cons_of_pos (by rw [isUp, decide_eq_true_eq]; exact hu), List.filter_cons_of_pos hw]; rfl
          have h1 : ([sdxc n] = [48]) = (codeOf n = 0) := by
            rw [hc.2]; simp; omega
          have h2 : ([sdxc n] = [lastN p]) = (codeOf n = p) := by
            rw [hc.2, lastN]; simp only [List.cons.injEq, and_true, eq_iff_iff]; split <;> omega
          have e : kstep (m, [lastN p]) n = (if ¬ codeOf n = 0 ∧ ¬ codeOf n = p then m ++ [dgN (codeOf n)] else m, [lastN (codeOf n)]) := by
            rw [kstep, if_pos ⟨hu.1, hu.2, by show m.length < 4; omega⟩, if_neg hm, if_pos (by rw [hc.2]; simp; omega), last_code hu.1 hu.2]
            simp only [h1, h2]
            rw [hc.2]; rfl
          rw [e, e2, List.length_cons, keptTo_cons]
          split
          · rw [fold_main v (m ++ [dgN (codeOf n)]) (codeOf n) (by simp) (by rw [List.length_append]; simp only [List.length_cons, List.length_nil]; omega) hl.1 hl.2]
            rw [List.map_append, List.append_assoc]; rfl
          · rw [fold_main v m (codeOf n) hm h4 hl.1 hl.2]; rfl
      · rw [kstep_skip hu]
        have e2 : cdsOf (n :: v) = cdsOf v := by
          rw [cdsOf, List.filter_cons_of_neg (by rw [isUp, decide_eq_true_eq]; exact hu)]; rfl
        rw [e2]
        exact fold_main v m p hm h4 hp0 hp7
theorem fold_start : ∀ (u : List Nat) (c0 : Nat) (lr : List Nat), u.filter isUp = c0 :: lr →
    (u.foldl kstep ([], [])).1 = (c0 :: (keptTo (codeOf c0 :: (lr.filter notHW).map codeOf) ((lr.filter notHW).map codeOf).length).map dgN).take 4
  | [], _, _, h => by cases h
  | n :: u, c0, lr, h => by
    rw [List.foldl_cons]
    by_cases hu : 65 ≤ n ∧ n ≤ 90
    · rw [List.filter_cons_of_pos (by rw [isUp, decide_eq_true_eq]; exact hu)] at h
      obtain ⟨rfl, rfl⟩ := List.cons.inj h
      have hl := codeOf_le hu.1 hu.2
      have e : kstep ([], []) n = ([n], [lastN (codeOf n)]) := by
        rw [kstep, if_pos ⟨hu.1, hu.2, by simp⟩, if_pos rfl, last_code hu.1 hu.2]
      rw [e, fold_main u [n] (codeOf n) (by simp) (by simp) hl.1 hl.2]
      rfl
    · rw [List.filter_cons_of_neg (by rw [isUp, decide_eq_true_eq]; exact hu)] at h
      rw [kstep_skip hu]
      exact fold_start u c0 lr h
theorem fold_none : ∀ (u : List Nat), u.filter isUp = [] → (u.foldl kstep ([], [])).1 = []
  | [], _ => rfl
  | n :: u, h => by
    rw [List.foldl_cons]
    by_cases hu : 65 ≤ n ∧ n ≤ 90
    · rw [List.filter_cons_of_pos (by rw [isUp, decide_eq_true_eq]; exact hu)] at h
      cases h
    · rw [List.filter_cons_of_neg (by rw [isUp, decide_eq_true_eq]; exact hu)] at h
      rw [kstep_skip hu]
      exact fold_none u h
theorem key_none {u : List Nat} (h : u.filter isUp = []) : sdxKey u = [48, 48, 48, 48] := by
  rw [sdxKey]
  show (u.foldl kstep ([], [])).1 ++ List.replicate (4 - (u.foldl kstep ([], [])).1.length) 48 = _
  rw [fold_none u h]; rfl
theorem pad4 : ∀ (c : Nat) (l : List Nat), (c :: l).take 4 ++ List.replicate (4 - ((c :: l).take 4).length) 48 = (c :: l ++ [48, 48, 48]).take 4
  | _, [] => rfl
  | _, [_] => rfl
  | _, [_, _] => rfl
  | _, _ :: _ :: _ :: _ => rfl
theorem key_some {u : List Nat} {c0 : Nat} {lr : List Nat} (h : u.filter isUp = c0 :: lr) :
    sdxKey u = (c0 :: (keptTo (codeOf c0 :: (lr.filter notHW).map codeOf) ((lr.filter notHW).map codeOf).length).map dgN ++ [48, 48, 48]).take 4 := by
  rw [sdxKey]
  show (u.foldl kstep ([], [])).1 ++ List.replicate (4 - (u.foldl kstep ([], [])).1.length) 48 = _
  rw [fold_start u c0 lr h, pad4]
end
section
section
open PyProof.V PySem.SeqAt
theorem strs_readAll1 {h : Heap} : ∀ {vs : List Value} {ss : List Str}, StrsAre vs ss → ReadsAll h vs (ss.map PyData.str) []
  | _, _, .nil => .nil
  | _, _, .cons k t r => by
    have := ReadsAll.cons (Reads.str (h := h) k t) (strs_readAll1 (h := h) r)
    simpa using this
theorem reads_of_strs1 {h : Heap} {a : Addr} {vs : List Value} {ss : List Str} (hl : h.IsList a vs.toArray) (hi : StrsAre vs ss) : Reads h (.ref a) (.list (ss.map PyData.str)) [a] := by
  obtain ⟨o, ho, hc, n, hd⟩ := hl
  exact Reads.list ho hc hd (by simpa using strs_readAll1 hi)
theorem canLay_strs1 : ∀ ss : List Str, (∀ s ∈ ss, PyData.strOk s = true) → PyData.canLayAll0 (ss.map PyData.str) = true
  | [], _ => by simp [PyData.canLayAll0]
  | n :: r, h => by simp [PyData.canLayAll0, PyData.canLay0, h n List.mem_cons_self, canLay_strs1 r fun s hs => h s (List.mem_cons_of_mem _ hs)]
theorem depth_strs1 : ∀ ss : List Str, PyData.depthAll (ss.map PyData.str) ≤ 1
  | [] => by simp [PyData.depthAll]
  | n :: r => by
    have := depth_strs1 r
    simp only [List.map_cons, PyData.depthAll, PyData.depth]
    omega
theorem shaped_strs1 (ss : List Str) (h : ∀ s ∈ ss, PyData.strOk s = true) : shaped (.list (ss.map PyData.str)) = true := by
  have h1 := depth_strs1 ss
  have h2 : PyData.depth (.list (ss.map PyData.str)) ≤ 64 := by simp only [PyData.depth]; omega
  show (PyData.canLay0 (.list (ss.map PyData.str)) && decide (PyData.depth (.list (ss.map PyData.str)) ≤ 64)) = true
  rw [Bool.and_eq_true]
  exact ⟨by simp only [PyData.canLay0]; exact canLay_strs1 ss h, decide_eq_true h2⟩
theorem my_eqNil {prog : Program} {w : World} {A : Around} {E : Value → Shared → Prop} {s : Shared} {h₀ : Heap} {L l e : Addr} {n n' : Nat} {news : List (Addr × Obj)} {vs : List Value} {ss : List Str} {Q : Value → Shared → Prop} (N : News h₀ L s.heap news) (hm : (l, listOf vs.toArray n) ∈ news) (he : (e, listOf #[] n') ∈ news) (hi : StrsAre vs ss) (hok : ∀ s ∈ ss, PyData.strOk s = true) (hu : A.units + 64 < cLine)
    (h : Q (.bool (decide (ss = []))) s) : wpAny (model prog w) A (compareOp .Eq (.ref l) (.ref e)) Q E s :=
  eq_dataH_same (reads_of_strs1 (N.isList hm) hi) (reads_of_strs1 (vs := []) (ss := []) (N.isList he) .nil) (shaped_strs1 ss hok) (shaped_strs1 [] nofun) hu (by cases ss <;> simp [PySem.SeqAt.noMix, PySem.SeqAt.noMixAll])
    (by have e : PySem.Spec.same (.list (ss.map PyData.str)) (.list (([] : List Str).map PyData.str)) = decide (ss = []) := by cases ss <;> simp [PySem.Spec.same, PySem.Spec.sameAll]
        rw [e]; exact h)
end
noncomputable def strs1 (l : List Nat) : List Str := l.map fun c => ⟨#[c]⟩
theorem notHW_of {c : Nat} {b : Bool} (h : (Builtin.Str.occurrences (Str.ofString "HW") ⟨#[c]⟩ 0 (Str.ofString "HW").length 1).isEmpty = b) : notHW c = b := by
  have := code_in h
  rw [show (Str.ofString "HW").cps.toList = [72, 87] from by decide +kernel] at this
  have e : decide (c ∈ [72, 87]) = !notHW c := by
    rw [notHW, ← decide_not]
    congr 1
    simp
    omega
  rw [e] at this
  simpa using this
noncomputable def dgS (c : Int) : Str := ⟨#[dgN c]⟩
theorem kept_any (a b : Int) : ([0, b].any fun x => x == a) = !decide (¬ a = 0 ∧ ¬ a = b) := by
  simp only [List.any_cons, List.any_nil, Bool.or_false]
  by_cases h1 : a = 0
  · subst h1; simp
  · by_cases h2 : a = b
    · subst h2; simp
    · have e1 : (0 == a) = false := beq_eq_false_iff_ne.mpr (Ne.symm h1)
      have e2 : (b == a) = false := beq_eq_false_iff_ne.mpr (Ne.symm h2)
      rw [e1, e2]
      simp [h1, h2]
theorem digit_str {a : Int} (h : 0 ≤ a ∧ a ≤ 7) : Str.ofString (toString a) = dgS a := by
  have H : ∀ k : Nat, k < 8 → Str.ofString (toString (k : Int)) = dgS (k : Int) := by decide +kernel
  obtain ⟨k, rfl⟩ := Int.eq_ofNat_of_zero_le h.1
  exact H k (by omega)
theorem my_digit {prog : Program} {w : World} {A : Around} {E : Value → Shared → Prop} {s : Shared} {a : Int} {t : Tok} {Q : Value → Shared → Prop} (ha : 0 ≤ a ∧ a ≤ 7) (h : Q (.str (dgS a) s.toks) { s with toks := s.toks + 1 }) : wpAny (model prog w) A (call (.type "str") [.int a t]) Q E s := by
  refine P.str_of_int (shown (N := 2 ^ 1920) (by omega) (by omega) (Int.le_refl _)) ?_
  have e := digit_str ha
  rw [← e] at h
  exact h
theorem flat_dg (l : List Int) : (List.map (fun x => x.cps.toList) (List.map dgS l)).flatten = l.map dgN := by
  induction l with
  | nil => rfl
  | cons x l ih => rw [List.map_cons, List.map_cons, List.flatten_cons, ih]; rfl
theorem lenArr (x : Str) : x.cps.toList.length = x.length := len_cps x
theorem strs1_at : ∀ {vs : List Value} {u : List Nat}, StrsAre vs (strs1 u) → ∀ {i : Nat} {v : Value}, vs[i]? = some v → ∃ n t, v = .str ⟨#[n]⟩ t ∧ u[i]? = some n
  | _, [], .nil, _, _, h => by simp at h
  | _, n :: u, .cons _ t r, 0, v, h => ⟨n, t, by simpa using h.symm, rfl⟩
  | _, n :: u, .cons _ t r, i + 1, v, h => strs1_at (u := u) r (by simpa using h)
theorem strs1_len {vs : List Value} {u : List Nat} (h : StrsAre vs (strs1 u)) : vs.length = u.length := by
  rw [h.length, strs1, List.length_map]
theorem my_sliceS {prog : Program} {w : World} {A : Around} {E : Value → Shared → Prop} {h₀ : Heap} {L l : Addr} {m : Str → Option Value} {news : List (Addr × Obj)} {value slice : PySem.Expr} {vs : List Value} {ss : List Str} {Q : Value → Shared → Prop} {h₁ : Heap} {gg dd tt oo} {n : Nat} {t1 : Tok} {ops : List Value} (F : Fr h₀ L h₁ m) (N : News h₀ L h₁ news) (hm : (l, listOf vs.toArray n) ∈ news) (hI : StrsAre vs ss) (hz : vs.length ≤ sizeLine)
    (h : ∀ D ws h', Fr h₀ L h' m → News h₀ L h' ((D, listOf (List.toArray ws) 0) :: news) → (∀ p ∈ news, p.1 < D) → StrsAre ws (ss.drop 1) → Q (.ref D) { heap := h', gens := gg, drawn := dd, toks := tt, os := oo })
    (hs : subscripted slice false (.ref l) (.ref h₁.objs.size) = operate ops (getItem (.ref l) (.ref h₁.objs.size))) (ht : ∀ r, letTemporaryGo value (.ref l) r = pure ()) :
    wpAny (model prog w) A (subscriptTail value slice (.ref l) (.ref h₁.objs.size)) Q E { heap := h₁.push { cls := .type "slice", data := .fields #[.int 1 t1, .none, .none] }, gens := gg, drawn := dd, toks := tt, os := oo } := by
  have e : (slicePick vs.toArray (some 1) none none).toList = vs.drop 1 := by
    rw [kms_pick_eq]
    cases vs <;> simp [kms_pick, kms_lo, kms_hi]
  refine kmk_slice3_lit (s := { heap := h₁, gens := gg, drawn := dd, toks := tt, os := oo }) F N (News.isList N hm) (.int 1 t1) .none .none (by decide) e (fun D h' F' N' l1 => h D _ h' F' N' l1 ?_) hs ht (by simpa using hz)
  cases hI with
  | nil => exact .nil
  | cons _ _ r => exact r
local macro_rules | `(tactic| walk_at "subscriptTail Name Slice ref ref") => `(tactic| (k_dflt (refine' my_sliceS ?F ?N ?l ?i ?z ?_ ?s ?t; (case F => k_asm); (case N => k_asm); (case l => k_mem); (case i => assumption); (case z => (rw [PySem.sizeLine_eq]; omega)); (case s => with_unfolding_all rfl); (case t => kmk_pure)); intro D' ws h' F' N' l1 i1; (try k_lt l1); (try k_sweep)))
theorem con_law_sound (w : World) (x : Str) (tx : Tok) (hx : x.length < 50) : ConS w 355 3 120 [.str x tx] ⟨(sdxKey (x.cps.toList.map upc)).toArray⟩ := by
  ((have hfill : ∀ P : Params, PySem.Challenge.rw_pc0254_01.row.prog = PySem.Challenge.rw_pc0254_01.row.prog ∧ hd.heap_39 P = hd.heap_39 P := fun _ => ⟨rfl, rfl⟩); revert hfill; k_fill; intro hfill; clear hfill)
  k_dflt (refine' con_enterC [(Str.ofString "text", .str x tx)] [(Str.ofString "text", .str x tx)] (fun L => [(Str.ofString "codes", L + 1)]) ?k6 ?k7 ?k9 ?kB ?k8 ?nd ?lo ?cs ?_ ?c2 ?c3 ?c4; (case k6 => k_is); (case k7 => k_is); (case k8 => decide); (case k9 => exact fun _ => BindsTo.of_eq rfl); (case kB => exact rfl); (case nd => decide +kernel); (case lo => exact fun _ => rfl); (case cs => exact fun _ => rfl); (case c2 => exact rfl); (case c3 => exact rfl); (case c4 => exact rfl))
  intro mean mg mb dp fr gd un s Q g L h₁ tk cells F N Y hold X T hdp hun hret
  obtain ⟨o1, rfl, h1⟩ := CellsAre.one Y
  replace h1 : o1.data = .cell none := h1
  clear Y
  dsimp only [kstB] at F
  simp only [List.append_nil] at N
  (try k_fold)
  (repeat' ((fail_if_success (with_reducible show wpAny _ _ (exec (Stmt.For _ _ _ _ _) _) _ _ _)); (fail_if_success (with_reducible show wpAny _ _ (exec (Stmt.While _ _ _ _) _) _ _ _)); (fail_if_success (with_reducible show wpAny _ _ (pyIter _) _ _ _)); (fail_if_success (with_reducible show wpAny _ _ (exec (Stmt.Assign _ (Expr.ListComp _ _ _ _) _) _) _ _ _)); (fail_if_success (with_reducible show wpAny _ _ (eval (Expr.ListComp _ _ _ _) _) _ _ _)); first | (((with_reducible show wpAny _ _ (call (Value.builtin "chr") _) _ _ _); (k_dflt (refine' my_chr ?za ?zb ?_; (case za => (simp only [lt_a, z_lt] at *; omega)); (case zb => (simp only [lt_a, z_lt] at *; omega))); intro _ _)); (try dsimp only)) | ((with_reducible show wpAny _ _ (call (Value.ref _) _) _ _ _); k_dflt (refine' con_useI ?zC ?zF ?zN ?zX ?zT ?zhA ?zhd ?zhu ?_); (case zC => exact con_law_code _ _ _ (by with_reducible assumption) (by with_reducible assumption)); (case zF => k_asm); (case zN => k_asm); (case zX => k_asm); (case zT => k_asm); (case zhA => rfl); (case zhd => first | exact room_b (by with_reducible assumption) rfl | exact room_a (by with_reducible assumption) rfl | omega | (simp only [Around.deeper, Around.in1]; omega)); (case zhu => first | exact room_b (by with_reducible assumption) rfl | exact room_a (by with_reducible assumption) rfl | omega | (simp only [Around.deeper, Around.in1]; omega)); intro _ _ _ _ _; (try k_sweep); (try dsimp only)) | (k_unfold; (try dsimp only)) | (walk1; (try dsimp only)) | (dsimp only; walk1) | fail "no step"))
  refine m_AssignListComp (by with_unfolding_all rfl) (by with_unfolding_all rfl) rfl (by decide) ?_
  (repeat' ((fail_if_success (with_reducible show wpAny _ _ (exec (Stmt.For _ _ _ _ _) _) _ _ _)); (fail_if_success (with_reducible show wpAny _ _ (exec (Stmt.While _ _ _ _) _) _ _ _)); (fail_if_success (with_reducible show wpAny _ _ (pyIter _) _ _ _)); (fail_if_success (with_reducible show wpAny _ _ (exec (Stmt.Assign _ (Expr.ListComp _ _ _ _) _) _) _ _ _)); (fail_if_success (with_reducible show wpAny _ _ (eval (Expr.ListComp _ _ _ _) _) _ _ _)); first | (((with_reducible show wpAny _ _ (call (Value.builtin "chr") _) _ _ _); (k_dflt (refine' my_chr ?za ?zb ?_; (case za => (simp only [lt_a, z_lt] at *; omega)); (case zb => (simp only [lt_a, z_lt] at *; omega))); intro _ _)); (try dsimp only)) | ((with_reducible show wpAny _ _ (call (Value.ref _) _) _ _ _); k_dflt (refine' con_useI ?zC ?zF ?zN ?zX ?zT ?zhA ?zhd ?zhu ?_); (case zC => exact con_law_code _ _ _ (by with_reducible assumption) (by with_reducible assumption)); (case zF => k_asm); (case zN => k_asm); (case zX => k_asm); (case zT => k_asm); (case zhA => rfl); (case zhd => first | exact room_b (by with_reducible assumption) rfl | exact room_a (by with_reducible assumption) rfl | omega | (simp only [Around.deeper, Around.in1]; omega)); (case zhu => first | exact room_b (by with_reducible assumption) rfl | exact room_a (by with_reducible assumption) rfl | omega | (simp only [Around.deeper, Around.in1]; omega)); intro _ _ _ _ _; (try k_sweep); (try dsimp only)) | (k_unfold; (try dsimp only)) | (walk1; (try dsimp only)) | (dsimp only; walk1) | fail "no step"))
  rename Fr _ _ _ _ => F1
  rename News _ _ _ _ => N1
  refine m_comp_str (σ := Unit) (fun _ => []) [(L + 1, o1)] [(L + 1, o1)] [] (fun i acc _ => StrsAre acc.toList (strs1 ((x.cps.toList.take i).map upc))) rfl (by rw [PySem.sizeLine_eq]; have := len_cps x; simp at this; omega) F1 N1 X T (by decide) rfl rfl sub_rfl ⟨(), sub_nil, .nil⟩ (fun _ _ _ _ => rfl) (fun p hp => ⟨hp, List.not_mem_nil⟩) ?acc ?turn ?done
  case acc =>
    intro i acc _ h
    have := h.length
    simp only [strs1, List.length_map, List.length_take, Array.length_toList] at this
    omega
  case turn =>
    intro g' C i n t _ acc u h tk own hn hJ hs X' T' F' N'
    clear F1 N1
    simp only [List.nil_append, List.cons_append] at N'
    (try k_fold)
    (repeat' ((fail_if_success (with_reducible show wpAny _ _ (exec (Stmt.For _ _ _ _ _) _) _ _ _)); (fail_if_success (with_reducible show wpAny _ _ (exec (Stmt.While _ _ _ _) _) _ _ _)); (fail_if_success (with_reducible show wpAny _ _ (pyIter _) _ _ _)); (fail_if_success (with_reducible show wpAny _ _ (exec (Stmt.Assign _ (Expr.ListComp _ _ _ _) _) _) _ _ _)); (fail_if_success (with_reducible show wpAny _ _ (eval (Expr.ListComp _ _ _ _) _) _ _ _)); first | (((with_reducible show wpAny _ _ (call (Value.builtin "chr") _) _ _ _); (k_dflt (refine' my_chr ?za ?zb ?_; (case za => (simp only [lt_a, z_lt] at *; omega)); (case zb => (simp only [lt_a, z_lt] at *; omega))); intro _ _)); (try dsimp only)) | ((with_reducible show wpAny _ _ (call (Value.ref _) _) _ _ _); k_dflt (refine' con_useI ?zC ?zF ?zN ?zX ?zT ?zhA ?zhd ?zhu ?_); (case zC => exact con_law_code _ _ _ (by with_reducible assumption) (by with_reducible assumption)); (case zF => k_asm); (case zN => k_asm); (case zX => k_asm); (case zT => k_asm); (case zhA => rfl); (case zhd => first | exact room_b (by with_reducible assumption) rfl | exact room_a (by with_reducible assumption) rfl | omega | (simp only [Around.deeper, Around.in1]; omega)); (case zhu => first | exact room_b (by with_reducible assumption) rfl | exact room_a (by with_reducible assumption) rfl | omega | (simp only [Around.deeper, Around.in1]; omega)); intro _ _ _ _ _; (try k_sweep); (try dsimp only)) | (k_unfold; (try dsimp only)) | (walk1; (try dsimp only)) | (dsimp only; walk1) | fail "no step"))
    all_goals rename Fr _ _ _ _ => F2
    all_goals rename News _ _ _ _ => N2
    all_goals simp only [lt_a, z_lt] at *
    all_goals
      refine CompEnd.intro () F2 N2 sub_nil sub_rfl ?_
      have hn' : x.cps.toList[i]? = some n := by simpa using hn
      rw [List.take_add_one, hn', Array.toList_push]
      simp only [strs1, Option.toList_some, List.map_append, List.map_cons, List.map_nil]
      refine hJ.append' ?_
    · rw [upc, if_neg (by omega)]; exact .cons _ _ .nil
    · rw [upc, if_neg (by omega)]; exact .cons _ _ .nil
    · rw [upc, if_pos (by omega), show ((n : Int) - 32).toNat = n - 32 from by omega]; exact .cons _ _ .nil
  case done =>
    rintro D C _ acc nn h' tk' hCL hled h0 hn ⟨F', N', hJ, hlt⟩
    refine compPost_some rfl hCL hled h0 hn rfl rfl F' N' ?_
    clear F' N' F1 N1 hled hn h0
    intro h' tk' F' N'
    simp only [List.nil_append] at N'
    (repeat' ((fail_if_success (with_reducible show wpAny _ _ (exec (Stmt.For _ _ _ _ _) _) _ _ _)); (fail_if_success (with_reducible show wpAny _ _ (exec (Stmt.While _ _ _ _) _) _ _ _)); (fail_if_success (with_reducible show wpAny _ _ (pyIter _) _ _ _)); (fail_if_success (with_reducible show wpAny _ _ (exec (Stmt.Assign _ (Expr.ListComp _ _ _ _) _) _) _ _ _)); (fail_if_success (with_reducible show wpAny _ _ (eval (Expr.ListComp _ _ _ _) _) _ _ _)); first | (((with_reducible show wpAny _ _ (call (Value.builtin "chr") _) _ _ _); (k_dflt (refine' my_chr ?za ?zb ?_; (case za => (simp only [lt_a, z_lt] at *; omega)); (case zb => (simp only [lt_a, z_lt] at *; omega))); intro _ _)); (try dsimp only)) | ((with_reducible show wpAny _ _ (call (Value.ref _) _) _ _ _); k_dflt (refine' con_useI ?zC ?zF ?zN ?zX ?zT ?zhA ?zhd ?zhu ?_); (case zC => exact con_law_code _ _ _ (by with_reducible assumption) (by with_reducible assumption)); (case zF => k_asm); (case zN => k_asm); (case zX => k_asm); (case zT => k_asm); (case zhA => rfl); (case zhd => first | exact room_b (by with_reducible assumption) rfl | exact room_a (by with_reducible assumption) rfl | omega | (simp only [Around.deeper, Around.in1]; omega)); (case zhu => first | exact room_b (by with_reducible assumption) rfl | exact room_a (by with_reducible assumption) rfl | omega | (simp only [Around.deeper, Around.in1]; omega)); intro _ _ _ _ _; (try k_sweep); (try dsimp only)) | (k_unfold; (try dsimp only)) | (walk1; (try dsimp only)) | (dsimp only; walk1) | fail "no step"))
    refine m_AssignListComp (by with_unfolding_all rfl) (by with_unfolding_all rfl) rfl (by decide) ?_
    (repeat' ((fail_if_success (with_reducible show wpAny _ _ (exec (Stmt.For _ _ _ _ _) _) _ _ _)); (fail_if_success (with_reducible show wpAny _ _ (exec (Stmt.While _ _ _ _) _) _ _ _)); (fail_if_success (with_reducible show wpAny _ _ (pyIter _) _ _ _)); (fail_if_success (with_reducible show wpAny _ _ (exec (Stmt.Assign _ (Expr.ListComp _ _ _ _) _) _) _ _ _)); (fail_if_success (with_reducible show wpAny _ _ (eval (Expr.ListComp _ _ _ _) _) _ _ _)); first | (((with_reducible show wpAny _ _ (call (Value.builtin "chr") _) _ _ _); (k_dflt (refine' my_chr ?za ?zb ?_; (case za => (simp only [lt_a, z_lt] at *; omega)); (case zb => (simp only [lt_a, z_lt] at *; omega))); intro _ _)); (try dsimp only)) | ((with_reducible show wpAny _ _ (call (Value.ref _) _) _ _ _); k_dflt (refine' con_useI ?zC ?zF ?zN ?zX ?zT ?zhA ?zhd ?zhu ?_); (case zC => exact con_law_code _ _ _ (by with_reducible assumption) (by with_reducible assumption)); (case zF => k_asm); (case zN => k_asm); (case zX => k_asm); (case zT => k_asm); (case zhA => rfl); (case zhd => first | exact room_b (by with_reducible assumption) rfl | exact room_a (by with_reducible assumption) rfl | omega | (simp only [Around.deeper, Around.in1]; omega)); (case zhu => first | exact room_b (by with_reducible assumption) rfl | exact room_a (by with_reducible assumption) rfl | omega | (simp only [Around.deeper, Around.in1]; omega)); intro _ _ _ _ _; (try k_sweep); (try dsimp only)) | (k_unfold; (try dsimp only)) | (walk1; (try dsimp only)) | (dsimp only; walk1) | fail "no step"))
    rw [show x.cps.size = x.cps.toList.length from (Array.length_toList ..).symm, List.take_length] at hJ
    obtain ⟨u, hu⟩ : ∃ u, u = x.cps.toList.map upc := ⟨_, rfl⟩
    rw [← hu] at hJ
    have hul : u.length < 50 := by rw [hu, List.length_map, len_cps]; exact hx
    have hLD : L + 1 ≠ D := Nat.ne_of_lt (hlt _ List.mem_cons_self)
    clear hlt
    rename Fr _ _ _ _ => F1
    rename News _ _ _ _ => N1
    have hlen := hJ.length
    rw [strs1, List.length_map] at hlen
    refine m_comp_list (σ := Unit) (fun _ => []) [(L + 1, o1)] [(L + 1, o1)] [] (fun i acc _ => StrsAre acc.toList (strs1 ((u.take i).filter isUp))) rfl (by rw [PySem.sizeLine_eq]; simp at hlen; omega) List.mem_cons_self ?hlv List.not_mem_nil F1 N1 X T (by decide) rfl rfl (sub_tl sub_rfl) ⟨(), sub_nil, .nil⟩ (fun _ _ _ _ => rfl) (fun p hp => ⟨List.mem_cons_of_mem _ hp, List.not_mem_nil⟩) ?acc ?turn ?done
    case hlv =>
      intro p hp
      rw [List.mem_singleton.mp hp]
      exact hLD
    case acc =>
      intro i acc _ h
      have h1 := strs1_len h
      have h2 := List.length_filter_le isUp (u.take i)
      rw [List.length_take] at h2
      simp only [Array.length_toList] at h1
      omega
    case turn =>
      intro g' C i v _ acc2 uu h tk own hv hJ2 hs X' T' F' N'
      obtain ⟨n, t, rfl, hn⟩ := strs1_at hJ (by simpa using hv)
      clear F1 N1
      simp only [List.nil_append, List.cons_append] at N'
      (try k_fold)
      (repeat' ((fail_if_success (with_reducible show wpAny _ _ (exec (Stmt.For _ _ _ _ _) _) _ _ _)); (fail_if_success (with_reducible show wpAny _ _ (exec (Stmt.While _ _ _ _) _) _ _ _)); (fail_if_success (with_reducible show wpAny _ _ (pyIter _) _ _ _)); (fail_if_success (with_reducible show wpAny _ _ (exec (Stmt.Assign _ (Expr.ListComp _ _ _ _) _) _) _ _ _)); (fail_if_success (with_reducible show wpAny _ _ (eval (Expr.ListComp _ _ _ _) _) _ _ _)); first | (((with_reducible show wpAny _ _ (call (Value.builtin "chr") _) _ _ _); (k_dflt (refine' my_chr ?za ?zb ?_; (case za => (simp only [lt_a, z_lt] at *; omega)); (case zb => (simp only [lt_a, z_lt] at *; omega))); intro _ _)); (try dsimp only)) | ((with_reducible show wpAny _ _ (call (Value.ref _) _) _ _ _); k_dflt (refine' con_useI ?zC ?zF ?zN ?zX ?zT ?zhA ?zhd ?zhu ?_); (case zC => exact con_law_code _ _ _ (by with_reducible assumption) (by with_reducible assumption)); (case zF => k_asm); (case zN => k_asm); (case zX => k_asm); (case zT => k_asm); (case zhA => rfl); (case zhd => first | exact room_b (by with_reducible assumption) rfl | exact room_a (by with_reducible assumption) rfl | omega | (simp only [Around.deeper, Around.in1]; omega)); (case zhu => first | exact room_b (by with_reducible assumption) rfl | exact room_a (by with_reducible assumption) rfl | omega | (simp only [Around.deeper, Around.in1]; omega)); intro _ _ _ _ _; (try k_sweep); (try dsimp only)) | (k_unfold; (try dsimp only)) | (walk1; (try dsimp only)) | (dsimp only; walk1) | fail "no step"))
      all_goals rename Fr _ _ _ _ => F2
      all_goals rename News _ _ _ _ => N2
      all_goals simp only [lt_A, Z_lt] at *
      all_goals
        refine CompEnd.intro () F2 N2 sub_nil sub_rfl ?_
        rw [List.take_add_one, hn, List.filter_append]
        simp only [Option.toList_some]
      · rw [show List.filter isUp [n] = [] from by rw [List.filter_cons_of_neg (by rw [isUp, decide_eq_true_eq]; omega), List.filter_nil], List.append_nil]
        exact hJ2
      · rw [show List.filter isUp [n] = [] from by rw [List.filter_cons_of_neg (by rw [isUp, decide_eq_true_eq]; omega), List.filter_nil], List.append_nil]
        exact hJ2
      · rw [show List.filter isUp [n] = [n] from by rw [List.filter_cons_of_pos (by rw [isUp, decide_eq_true_eq]; omega), List.filter_nil], Array.toList_push, strs1, List.map_append]
        exact hJ2.append' (.cons _ _ .nil)
    case done =>
      rintro D2 C2 _ acc2 nn2 h' tk' hCL hled h0 hn ⟨F', N', hJ2, hlt⟩
      refine compPost_some rfl hCL hled h0 hn rfl rfl F' N' ?_
      clear F' N' F1 N1 hled hn h0
      rw [show acc.size = u.length from by rw [← hlen, Array.length_toList], List.take_length] at hJ2
      intro h' tk' F' N'
      simp only [List.nil_append] at N'
      (repeat' ((fail_if_success (with_reducible show wpAny _ _ (exec (Stmt.For _ _ _ _ _) _) _ _ _)); (fail_if_success (with_reducible show wpAny _ _ (exec (Stmt.While _ _ _ _) _) _ _ _)); (fail_if_success (with_reducible show wpAny _ _ (pyIter _) _ _ _)); (fail_if_success (with_reducible show wpAny _ _ (exec (Stmt.Assign _ (Expr.ListComp _ _ _ _) _) _) _ _ _)); (fail_if_success (with_reducible show wpAny _ _ (eval (Expr.ListComp _ _ _ _) _) _ _ _)); first | (((with_reducible show wpAny _ _ (call (Value.builtin "chr") _) _ _ _); (k_dflt (refine' my_chr ?za ?zb ?_; (case za => (simp only [lt_a, z_lt] at *; omega)); (case zb => (simp only [lt_a, z_lt] at *; omega))); intro _ _)); (try dsimp only)) | ((with_reducible show wpAny _ _ (call (Value.ref _) _) _ _ _); k_dflt (refine' con_useI ?zC ?zF ?zN ?zX ?zT ?zhA ?zhd ?zhu ?_); (case zC => exact con_law_code _ _ _ (by with_reducible assumption) (by with_reducible assumption)); (case zF => k_asm); (case zN => k_asm); (case zX => k_asm); (case zT => k_asm); (case zhA => rfl); (case zhd => first | exact room_b (by with_reducible assumption) rfl | exact room_a (by with_reducible assumption) rfl | omega | (simp only [Around.deeper, Around.in1]; omega)); (case zhu => first | exact room_b (by with_reducible assumption) rfl | exact room_a (by with_reducible assumption) rfl | omega | (simp only [Around.deeper, Around.in1]; omega)); intro _ _ _ _ _; (try k_sweep); (try dsimp only)) | (k_unfold; (try dsimp only)) | (walk1; (try dsimp only)) | (dsimp only; walk1) | fail "no step"))
      refine my_eqNil (vs := acc2.toList) (by k_asm) (by k_mem) (by k_mem) hJ2 ?ok (by (first | exact room_b (by with_reducible assumption) rfl | exact room_a (by with_reducible assumption) rfl | omega | (simp only [Around.deeper, Around.in1]; omega))) ?_
      case ok =>
        intro y hy
        obtain ⟨c, hc, rfl⟩ := List.mem_map.mp hy
        have hc2 := (List.mem_filter.mp hc).2
        rw [isUp, decide_eq_true_eq] at hc2
        show (#[c] : Array Nat).all (· < 0x110000) = true
        simp
        omega
      clear hJ
      obtain ⟨ls, hls⟩ : ∃ ls, ls = u.filter isUp := ⟨_, rfl⟩
      have hlu : ls.length ≤ u.length := by rw [hls]; exact List.length_filter_le _ _
      rw [← hls] at hJ2 ⊢
      have hup : ∀ c ∈ ls, 65 ≤ c ∧ c ≤ 90 := by
        intro c hc
        rw [hls] at hc
        have := (List.mem_filter.mp hc).2
        rwa [isUp, decide_eq_true_eq] at this
      rcases ls with _ | ⟨c0, lr⟩
      · (repeat' ((fail_if_success (with_reducible show wpAny _ _ (exec (Stmt.For _ _ _ _ _) _) _ _ _)); (fail_if_success (with_reducible show wpAny _ _ (exec (Stmt.While _ _ _ _) _) _ _ _)); (fail_if_success (with_reducible show wpAny _ _ (pyIter _) _ _ _)); (fail_if_success (with_reducible show wpAny _ _ (exec (Stmt.Assign _ (Expr.ListComp _ _ _ _) _) _) _ _ _)); (fail_if_success (with_reducible show wpAny _ _ (eval (Expr.ListComp _ _ _ _) _) _ _ _)); first | (((with_reducible show wpAny _ _ (call (Value.builtin "chr") _) _ _ _); (k_dflt (refine' my_chr ?za ?zb ?_; (case za => (simp only [lt_a, z_lt] at *; omega)); (case zb => (simp only [lt_a, z_lt] at *; omega))); intro _ _)); (try dsimp only)) | ((with_reducible show wpAny _ _ (call (Value.ref _) _) _ _ _); k_dflt (refine' con_useI ?zC ?zF ?zN ?zX ?zT ?zhA ?zhd ?zhu ?_); (case zC => exact con_law_code _ _ _ (by with_reducible assumption) (by with_reducible assumption)); (case zF => k_asm); (case zN => k_asm); (case zX => k_asm); (case zT => k_asm); (case zhA => rfl); (case zhd => first | exact room_b (by with_reducible assumption) rfl | exact room_a (by with_reducible assumption) rfl | omega | (simp only [Around.deeper, Around.in1]; omega)); (case zhu => first | exact room_b (by with_reducible assumption) rfl | exact room_a (by with_reducible assumption) rfl | omega | (simp only [Around.deeper, Around.in1]; omega)); intro _ _ _ _ _; (try k_sweep); (try dsimp only)) | (k_unfold; (try dsimp only)) | (walk1; (try dsimp only)) | (dsimp only; walk1) | fail "no step"))
        refine hret _ [] _ _ _ _ (by assumption) (by assumption) sub_nil ⟨_, congrArg (Value.str · _) ?_, rfl⟩
        rw [← hu, key_none hls.symm]
        decide +kernel
      have hl0 : (0 : Int) < (strs1 (c0 :: lr)).length := by simp [strs1]
      have hc0 := (hup c0 List.mem_cons_self).1
      have hc9 := (hup c0 List.mem_cons_self).2
      have hal : acc2.toList.length ≤ 50 := by rw [strs1_len hJ2]; omega
      (repeat' ((fail_if_success (with_reducible show wpAny _ _ (exec (Stmt.For _ _ _ _ _) _) _ _ _)); (fail_if_success (with_reducible show wpAny _ _ (exec (Stmt.While _ _ _ _) _) _ _ _)); (fail_if_success (with_reducible show wpAny _ _ (pyIter _) _ _ _)); (fail_if_success (with_reducible show wpAny _ _ (exec (Stmt.Assign _ (Expr.ListComp _ _ _ _) _) _) _ _ _)); (fail_if_success (with_reducible show wpAny _ _ (eval (Expr.ListComp _ _ _ _) _) _ _ _)); first | (((with_reducible show wpAny _ _ (call (Value.builtin "chr") _) _ _ _); (k_dflt (refine' my_chr ?za ?zb ?_; (case za => (simp only [lt_a, z_lt] at *; omega)); (case zb => (simp only [lt_a, z_lt] at *; omega))); intro _ _)); (try dsimp only)) | ((with_reducible show wpAny _ _ (call (Value.ref _) _) _ _ _); k_dflt (refine' con_useI ?zC ?zF ?zN ?zX ?zT ?zhA ?zhd ?zhu ?_); (case zC => exact con_law_code _ _ _ (by with_reducible assumption) (by with_reducible assumption)); (case zF => k_asm); (case zN => k_asm); (case zX => k_asm); (case zT => k_asm); (case zhA => rfl); (case zhd => first | exact room_b (by with_reducible assumption) rfl | exact room_a (by with_reducible assumption) rfl | omega | (simp only [Around.deeper, Around.in1]; omega)); (case zhu => first | exact room_b (by with_reducible assumption) rfl | exact room_a (by with_reducible assumption) rfl | omega | (simp only [Around.deeper, Around.in1]; omega)); intro _ _ _ _ _; (try k_sweep); (try dsimp only)) | (k_unfold; (try dsimp only)) | (walk1; (try dsimp only)) | (dsimp only; walk1) | fail "no step"))
      · rename strs1 _ = [] => e
        cases e
      refine m_ListComp (by with_unfolding_all rfl) rfl (by decide) ?_
      (repeat' ((fail_if_success (with_reducible show wpAny _ _ (exec (Stmt.For _ _ _ _ _) _) _ _ _)); (fail_if_success (with_reducible show wpAny _ _ (exec (Stmt.While _ _ _ _) _) _ _ _)); (fail_if_success (with_reducible show wpAny _ _ (pyIter _) _ _ _)); (fail_if_success (with_reducible show wpAny _ _ (exec (Stmt.Assign _ (Expr.ListComp _ _ _ _) _) _) _ _ _)); (fail_if_success (with_reducible show wpAny _ _ (eval (Expr.ListComp _ _ _ _) _) _ _ _)); first | (((with_reducible show wpAny _ _ (call (Value.builtin "chr") _) _ _ _); (k_dflt (refine' my_chr ?za ?zb ?_; (case za => (simp only [lt_a, z_lt] at *; omega)); (case zb => (simp only [lt_a, z_lt] at *; omega))); intro _ _)); (try dsimp only)) | ((with_reducible show wpAny _ _ (call (Value.ref _) _) _ _ _); k_dflt (refine' con_useI ?zC ?zF ?zN ?zX ?zT ?zhA ?zhd ?zhu ?_); (case zC => exact con_law_code _ _ _ (by with_reducible assumption) (by with_reducible assumption)); (case zF => k_asm); (case zN => k_asm); (case zX => k_asm); (case zT => k_asm); (case zhA => rfl); (case zhd => first | exact room_b (by with_reducible assumption) rfl | exact room_a (by with_reducible assumption) rfl | omega | (simp only [Around.deeper, Around.in1]; omega)); (case zhu => first | exact room_b (by with_reducible assumption) rfl | exact room_a (by with_reducible assumption) rfl | omega | (simp only [Around.deeper, Around.in1]; omega)); intro _ _ _ _ _; (try k_sweep); (try dsimp only)) | (k_unfold; (try dsimp only)) | (walk1; (try dsimp only)) | (dsimp only; walk1) | fail "no step"))
      rename Fr _ _ _ _ => F1
      rename News _ _ _ _ => N1
      rename Heap => hh
      replace F1 : Fr g L hh (fun z => if z = Str.ofString "letters" then some (.ref D2) else if z = Str.ofString "letters" then some (.ref D) else if z = Str.ofString "text" then some (.str x tx) else none) := F1
      rename_i le _ _ _ _ _ t1 t0 _ _ lc _ _ _ D3 ws hws l1
      replace hws : StrsAre ws (strs1 lr) := hws
      have N2 : News g L hh [(D3, listOf (List.toArray ws) 0), (lc, listOf (List.toArray [.int (codeOf c0) t0]) 0), (le, listOf #[] 0), (D2, listOf acc2 nn2), (L + 1, o1)] := N1
      have i0 : IntsAre [.int (codeOf c0) t0] [codeOf c0] := .cons _ _ .nil
      have hwl := strs1_len hws
      refine m_comp_list (items := List.toArray ws) (σ := Unit) (fun _ => []) [] [(lc, listOf (List.toArray [.int (codeOf c0) t0]) 0), (D2, listOf acc2 nn2), (L + 1, o1)] [] (fun i acc _ => IntsAre acc.toList (((lr.take i).filter notHW).map codeOf)) rfl (by rw [PySem.sizeLine_eq, List.size_toArray, hwl]; simp at hlu; omega) List.mem_cons_self ?hlv List.not_mem_nil F1 N2 X T (by decide) rfl rfl sub_nil ⟨(), sub_nil, .nil⟩ (fun _ _ _ _ => rfl) ?rest ?acc ?turn ?done
      case hlv => intro p hp; cases hp
      case rest => exact fun p hp => ⟨by simp at hp ⊢; rcases hp with h | h | h <;> simp [h], List.not_mem_nil⟩
      case acc =>
        intro i acc _ h
        have h1 := h.length
        have h2 := List.length_filter_le notHW (lr.take i)
        rw [List.length_take] at h2
        simp only [Array.length_toList, List.length_map] at h1
        omega
      case turn =>
        intro g' C i v _ acc3 uu h tk own hv hJ3 hs X' T' F' N'
        obtain ⟨n, t, rfl, hn⟩ := strs1_at hws (by simpa using hv)
        have hn1 := hup n (List.mem_cons_of_mem _ (List.mem_of_getElem? hn))
        have hn2 := hn1.1
        have hn3 := hn1.2
        clear F1 N1 N2
        simp only [List.nil_append, List.cons_append] at N'
        (try k_fold)
        (repeat' ((fail_if_success (with_reducible show wpAny _ _ (exec (Stmt.For _ _ _ _ _) _) _ _ _)); (fail_if_success (with_reducible show wpAny _ _ (exec (Stmt.While _ _ _ _) _) _ _ _)); (fail_if_success (with_reducible show wpAny _ _ (pyIter _) _ _ _)); (fail_if_success (with_reducible show wpAny _ _ (exec (Stmt.Assign _ (Expr.ListComp _ _ _ _) _) _) _ _ _)); (fail_if_success (with_reducible show wpAny _ _ (eval (Expr.ListComp _ _ _ _) _) _ _ _)); first | (((with_reducible show wpAny _ _ (call (Value.builtin "chr") _) _ _ _); (k_dflt (refine' my_chr ?za ?zb ?_; (case za => (simp only [lt_a, z_lt] at *; omega)); (case zb => (simp only [lt_a, z_lt] at *; omega))); intro _ _)); (try dsimp only)) | ((with_reducible show wpAny _ _ (call (Value.ref _) _) _ _ _); k_dflt (refine' con_useI ?zC ?zF ?zN ?zX ?zT ?zhA ?zhd ?zhu ?_); (case zC => exact con_law_code _ _ _ (by with_reducible assumption) (by with_reducible assumption)); (case zF => k_asm); (case zN => k_asm); (case zX => k_asm); (case zT => k_asm); (case zhA => rfl); (case zhd => first | exact room_b (by with_reducible assumption) rfl | exact room_a (by with_reducible assumption) rfl | omega | (simp only [Around.deeper, Around.in1]; omega)); (case zhu => first | exact room_b (by with_reducible assumption) rfl | exact room_a (by with_reducible assumption) rfl | omega | (simp only [Around.deeper, Around.in1]; omega)); intro _ _ _ _ _; (try k_sweep); (try dsimp only)) | (k_unfold; (try dsimp only)) | (walk1; (try dsimp only)) | (dsimp only; walk1) | fail "no step"))
        all_goals rename (Builtin.Str.occurrences _ _ _ _ _).isEmpty = _ => eHW
        all_goals rename Fr _ _ _ _ => F2
        all_goals rename News _ _ _ _ => N2
        all_goals replace eHW := notHW_of eHW
        all_goals
          refine CompEnd.intro () F2 N2 sub_nil (fun p hp => by simpa using hp) ?_
          rw [List.take_add_one, hn, List.filter_append]
          simp only [Option.toList_some]
        · rw [List.filter_cons_of_pos eHW, List.filter_nil, Array.toList_push, List.map_append]
          exact hJ3.append (.cons _ _ .nil)
        · rw [List.filter_cons_of_neg (by rw [eHW]; exact Bool.false_ne_true), List.filter_nil, List.append_nil]
          exact hJ3
      case done =>
        rintro D4 C4 _ acc3 nn3 h' tk' hCL hled h0 hn ⟨F', N', hJ3, hlt3⟩
        refine compPost_none hCL hled h0 hn F' N' ?_
        clear F' N' F1 N1 N2 hled hn h0
        rw [List.size_toArray, hwl, List.take_length] at hJ3
        intro h' F' N'
        simp only [List.nil_append] at N'
        have hLD2 : L + 1 ≠ D4 := Nat.ne_of_lt (hlt3 (L + 1, o1) (by simp))
        refine kmk_add_ints (vs := [.int (codeOf c0) t0]) (ws := acc3.toList) (by k_asm) (by k_asm) (News.isList N' (by k_mem)) (News.isList N' (by k_mem)) i0 hJ3 ?_ ?zz
        case zz =>
          have h2 := List.length_filter_le notHW lr
          rw [PySem.sizeLine_eq]
          simp only [List.length_map, List.length_cons, List.length_nil] at hlu ⊢
          omega
        clear N' F'
        intro D5 cs h' F' N' l1 hcs
        dsimp only
        have q5 : L + 1 < D5 := l1 (L + 1, o1) (by simp)
        have q2 : L + 1 < D2 := hlt (L + 1, o1) (by simp)
        have N3 : News g L h' [(D5, listOf cs.toArray 0), (D2, listOf acc2 nn2), (L + 1, o1)] := fun p hp => N' p (by
          simp only [List.mem_cons, List.not_mem_nil, or_false] at hp ⊢
          rcases hp with h | h | h <;> simp [h])
        have q6 : D2 < D5 := l1 (D2, listOf acc2 nn2) (by simp)
        clear N' l1
        with_unfolding_all refine stCNk (own := [(D5, listOf cs.toArray 0), (D2, listOf acc2 nn2)]) (rest := []) F' N3 rfl h1 ⟨.inl (Nat.ne_of_gt q5), .inl (Nat.ne_of_gt q2), trivial⟩ trivial ?_
        clear F' N3
        intro h' o2 F' N' h2
        dsimp only [List.cons_append, List.nil_append] at N'
        dsimp only
        (repeat' ((fail_if_success (with_reducible show wpAny _ _ (exec (Stmt.For _ _ _ _ _) _) _ _ _)); (fail_if_success (with_reducible show wpAny _ _ (exec (Stmt.While _ _ _ _) _) _ _ _)); (fail_if_success (with_reducible show wpAny _ _ (pyIter _) _ _ _)); (fail_if_success (with_reducible show wpAny _ _ (exec (Stmt.Assign _ (Expr.ListComp _ _ _ _) _) _) _ _ _)); (fail_if_success (with_reducible show wpAny _ _ (eval (Expr.ListComp _ _ _ _) _) _ _ _)); first | (((with_reducible show wpAny _ _ (call (Value.builtin "chr") _) _ _ _); (k_dflt (refine' my_chr ?za ?zb ?_; (case za => (simp only [lt_a, z_lt] at *; omega)); (case zb => (simp only [lt_a, z_lt] at *; omega))); intro _ _)); (try dsimp only)) | ((with_reducible show wpAny _ _ (call (Value.ref _) _) _ _ _); k_dflt (refine' con_useI ?zC ?zF ?zN ?zX ?zT ?zhA ?zhd ?zhu ?_); (case zC => exact con_law_code _ _ _ (by with_reducible assumption) (by with_reducible assumption)); (case zF => k_asm); (case zN => k_asm); (case zX => k_asm); (case zT => k_asm); (case zhA => rfl); (case zhd => first | exact room_b (by with_reducible assumption) rfl | exact room_a (by with_reducible assumption) rfl | omega | (simp only [Around.deeper, Around.in1]; omega)); (case zhu => first | exact room_b (by with_reducible assumption) rfl | exact room_a (by with_reducible assumption) rfl | omega | (simp only [Around.deeper, Around.in1]; omega)); intro _ _ _ _ _; (try k_sweep); (try dsimp only)) | (k_unfold; (try dsimp only)) | (walk1; (try dsimp only)) | (dsimp only; walk1) | fail "no step"))
        refine m_AssignListComp (by with_unfolding_all rfl) (by with_unfolding_all rfl) rfl (by decide) ?_
        obtain ⟨cds, hcds⟩ : ∃ cds, cds = [codeOf c0] ++ List.map codeOf (List.filter notHW lr) := ⟨_, rfl⟩
        rw [← hcds] at hcs
        have hcl := hcs.length
        have hcd1 : 0 < cds.length := by rw [hcds]; simp
        have hcd2 : cds.length ≤ 50 := by
          have h2 := List.length_filter_le notHW lr
          rw [hcds]
          simp only [List.length_map, List.length_cons, List.length_append, List.length_nil] at hlu ⊢
          omega
        have hcr : ∀ c ∈ cds, 0 ≤ c ∧ c ≤ 7 := by
          intro c hc
          rw [hcds] at hc
          rcases List.mem_append.mp hc with hc | hc
          · rw [List.mem_singleton.mp hc]; exact codeOf_le hc0 hc9
          · obtain ⟨x, hx, rfl⟩ := List.mem_map.mp hc
            have := hup x (List.mem_cons_of_mem _ (List.mem_filter.mp hx).1)
            exact codeOf_le this.1 this.2
        have hcg : ∀ j : Nat, 0 ≤ cds.getD j 0 ∧ cds.getD j 0 ≤ 7 := by
          intro j
          by_cases hj : j < cds.length
          · have e : cds.getD j 0 = cds[j] := by simp [List.getD, List.getElem?_eq_getElem hj]
            rw [e]; exact hcr _ (List.getElem_mem hj)
          · have e : cds.getD j 0 = 0 := by simp [List.getD, List.getElem?_eq_none (Nat.le_of_not_lt hj)]
            rw [e]; omega
        (repeat' ((fail_if_success (with_reducible show wpAny _ _ (exec (Stmt.For _ _ _ _ _) _) _ _ _)); (fail_if_success (with_reducible show wpAny _ _ (exec (Stmt.While _ _ _ _) _) _ _ _)); (fail_if_success (with_reducible show wpAny _ _ (pyIter _) _ _ _)); (fail_if_success (with_reducible show wpAny _ _ (exec (Stmt.Assign _ (Expr.ListComp _ _ _ _) _) _) _ _ _)); (fail_if_success (with_reducible show wpAny _ _ (eval (Expr.ListComp _ _ _ _) _) _ _ _)); first | (((with_reducible show wpAny _ _ (call (Value.builtin "chr") _) _ _ _); (k_dflt (refine' my_chr ?za ?zb ?_; (case za => (simp only [lt_a, z_lt] at *; omega)); (case zb => (simp only [lt_a, z_lt] at *; omega))); intro _ _)); (try dsimp only)) | ((with_reducible show wpAny _ _ (call (Value.ref _) _) _ _ _); k_dflt (refine' con_useI ?zC ?zF ?zN ?zX ?zT ?zhA ?zhd ?zhu ?_); (case zC => exact con_law_code _ _ _ (by with_reducible assumption) (by with_reducible assumption)); (case zF => k_asm); (case zN => k_asm); (case zX => k_asm); (case zT => k_asm); (case zhA => rfl); (case zhd => first | exact room_b (by with_reducible assumption) rfl | exact room_a (by with_reducible assumption) rfl | omega | (simp only [Around.deeper, Around.in1]; omega)); (case zhu => first | exact room_b (by with_reducible assumption) rfl | exact room_a (by with_reducible assumption) rfl | omega | (simp only [Around.deeper, Around.in1]; omega)); intro _ _ _ _ _; (try k_sweep); (try dsimp only)) | (k_unfold; (try dsimp only)) | (walk1; (try dsimp only)) | (dsimp only; walk1) | fail "no step"))
        rename Fr _ _ _ _ => F1
        rename News _ _ _ _ => N1
        rename IsRange _ _ _ _ _ _ _ _ => R1
        refine m_comp_range (σ := Unit) (fun _ => []) [(D5, listOf cs.toArray 0), (L + 1, o2)] [(D5, listOf cs.toArray 0), (D2, listOf acc2 nn2), (L + 1, o2)] [] (fun k acc _ => StrsAre acc.toList ((keptTo cds k).map dgS)) (cds.length - 1) rfl R1 (by decide) (by decide) (by omega) (by omega) (by omega) (by rw [PySem.sizeLine_eq]; omega) F1 N1 X T (by decide) rfl rfl ?vis ⟨(), sub_nil, .nil⟩ (fun _ _ _ _ => rfl) (fun p hp => ⟨hp, List.not_mem_nil⟩) ?acc ?turn ?done
        case vis => exact fun p hp => by simp at hp ⊢; rcases hp with h | h <;> simp [h]
        case acc =>
          intro k acc _ h
          have := h.length
          have h2 := keptTo_len cds k
          simp only [Array.length_toList, List.length_map] at this
          omega
        case turn =>
          intro g' C i t _ acc4 uu h tk own hi hJ4 hs X' T' F' N'
          clear F1 N1
          simp only [List.nil_append, List.cons_append] at N'
          (try k_fold)
          (repeat' ((fail_if_success (with_reducible show wpAny _ _ (exec (Stmt.For _ _ _ _ _) _) _ _ _)); (fail_if_success (with_reducible show wpAny _ _ (exec (Stmt.While _ _ _ _) _) _ _ _)); (fail_if_success (with_reducible show wpAny _ _ (pyIter _) _ _ _)); (fail_if_success (with_reducible show wpAny _ _ (exec (Stmt.Assign _ (Expr.ListComp _ _ _ _) _) _) _ _ _)); (fail_if_success (with_reducible show wpAny _ _ (eval (Expr.ListComp _ _ _ _) _) _ _ _)); first | (((with_reducible show wpAny _ _ (call (Value.builtin "chr") _) _ _ _); (k_dflt (refine' my_chr ?za ?zb ?_; (case za => (simp only [lt_a, z_lt] at *; omega)); (case zb => (simp only [lt_a, z_lt] at *; omega))); intro _ _)); (try dsimp only)) | ((with_reducible show wpAny _ _ (call (Value.ref _) _) _ _ _); k_dflt (refine' con_useI ?zC ?zF ?zN ?zX ?zT ?zhA ?zhd ?zhu ?_); (case zC => exact con_law_code _ _ _ (by with_reducible assumption) (by with_reducible assumption)); (case zF => k_asm); (case zN => k_asm); (case zX => k_asm); (case zT => k_asm); (case zhA => rfl); (case zhd => first | exact room_b (by with_reducible assumption) rfl | exact room_a (by with_reducible assumption) rfl | omega | (simp only [Around.deeper, Around.in1]; omega)); (case zhu => first | exact room_b (by with_reducible assumption) rfl | exact room_a (by with_reducible assumption) rfl | omega | (simp only [Around.deeper, Around.in1]; omega)); intro _ _ _ _ _; (try k_sweep); (try dsimp only)) | (k_unfold; (try dsimp only)) | (walk1; (try dsimp only)) | (dsimp only; walk1) | fail "no step"))
          all_goals rename Fr _ _ _ _ => F2
          all_goals rename News _ _ _ _ => N2
          all_goals rename List.any _ _ = _ => eA
          all_goals rw [show (1 + (i : Int)).toNat = i + 1 from by omega, show (1 + (i : Int) - 1).toNat = i from by omega, kept_any] at eA
          · refine CompEnd.intro () F2 N2 sub_nil (fun p hp => List.mem_cons_of_mem _ hp) ?_
            rw [keptTo, if_neg (by rwa [Bool.not_eq_true', decide_eq_false_iff_not] at eA), List.append_nil]
            exact hJ4
          · refine my_digit (by rw [show (1 + (i : Int)).toNat = i + 1 from by omega]; exact hcg _) ?_
            refine CompEnd.intro () F2 N2 sub_nil (fun p hp => List.mem_cons_of_mem _ hp) ?_
            rw [keptTo, if_pos (by rwa [Bool.not_eq_false', decide_eq_true_eq] at eA), Array.toList_push, List.map_append, show (1 + (i : Int)).toNat = i + 1 from by omega]
            exact hJ4.append' (.cons _ _ .nil)
        case done =>
          rintro D6 C6 _ acc4 nn4 h' tk' hCL hled h0 hn ⟨F', N', hJ4, hlt4⟩
          refine compPost_some rfl hCL hled h0 hn rfl rfl F' N' ?_
          clear F' N' F1 N1 hled hn h0
          intro h' tk' F' N'
          simp only [List.nil_append] at N'
          (repeat' ((fail_if_success (with_reducible show wpAny _ _ (exec (Stmt.For _ _ _ _ _) _) _ _ _)); (fail_if_success (with_reducible show wpAny _ _ (exec (Stmt.While _ _ _ _) _) _ _ _)); (fail_if_success (with_reducible show wpAny _ _ (pyIter _) _ _ _)); (fail_if_success (with_reducible show wpAny _ _ (exec (Stmt.Assign _ (Expr.ListComp _ _ _ _) _) _) _ _ _)); (fail_if_success (with_reducible show wpAny _ _ (eval (Expr.ListComp _ _ _ _) _) _ _ _)); first | (((with_reducible show wpAny _ _ (call (Value.builtin "chr") _) _ _ _); (k_dflt (refine' my_chr ?za ?zb ?_; (case za => (simp only [lt_a, z_lt] at *; omega)); (case zb => (simp only [lt_a, z_lt] at *; omega))); intro _ _)); (try dsimp only)) | ((with_reducible show wpAny _ _ (call (Value.ref _) _) _ _ _); k_dflt (refine' con_useI ?zC ?zF ?zN ?zX ?zT ?zhA ?zhd ?zhu ?_); (case zC => exact con_law_code _ _ _ (by with_reducible assumption) (by with_reducible assumption)); (case zF => k_asm); (case zN => k_asm); (case zX => k_asm); (case zT => k_asm); (case zhA => rfl); (case zhd => first | exact room_b (by with_reducible assumption) rfl | exact room_a (by with_reducible assumption) rfl | omega | (simp only [Around.deeper, Around.in1]; omega)); (case zhu => first | exact room_b (by with_reducible assumption) rfl | exact room_a (by with_reducible assumption) rfl | omega | (simp only [Around.deeper, Around.in1]; omega)); intro _ _ _ _ _; (try k_sweep); (try dsimp only)) | (k_unfold; (try dsimp only)) | (walk1; (try dsimp only)) | (dsimp only; walk1) | fail "no step"))
          have hk0 := keptTo_len cds (cds.length - 1)
          refine my_join (vs := acc4.toList) (by k_asm) (by k_mem) (by with_reducible assumption) (by rw [List.length_map]; omega) ?_ fun t' tk' => ?_
          · intro y hy
            obtain ⟨c, _, rfl⟩ := List.mem_map.mp hy
            exact (by decide : (1 : Nat) ≤ 10)
          · rw [flat_dg]
            obtain ⟨kt, hkt⟩ : ∃ kt : Str, kt = ⟨((keptTo cds (cds.length - 1)).map dgN).toArray⟩ := ⟨_, rfl⟩
            rw [← hkt]
            have hkl : kt.length ≤ 50 := by rw [← len_cps, hkt]; simp only [List.length_map]; omega
            have hk1 : kt.cps.toList = (keptTo cds (cds.length - 1)).map dgN := by rw [hkt]
            clear hkt
            have h1l : (⟨#[c0]⟩ : Str).length = 1 := rfl
            have h3l : (Str.ofString "000").length = 3 := by decide +kernel
            refine wpAny_mono (show wpAny _ _ (binaryOp .Add (.str ⟨#[c0]⟩ _) (.str kt _)) _ _ _ from ?_) (fun _ _ q => q) (fun _ _ q => q)
            dsimp only
            (repeat' ((fail_if_success (with_reducible show wpAny _ _ (exec (Stmt.For _ _ _ _ _) _) _ _ _)); (fail_if_success (with_reducible show wpAny _ _ (exec (Stmt.While _ _ _ _) _) _ _ _)); (fail_if_success (with_reducible show wpAny _ _ (pyIter _) _ _ _)); (fail_if_success (with_reducible show wpAny _ _ (exec (Stmt.Assign _ (Expr.ListComp _ _ _ _) _) _) _ _ _)); (fail_if_success (with_reducible show wpAny _ _ (eval (Expr.ListComp _ _ _ _) _) _ _ _)); first | (((with_reducible show wpAny _ _ (call (Value.builtin "chr") _) _ _ _); (k_dflt (refine' my_chr ?za ?zb ?_; (case za => (simp only [lt_a, z_lt] at *; omega)); (case zb => (simp only [lt_a, z_lt] at *; omega))); intro _ _)); (try dsimp only)) | ((with_reducible show wpAny _ _ (call (Value.ref _) _) _ _ _); k_dflt (refine' con_useI ?zC ?zF ?zN ?zX ?zT ?zhA ?zhd ?zhu ?_); (case zC => exact con_law_code _ _ _ (by with_reducible assumption) (by with_reducible assumption)); (case zF => k_asm); (case zN => k_asm); (case zX => k_asm); (case zT => k_asm); (case zhA => rfl); (case zhd => first | exact room_b (by with_reducible assumption) rfl | exact room_a (by with_reducible assumption) rfl | omega | (simp only [Around.deeper, Around.in1]; omega)); (case zhu => first | exact room_b (by with_reducible assumption) rfl | exact room_a (by with_reducible assumption) rfl | omega | (simp only [Around.deeper, Around.in1]; omega)); intro _ _ _ _ _; (try k_sweep); (try dsimp only)) | (k_unfold; (try dsimp only)) | (walk1; (try dsimp only)) | (dsimp only; walk1) | fail "no step"))
            refine hret _ [] _ _ _ _ (by assumption) (by assumption) sub_nil ⟨_, congrArg (Value.str · _) ?_, rfl⟩
            have e0 : ∀ a b : Str, a.cps.toList = b.cps.toList → a = b := by
              rintro ⟨⟨a⟩⟩ ⟨⟨b⟩⟩ h
              dsimp only at h
              rw [h]
            apply e0
            have e1 := sl_to ((⟨#[c0]⟩ : Str) ++ kt ++ Str.ofString "000") 4
            have e2 : ((⟨#[c0]⟩ : Str) ++ kt ++ Str.ofString "000").cps.toList = [c0] ++ kt.cps.toList ++ [48, 48, 48] := by
              show (((#[c0] : Array Nat) ++ kt.cps) ++ (Str.ofString "000").cps).toList = _
              rw [Array.toList_append, Array.toList_append, show (Str.ofString "000").cps.toList = [48, 48, 48] from by decide +kernel]
            refine e1.trans ?_
            rw [e2, hk1, ← hu]
            show _ = sdxKey u
            rw [key_some hls.symm, hcds]
            simp only [List.cons_append, List.nil_append, List.length_cons, List.length_map, Nat.add_sub_cancel]
end
section
section
variable {w : World} {f : Addr} {d u : Nat} {old : List (Addr × Obj)} {vs : List Value} {R : Value → List (Addr × Obj) → Prop}
noncomputable def ConC (w : World) (f : Addr) (d u : Nat) (old : List (Addr × Obj)) (vs : List Value) (R : Value → List (Addr × Obj) → Prop) : Prop :=
  ∀ (mean : ExcName → Option Value) (mg mb : Str → Option Value) (A : Around) (s : Shared) (Q : Value → Shared → Prop) (g : Heap),
    (∀ b o, g.get? b = some o → s.heap.get? b = some o) → g.objs.size ≤ s.heap.objs.size → Gd w mean mg mb g →
    (∀ p ∈ old, s.heap.get? p.1 = some p.2 ∧ g.get? p.1 = none) → A.handled = none → A.depth + d < recursionLimit → A.units + u < cLine →
    (∀ v new h' tk, (∀ b o, g.get? b = some o → h'.get? b = some o) → (∀ p ∈ new, h'.get? p.1 = some p.2 ∧ g.get? p.1 = none) → R v new → Q v { s with heap := h', toks := tk }) →
    codeAny (model PySem.Challenge.rw_pc0254_01.row.prog w) A (.call (.ref f) ⟨vs, []⟩) (fun r s' => match r with | .ok (.ret v) => Q v s' | .ok _ => False | .error _ => False) s
theorem conc_enter {name qual : Str} {params : Arguments} {body : List Stmt} {scope : Scope} {dV kV doc pm cdv ct oc : Value} {an od : Option Addr} {osl : Array (Option Value)} {binds : List (Str × Value)}
    (ho : (hd.heap_39 w.params).lookup f = some ⟨oc, od, .func (fnX name qual params body scope [] dV kV doc pm an cdv ct), osl⟩) (hcd : codeIn (hd.heap_39 w.params) cdv qual = true)
    (hbind : ∀ s : Shared, (hd.heap_39 w.params).In s.heap → BindsTo s (fnX name qual params body scope [] dV kV doc pm an cdv ct) ⟨vs, []⟩ binds) (hloc : ∀ y ∈ binds, scope.names.lookup y.1 = some .local) (hd1 : 0 < d)
    (h : ∀ (mean : ExcName → Option Value) (mg mb : Str → Option Value) (dp : Nat) (fr : Option (List Env)) (gd : Option (List Code)) (un : Nat) (s : Shared) (Q : Value → Shared → Prop) (g : Heap) (L : Addr) (h₁ : Heap),
      Fr g L h₁ (fun y => binds.reverse.lookup y) → News g L h₁ old → (∀ p ∈ old, p.1 < L) → (hd.heap_39 w.params).In g → Top hd.view_39 (looseW hd.view_39 []) mean mg mb g → dp + d < recursionLimit → un + u < cLine →
      (∀ v new h' tk m' news', Fr g L h' m' → News g L h' news' → (∀ p ∈ new, p ∈ news') → R v new → Q v { s with heap := h', toks := tk }) →
      wpAny (model PySem.Challenge.rw_pc0254_01.row.prog w) (Around.deeper ⟨none, dp, fr, gd, un⟩ (envX qual scope L f cdv [])) (execs body (envX qual scope L f cdv []))
        (fun fl s' => Q (match fl with | .ret v => v | _ => .none) s') (fun _ _ => False) { s with heap := h₁, toks := s.toks + binds.length })
    (hcell : ∀ x ∈ scope.names, x.2 ≠ .cell) (hco : scope.isCoroutine = false) (hgen : scope.isGenerator = false) (hk : scope.kind = .function) :
    ConC w f d u old vs R := by
  intro mean mg mb A s Q g hg hsz G hold hA hdp hun hret
  obtain ⟨hd', dp, fr, gd, un⟩ := A
  dsimp only at hA hdp hun
  subst hA
  refine codeAny_call_def (fd := fnX name qual params body scope [] dV kV doc pm an cdv ct) (body := body) (binds := binds) (by dsimp only; omega) (hg _ _ (G.k _ _ ho)) rfl (G.t.nolimit.keeps hg) (codeRec_of (G.k.keeps hg) hcd) rfl (hbind s (G.k.keeps hg)) hcell hloc (fun h₁ hns hk₁ => ?_) hco hgen hk
  refine wpAny_mono (h mean mg mb dp fr gd un s Q g s.heap.objs.size h₁ ⟨hns, fun b o e => hk₁ b o (hg b o e), hsz⟩ (fun p hp => ⟨hk₁ _ _ (hold p hp).1, Nat.ne_of_lt (Heap.lt_size (hold p hp).1), (hold p hp).2⟩) (fun p hp => Heap.lt_size (hold p hp).1) G.k G.t hdp hun ?_) (fun _ _ x => x) (fun _ _ x => x.elim)
  intro v new h' tk m' news' F N hn hR
  exact hret v new h' tk F.keep (fun p hp => ⟨(N p (hn p hp)).1, (N p (hn p hp)).2.2⟩) hR
theorem con_make {C fI : Addr} {R : Addr → Addr → List (Addr × Obj) → Prop} (hm : makesIn (hd.heap_39 w.params) C = true) (hi : findIn (hd.heap_39 w.params) (.ref C) "__init__" = some (some (.ref fI))) (hf : typeIn (hd.heap_39 w.params) (.ref fI) = some (.type "function"))
    (H : ∀ x dx, dx < x → ConC w fI d u [(x, instObj C dx), (dx, emptyDict)] [.ref x] (fun v new => v = .none ∧ R x dx new)) : Con w C (d + 1) (u + 1) [] [] (fun v new => ∃ x dx, v = .ref x ∧ R x dx new) := by
  intro mean mg mb A s Q g hg hsz G hold hA hdp hun hret
  obtain ⟨hh, gg, dd, tt, os⟩ := s
  have X := G.k.keeps hg
  refine wpAny_call (make_core (makes_of X hm) (looks_findIn X hi) (fun self => bind_fn X self hf) (.inl (by rfl)) ?_)
  have kk : ∀ b o, hh.get? b = some o → ((hh.push emptyDict).push (instObj C hh.objs.size)).get? b = some o := fun b o e => Heap.get?_push_of_some _ (Heap.get?_push_of_some _ e)
  have hx : ((hh.push emptyDict).push (instObj C hh.objs.size)).get? (hh.objs.size + 1) = some (instObj C hh.objs.size) := by heap_get
  have hdx : ((hh.push emptyDict).push (instObj C hh.objs.size)).get? hh.objs.size = some emptyDict := by heap_get
  refine codeAny_mono (H (hh.objs.size + 1) hh.objs.size (Nat.lt_succ_self _) mean mg mb (A.under (.builtin "type.__call__" ⟨[.ref C], []⟩)) ⟨_, gg, dd, tt, os⟩ (fun v s' => v = .none ∧ Q (.ref (hh.objs.size + 1)) s') g (fun b o e => kk b o (hg b o e)) (by simp only [Heap.size_push]; exact Nat.le_succ_of_le (Nat.le_succ_of_le hsz)) G ?_ hA (by rw [depth_under_make]; omega) (by rw [units_under_make]; omega) ?_) ?_
  · intro p hp
    simp only [List.mem_cons, List.not_mem_nil, or_false] at hp
    rcases hp with rfl | rfl
    · exact ⟨hx, Heap.get?_none_of_le (Nat.le_succ_of_le hsz)⟩
    · exact ⟨hdx, Heap.get?_none_of_le hsz⟩
  · intro v new h' tk h1 h2 hR
    exact ⟨hR.1, hret _ new h' tk h1 h2 ⟨_, _, rfl, hR.2⟩⟩
  · intro r s' z
    rcases r with e | (v | _ | _ | _) <;> first | exact z | exact z.elim
end
theorem conc_frame_init (w : World) (x dx : Addr) (hlt : dx < x) : ConC w 157 2 60 [(x, instObj 160 dx), (dx, emptyDict)] [.ref x] (fun v new => v = .none ∧ new = []) := by
  ((have hfill : ∀ P : Params, PySem.Challenge.rw_pc0254_01.row.prog = PySem.Challenge.rw_pc0254_01.row.prog ∧ hd.heap_39 P = hd.heap_39 P := fun _ => ⟨rfl, rfl⟩); revert hfill; k_fill; intro hfill; clear hfill)
  k_dflt (refine' conc_enter (binds := [(Str.ofString "self", .ref x), (Str.ofString "func", .none), (Str.ofString "this", .none), (Str.ofString "cls", .none), (Str.ofString "static", .none)]) ?k6 ?k7 ?k9 ?kB ?k8 ?_ ?c5 ?c2 ?c3 ?c4; (case k6 => k_is); (case k7 => k_is); (case k8 => decide); (case k9 => (intro s X; exact binds_K X rfl (by k_is) rfl rfl rfl)); (case c5 => decide); (case kB => exact locs rfl); (case c2 => exact rfl); (case c3 => exact rfl); (case c4 => exact rfl))
  intro mean mg mb dp fr gd un s Q g L h₁ F N hold X T hdp hun hret
  have hx : x ≠ dx := Nat.ne_of_gt hlt
  (try k_fold)
  (repeat' ((fail_if_success (with_reducible show wpAny _ _ (exec (Stmt.For _ _ _ _ _) _) _ _ _)); (fail_if_success (with_reducible show wpAny _ _ (exec (Stmt.While _ _ _ _) _) _ _ _)); (fail_if_success (with_reducible show wpAny _ _ (pyIter _) _ _ _)); first | (k_unfold; (try dsimp only)) | (walk1; (try dsimp only)) | (dsimp only; walk1) | fail "no step"))
  exact hret _ [] _ _ _ _ (by assumption) (by assumption) sub_nil ⟨rfl, rfl⟩
theorem con_frame (w : World) : Con w 160 3 61 [] [] (fun v new => ∃ x : Addr, v = .ref x ∧ new = []) := by
  ((have hfill : ∀ P : Params, PySem.Challenge.rw_pc0254_01.row.prog = PySem.Challenge.rw_pc0254_01.row.prog ∧ hd.heap_39 P = hd.heap_39 P := fun _ => ⟨rfl, rfl⟩); revert hfill; k_fill; intro hfill; clear hfill)
  intro mean mg mb A s Q g hg hsz G hold hA hdp hun hret
  refine con_make (w := w) (C := 160) (R := fun _ _ new => new = []) ?m ?i ?f (fun x dx h => conc_frame_init w x dx h) mean mg mb A s Q g hg hsz G hold hA hdp hun ?_
  case m => k_is
  case i => k_is
  case f => k_is
  intro v new h' tk h1 h2 ⟨x, dx, e1, e2⟩
  exact hret v new h' tk h1 h2 ⟨x, e1, e2⟩
end
section
section
variable {w : World} {mean : ExcName → Option Value} {mg mb : Str → Option Value} {A : Around} {s : Shared} {Q E : Value → Shared → Prop} {h₀ : Heap} {L : Addr} {m : Str → Option Value} {news : List (Addr × Obj)}
theorem my_frame (F : Fr h₀ L s.heap m) (N : News h₀ L s.heap news) (X : (hd.heap_39 w.params).In h₀) (T : Top hd.view_39 (looseW hd.view_39 []) mean mg mb h₀)
    (hA : A.handled = none) (hdp : A.depth + 3 < recursionLimit) (hun : A.units + 61 < cLine)
    (h : ∀ x h' tk, Fr h₀ L h' m → News h₀ L h' news → Q (.ref x) { s with heap := h', toks := tk }) :
    wpAny (model PySem.Challenge.rw_pc0254_01.row.prog w) A (call (.ref 160) []) Q E s :=
  con_use0 (con_frame w) F N X T hA hdp hun fun v new h' tk F' N' ⟨x, e1, e2⟩ => by subst e1 e2; exact h x h' tk F' N'
end
structure HostD (es : List DictEntry) (k : Nat) (lo : Option Addr) : Prop where
  refs : ∀ e ∈ es, e.refKey = false
  len : es.length ≤ k
  notes : ∀ l, lo = some l → getL (Str.ofString "notes") es = some (some (.ref l))
theorem hostD_nil : HostD [] 0 none := ⟨fun _ h => (List.not_mem_nil h).elim, Nat.le_refl _, fun _ h => by cases h⟩
noncomputable def keptOf : Option Addr → List (Addr × Obj)
  | none => []
  | some l => [(l, listOf #[] 0)]
theorem putL_refs {nm : Str} {hsh : Int} {t : Tok} {v : Value} : ∀ {es : List DictEntry}, (∀ e ∈ es, e.refKey = false) → ∀ e ∈ putL nm hsh (.str nm t) v es, e.refKey = false
  | [], _, e, he => by rw [List.mem_singleton.mp he]; rfl
  | a :: r, h, e, he => by
    rw [putL] at he
    split at he
    · rcases List.mem_cons.mp he with q | q
      · rw [q]; exact h a List.mem_cons_self
      · exact h e (List.mem_cons_of_mem _ q)
    · rcases List.mem_cons.mp he with q | q
      · rw [q]; exact h a List.mem_cons_self
      · exact putL_refs (fun e h' => h e (List.mem_cons_of_mem _ h')) e q
theorem putL_len {nm : Str} {hsh : Int} {key v : Value} : ∀ es : List DictEntry, (putL nm hsh key v es).length ≤ es.length + 1
  | [] => Nat.le_refl _
  | a :: r => by
    rw [putL]
    split
    · exact Nat.le_succ _
    · exact Nat.succ_le_succ (putL_len r)
theorem getL_none {nm : Str} {es : List DictEntry} (h : ∀ e ∈ es, e.refKey = false) : (getL nm es).isSome = true := by
  have q : es.any (·.refKey) = false := List.any_eq_false.mpr fun e he => by rw [h e he]; exact Bool.false_ne_true
  unfold getL
  rw [q]
  split <;> rfl
theorem getL_put {nm : Str} {hsh : Int} {t : Tok} {v : Value} : ∀ es : List DictEntry, getL nm (putL nm hsh (.str nm t) v es) = some (some v)
  | [] => by
    have q : (Value.str nm t).isStr nm = true := by simp [Value.isStr]
    simp [putL, getL, q]
  | a :: r => by
    have ih := getL_put (nm := nm) (hsh := hsh) (t := t) (v := v) r
    unfold getL at ih ⊢
    rw [putL]
    cases h : a.key.isStr nm with
    | true => simp [h]
    | false =>
      simp only [Bool.false_eq_true, if_false, List.find?_cons, h]
      cases q : (putL nm hsh (.str nm t) v r).find? (·.key.isStr nm) with
      | some e => rw [q] at ih; exact ih
      | none => rw [q] at ih; dsimp only at ih; split at ih <;> cases ih
theorem find_put {b nm : Str} (hne : ∀ u : Value, u.isStr nm = true → u.isStr b = false) {hsh : Int} {t : Tok} {v : Value} : ∀ es : List DictEntry, (putL nm hsh (.str nm t) v es).find? (·.key.isStr b) = es.find? (·.key.isStr b)
  | [] => by
    have q : (Value.str nm t).isStr b = false := hne _ (by simp [Value.isStr])
    simp [putL, q]
  | a :: r => by
    have ih := find_put hne (hsh := hsh) (t := t) (v := v) r
    rw [putL]
    cases h : a.key.isStr nm with
    | true => simp [hne _ h]
    | false => simp only [Bool.false_eq_true, if_false, List.find?_cons, ih]
theorem getL_put_ne {b nm : Str} {hsh : Int} {t : Tok} {v x : Value} {es : List DictEntry} (hb : (nm == b) = false) (h : getL b es = some (some x)) : getL b (putL nm hsh (.str nm t) v es) = some (some x) := by
  have hne : ∀ u : Value, u.isStr nm = true → u.isStr b = false := by
    intro u hu
    cases u <;> simp_all [Value.isStr]
  unfold getL at h ⊢
  rw [find_put hne]
  cases q : es.find? (·.key.isStr b) with
  | some e => rw [q] at h; exact h
  | none => rw [q] at h; dsimp only at h; split at h <;> cases h
section
variable {w : World} {A : Around} {s : Shared} {E : Value → Shared → Prop} {g : Heap} {L x dx : Addr} {m : Str → Option Value} {news : List (Addr × Obj)} {es : List DictEntry} {n k : Nat} {lo : Option Addr} {v : Value}
theorem my_setA {lo' : Option Addr} {nm : Str} {Q : Unit → Shared → Prop} (F : Fr g L s.heap m) (X : (hd.heap_39 w.params).In g) (N : News g L s.heap news) (hH : HostD es k lo) (h1 : (x, instObj 259 dx) ∈ news) (h2 : (dx, dictOf es n) ∈ news) (hx : x ≠ dx) (hsub : ∀ p ∈ keptOf lo', p ∈ news) (hk : Nat.ble k 900 = true)
    (hn : ∀ l, lo' = some l → v = .ref l ∧ nm = Str.ofString "notes" ∨ lo = some l ∧ (nm == Str.ofString "notes") = false)
    (hs : findIn (hd.heap_39 w.params) (.ref 259) "__setattr__" = some (some (.builtin "object.__setattr__"))) (hp : plainOver (hd.heap_39 w.params) 259 = true) (ht : takerIn (hd.heap_39 w.params) 259 nm = some none) (hh : hasDictIn (hd.heap_39 w.params) 259 = true)
    (h : ∀ h' es' n', Fr g L h' m → News g L h' ((x, instObj 259 dx) :: (dx, dictOf es' n') :: keptOf lo') → HostD es' (k + 1) lo' → getL nm es' = some (some v) → Q () { s with heap := h', toks := s.toks + 2 }) :
    wpAny (model PySem.Challenge.rw_pc0254_01.row.prog w) A (setAttr (.ref x) nm v) Q E s := by
  have N2 : News g L s.heap ((x, instObj 259 dx) :: (dx, dictOf es n) :: keptOf lo') := by
    intro p hp
    rcases List.mem_cons.mp hp with q | hp
    · rw [q]; exact N _ h1
    · rcases List.mem_cons.mp hp with q | hp
      · rw [q]; exact N _ h2
      · exact N _ (hsub p hp)
  have hl := putL_len (nm := nm) (hsh := PyData.keyHash w.params nm) (key := .str nm (s.toks + 1)) (v := v) es
  have hk' := Nat.le_of_ble_eq_true hk
  refine set_dict F X N2 (InstAt.of_news N2 List.mem_cons_self (List.mem_cons_of_mem _ List.mem_cons_self)) rfl hs hp ht hh (getL_none hH.refs) rfl (.tail hx (.head fun p hp q => ?_)) (Nat.le_trans hl (by have := hH.len; omega)) (fun h' F' N' => h h' _ _ F' N' ⟨putL_refs hH.refs, Nat.le_trans hl (Nat.succ_le_succ hH.len), fun l e => ?_⟩ (getL_put es))
  · have e1 := (N2 p (List.mem_cons_of_mem _ (List.mem_cons_of_mem _ hp))).1
    have e2 := (N2 (dx, dictOf es n) (List.mem_cons_of_mem _ List.mem_cons_self)).1
    rw [q, e2] at e1
    cases lo' with
    | none => cases hp
    | some l =>
      rw [List.mem_singleton.mp hp] at e1
      have e3 := congrArg Obj.cls (Option.some.inj e1)
      injection e3 with e4
      exact absurd e4 (by decide)
  · rcases hn l e with ⟨e1, e2⟩ | ⟨e1, e2⟩
    · rw [← e1, ← e2]; exact getL_put es
    · exact getL_put_ne e2 (hH.notes l e1)
theorem my_set0 {nm : Str} {Q : Unit → Shared → Prop} (F : Fr g L s.heap m) (X : (hd.heap_39 w.params).In g) (N : News g L s.heap news) (hH : HostD es k none) (h1 : (x, instObj 259 dx) ∈ news) (h2 : (dx, dictOf es n) ∈ news) (hx : x ≠ dx) (hk : Nat.ble k 900 = true)
    (hs : findIn (hd.heap_39 w.params) (.ref 259) "__setattr__" = some (some (.builtin "object.__setattr__"))) (hp : plainOver (hd.heap_39 w.params) 259 = true) (ht : takerIn (hd.heap_39 w.params) 259 nm = some none) (hh : hasDictIn (hd.heap_39 w.params) 259 = true)
    (h : ∀ h' es' n', Fr g L h' m → News g L h' [(x, instObj 259 dx), (dx, dictOf es' n')] → HostD es' (k + 1) none → getL nm es' = some (some v) → Q () { s with heap := h', toks := s.toks + 2 }) :
    wpAny (model PySem.Challenge.rw_pc0254_01.row.prog w) A (setAttr (.ref x) nm v) Q E s :=
  my_setA (lo' := none) F X N hH h1 h2 hx (fun _ h => nomatch h) hk (fun _ e => nomatch e) hs hp ht hh h
theorem my_setN {l : Addr} {Q : Unit → Shared → Prop} (F : Fr g L s.heap m) (X : (hd.heap_39 w.params).In g) (N : News g L s.heap news) (hH : HostD es k none) (h1 : (x, instObj 259 dx) ∈ news) (h2 : (dx, dictOf es n) ∈ news) (h3 : (l, listOf #[] 0) ∈ news) (hx : x ≠ dx) (hk : Nat.ble k 900 = true)
    (hs : findIn (hd.heap_39 w.params) (.ref 259) "__setattr__" = some (some (.builtin "object.__setattr__"))) (hp : plainOver (hd.heap_39 w.params) 259 = true) (ht : takerIn (hd.heap_39 w.params) 259 (Str.ofString "notes") = some none) (hh : hasDictIn (hd.heap_39 w.params) 259 = true)
    (h : ∀ h' es' n', Fr g L h' m → News g L h' [(x, instObj 259 dx), (dx, dictOf es' n'), (l, listOf #[] 0)] → HostD es' (k + 1) (some l) → Q () { s with heap := h', toks := s.toks + 2 }) :
    wpAny (model PySem.Challenge.rw_pc0254_01.row.prog w) A (setAttr (.ref x) (Str.ofString "notes") (.ref l)) Q E s :=
  my_setA (lo' := some l) F X N hH h1 h2 hx (List.forall_mem_cons.mpr ⟨h3, fun _ h => nomatch h⟩) hk (fun _ e => .inl ⟨by rw [Option.some.inj e], rfl⟩) hs hp ht hh (fun h' es' n' a b c _ => h h' es' n' a b c)
theorem my_set1 {l : Addr} {nm : Str} {Q : Unit → Shared → Prop} (F : Fr g L s.heap m) (X : (hd.heap_39 w.params).In g) (N : News g L s.heap news) (hH : HostD es k (some l)) (h1 : (x, instObj 259 dx) ∈ news) (h2 : (dx, dictOf es n) ∈ news) (h3 : (l, listOf #[] 0) ∈ news) (hx : x ≠ dx) (hk : Nat.ble k 900 = true) (hn : (nm == Str.ofString "notes") = false)
    (hs : findIn (hd.heap_39 w.params) (.ref 259) "__setattr__" = some (some (.builtin "object.__setattr__"))) (hp : plainOver (hd.heap_39 w.params) 259 = true) (ht : takerIn (hd.heap_39 w.params) 259 nm = some none) (hh : hasDictIn (hd.heap_39 w.params) 259 = true)
    (h : ∀ h' es' n', Fr g L h' m → News g L h' [(x, instObj 259 dx), (dx, dictOf es' n'), (l, listOf #[] 0)] → HostD es' (k + 1) (some l) → Q () { s with heap := h', toks := s.toks + 2 }) :
    wpAny (model PySem.Challenge.rw_pc0254_01.row.prog w) A (setAttr (.ref x) nm v) Q E s :=
  my_setA (lo' := some l) F X N hH h1 h2 hx (List.forall_mem_cons.mpr ⟨h3, fun _ h => nomatch h⟩) hk (fun _ e => .inr ⟨e, hn⟩) hs hp ht hh (fun h' es' n' a b c _ => h h' es' n' a b c)
end
theorem conc_host_init (w : World) (x dx : Addr) (hlt : dx < x) : ConC w 179 5 200 [(x, instObj 259 dx), (dx, emptyDict)] [.ref x] (fun v new => v = .none ∧ ∃ es n l, new = [(x, instObj 259 dx), (dx, dictOf es n), (l, listOf #[] 0)] ∧ getL (Str.ofString "notes") es = some (some (.ref l))) := by
  ((have hfill : ∀ P : Params, PySem.Challenge.rw_pc0254_01.row.prog = PySem.Challenge.rw_pc0254_01.row.prog ∧ hd.heap_39 P = hd.heap_39 P := fun _ => ⟨rfl, rfl⟩); revert hfill; k_fill; intro hfill; clear hfill)
  k_dflt (refine' conc_enter (binds := [(Str.ofString "self", .ref x), (Str.ofString "limit", .int 12 412), (Str.ofString "fuel", .none)]) ?k6 ?k7 ?k9 ?kB ?k8 ?_ ?c5 ?c2 ?c3 ?c4; (case k6 => k_is); (case k7 => k_is); (case k8 => decide); (case k9 => (intro s X; exact binds_K X rfl (by k_is) rfl rfl rfl)); (case c5 => decide); (case kB => exact locs rfl); (case c2 => exact rfl); (case c3 => exact rfl); (case c4 => exact rfl))
  intro mean mg mb dp fr gd un s Q g L h₁ F N hold X T hdp hun hret
  have hx : x ≠ dx := Nat.ne_of_gt hlt
  have hH := hostD_nil
  (try k_fold)
  (repeat' ((fail_if_success (with_reducible show wpAny _ _ (exec (Stmt.For _ _ _ _ _) _) _ _ _)); (fail_if_success (with_reducible show wpAny _ _ (exec (Stmt.While _ _ _ _) _) _ _ _)); (fail_if_success (with_reducible show wpAny _ _ (pyIter _) _ _ _)); (fail_if_success (with_reducible show wpAny _ _ (setAttr (Value.ref _) _ _) _ _ _)); (fail_if_success (with_reducible show wpAny _ _ (getAttr (Value.ref _) _ _) _ _ _)); first | (((with_reducible show wpAny _ _ (call (Value.ref 160) _) _ _ _); k_dflt (refine' my_frame ?zF ?zN ?zX ?zT ?zhA ?zhd ?zhu ?_; (case zF => k_asm); (case zN => k_asm); (case zX => k_asm); (case zT => k_asm); (case zhA => rfl); (case zhd => (first | exact room_b (by with_reducible assumption) rfl | exact room_a (by with_reducible assumption) rfl | omega | (simp only [Around.deeper, Around.in1]; omega))); (case zhu => (first | exact room_b (by with_reducible assumption) rfl | exact room_a (by with_reducible assumption) rfl | omega | (simp only [Around.deeper, Around.in1]; omega)))); intro _ _ _ _ _; (try k_sweep)); (try dsimp only)) | (k_unfold; (try dsimp only)) | (walk1; (try dsimp only)) | (dsimp only; walk1) | fail "no step"))
  refine my_set0 (by k_asm) X (by k_asm) hH (by k_mem) (by k_mem) hx rfl (by k_is) (by k_is) (by k_is) (by k_is) (fun h' es' n' F' N' hH hg => ?_)
  (repeat' ((fail_if_success (with_reducible show wpAny _ _ (exec (Stmt.For _ _ _ _ _) _) _ _ _)); (fail_if_success (with_reducible show wpAny _ _ (exec (Stmt.While _ _ _ _) _) _ _ _)); (fail_if_success (with_reducible show wpAny _ _ (pyIter _) _ _ _)); (fail_if_success (with_reducible show wpAny _ _ (setAttr (Value.ref _) _ _) _ _ _)); (fail_if_success (with_reducible show wpAny _ _ (getAttr (Value.ref _) _ _) _ _ _)); first | (((with_reducible show wpAny _ _ (call (Value.ref 160) _) _ _ _); k_dflt (refine' my_frame ?zF ?zN ?zX ?zT ?zhA ?zhd ?zhu ?_; (case zF => k_asm); (case zN => k_asm); (case zX => k_asm); (case zT => k_asm); (case zhA => rfl); (case zhd => (first | exact room_b (by with_reducible assumption) rfl | exact room_a (by with_reducible assumption) rfl | omega | (simp only [Around.deeper, Around.in1]; omega))); (case zhu => (first | exact room_b (by with_reducible assumption) rfl | exact room_a (by with_reducible assumption) rfl | omega | (simp only [Around.deeper, Around.in1]; omega)))); intro _ _ _ _ _; (try k_sweep)); (try dsimp only)) | (k_unfold; (try dsimp only)) | (walk1; (try dsimp only)) | (dsimp only; walk1) | fail "no step"))
  refine my_set0 (by k_asm) X (by k_asm) hH (by k_mem) (by k_mem) hx rfl (by k_is) (by k_is) (by k_is) (by k_is) (fun h' es' n' F' N' hH hg => ?_)
  (repeat' ((fail_if_success (with_reducible show wpAny _ _ (exec (Stmt.For _ _ _ _ _) _) _ _ _)); (fail_if_success (with_reducible show wpAny _ _ (exec (Stmt.While _ _ _ _) _) _ _ _)); (fail_if_success (with_reducible show wpAny _ _ (pyIter _) _ _ _)); (fail_if_success (with_reducible show wpAny _ _ (setAttr (Value.ref _) _ _) _ _ _)); (fail_if_success (with_reducible show wpAny _ _ (getAttr (Value.ref _) _ _) _ _ _)); first | (((with_reducible show wpAny _ _ (call (Value.ref 160) _) _ _ _); k_dflt (refine' my_frame ?zF ?zN ?zX ?zT ?zhA ?zhd ?zhu ?_; (case zF => k_asm); (case zN => k_asm); (case zX => k_asm); (case zT => k_asm); (case zhA => rfl); (case zhd => (first | exact room_b (by with_reducible assumption) rfl | exact room_a (by with_reducible assumption) rfl | omega | (simp only [Around.deeper, Around.in1]; omega))); (case zhu => (first | exact room_b (by with_reducible assumption) rfl | exact room_a (by with_reducible assumption) rfl | omega | (simp only [Around.deeper, Around.in1]; omega)))); intro _ _ _ _ _; (try k_sweep)); (try dsimp only)) | (k_unfold; (try dsimp only)) | (walk1; (try dsimp only)) | (dsimp only; walk1) | fail "no step"))
  refine my_set0 (by k_asm) X (by k_asm) hH (by k_mem) (by k_mem) hx rfl (by k_is) (by k_is) (by k_is) (by k_is) (fun h' es' n' F' N' hH hg => ?_)
  (repeat' ((fail_if_success (with_reducible show wpAny _ _ (exec (Stmt.For _ _ _ _ _) _) _ _ _)); (fail_if_success (with_reducible show wpAny _ _ (exec (Stmt.While _ _ _ _) _) _ _ _)); (fail_if_success (with_reducible show wpAny _ _ (pyIter _) _ _ _)); (fail_if_success (with_reducible show wpAny _ _ (setAttr (Value.ref _) _ _) _ _ _)); (fail_if_success (with_reducible show wpAny _ _ (getAttr (Value.ref _) _ _) _ _ _)); first | (((with_reducible show wpAny _ _ (call (Value.ref 160) _) _ _ _); k_dflt (refine' my_frame ?zF ?zN ?zX ?zT ?zhA ?zhd ?zhu ?_; (case zF => k_asm); (case zN => k_asm); (case zX => k_asm); (case zT => k_asm); (case zhA => rfl); (case zhd => (first | exact room_b (by with_reducible assumption) rfl | exact room_a (by with_reducible assumption) rfl | omega | (simp only [Around.deeper, Around.in1]; omega))); (case zhu => (first | exact room_b (by with_reducible assumption) rfl | exact room_a (by with_reducible assumption) rfl | omega | (simp only [Around.deeper, Around.in1]; omega)))); intro _ _ _ _ _; (try k_sweep)); (try dsimp only)) | (k_unfold; (try dsimp only)) | (walk1; (try dsimp only)) | (dsimp only; walk1) | fail "no step"))
  refine my_set0 (by k_asm) X (by k_asm) hH (by k_mem) (by k_mem) hx rfl (by k_is) (by k_is) (by k_is) (by k_is) (fun h' es' n' F' N' hH hg => ?_)
  (repeat' ((fail_if_success (with_reducible show wpAny _ _ (exec (Stmt.For _ _ _ _ _) _) _ _ _)); (fail_if_success (with_reducible show wpAny _ _ (exec (Stmt.While _ _ _ _) _) _ _ _)); (fail_if_success (with_reducible show wpAny _ _ (pyIter _) _ _ _)); (fail_if_success (with_reducible show wpAny _ _ (setAttr (Value.ref _) _ _) _ _ _)); (fail_if_success (with_reducible show wpAny _ _ (getAttr (Value.ref _) _ _) _ _ _)); first | (((with_reducible show wpAny _ _ (call (Value.ref 160) _) _ _ _); k_dflt (refine' my_frame ?zF ?zN ?zX ?zT ?zhA ?zhd ?zhu ?_; (case zF => k_asm); (case zN => k_asm); (case zX => k_asm); (case zT => k_asm); (case zhA => rfl); (case zhd => (first | exact room_b (by with_reducible assumption) rfl | exact room_a (by with_reducible assumption) rfl | omega | (simp only [Around.deeper, Around.in1]; omega))); (case zhu => (first | exact room_b (by with_reducible assumption) rfl | exact room_a (by with_reducible assumption) rfl | omega | (simp only [Around.deeper, Around.in1]; omega)))); intro _ _ _ _ _; (try k_sweep)); (try dsimp only)) | (k_unfold; (try dsimp only)) | (walk1; (try dsimp only)) | (dsimp only; walk1) | fail "no step"))
  refine get_own F' X (InstAt.of_news N' (by k_mem) (by k_mem)) (by k_is) (by k_is) (by k_is) (by k_is) hg (by k_handed) ?_
  (repeat' ((fail_if_success (with_reducible show wpAny _ _ (exec (Stmt.For _ _ _ _ _) _) _ _ _)); (fail_if_success (with_reducible show wpAny _ _ (exec (Stmt.While _ _ _ _) _) _ _ _)); (fail_if_success (with_reducible show wpAny _ _ (pyIter _) _ _ _)); (fail_if_success (with_reducible show wpAny _ _ (setAttr (Value.ref _) _ _) _ _ _)); (fail_if_success (with_reducible show wpAny _ _ (getAttr (Value.ref _) _ _) _ _ _)); first | (((with_reducible show wpAny _ _ (call (Value.ref 160) _) _ _ _); k_dflt (refine' my_frame ?zF ?zN ?zX ?zT ?zhA ?zhd ?zhu ?_; (case zF => k_asm); (case zN => k_asm); (case zX => k_asm); (case zT => k_asm); (case zhA => rfl); (case zhd => (first | exact room_b (by with_reducible assumption) rfl | exact room_a (by with_reducible assumption) rfl | omega | (simp only [Around.deeper, Around.in1]; omega))); (case zhu => (first | exact room_b (by with_reducible assumption) rfl | exact room_a (by with_reducible assumption) rfl | omega | (simp only [Around.deeper, Around.in1]; omega)))); intro _ _ _ _ _; (try k_sweep)); (try dsimp only)) | (k_unfold; (try dsimp only)) | (walk1; (try dsimp only)) | (dsimp only; walk1) | fail "no step"))
  refine my_set0 (by k_asm) X (by k_asm) hH (by k_mem) (by k_mem) hx rfl (by k_is) (by k_is) (by k_is) (by k_is) (fun h' es' n' F' N' hH hg => ?_)
  (repeat' ((fail_if_success (with_reducible show wpAny _ _ (exec (Stmt.For _ _ _ _ _) _) _ _ _)); (fail_if_success (with_reducible show wpAny _ _ (exec (Stmt.While _ _ _ _) _) _ _ _)); (fail_if_success (with_reducible show wpAny _ _ (pyIter _) _ _ _)); (fail_if_success (with_reducible show wpAny _ _ (setAttr (Value.ref _) _ _) _ _ _)); (fail_if_success (with_reducible show wpAny _ _ (getAttr (Value.ref _) _ _) _ _ _)); first | (((with_reducible show wpAny _ _ (call (Value.ref 160) _) _ _ _); k_dflt (refine' my_frame ?zF ?zN ?zX ?zT ?zhA ?zhd ?zhu ?_; (case zF => k_asm); (case zN => k_asm); (case zX => k_asm); (case zT => k_asm); (case zhA => rfl); (case zhd => (first | exact room_b (by with_reducible assumption) rfl | exact room_a (by with_reducible assumption) rfl | omega | (simp only [Around.deeper, Around.in1]; omega))); (case zhu => (first | exact room_b (by with_reducible assumption) rfl | exact room_a (by with_reducible assumption) rfl | omega | (simp only [Around.deeper, Around.in1]; omega)))); intro _ _ _ _ _; (try k_sweep)); (try dsimp only)) | (k_unfold; (try dsimp only)) | (walk1; (try dsimp only)) | (dsimp only; walk1) | fail "no step"))
  refine my_setN (by k_asm) X (by k_asm) hH (by k_mem) (by k_mem) (by k_mem) hx rfl (by k_is) (by k_is) (by k_is) (by k_is) (fun h' es' n' F' N' hH => ?_)
  (repeat' ((fail_if_success (with_reducible show wpAny _ _ (exec (Stmt.For _ _ _ _ _) _) _ _ _)); (fail_if_success (with_reducible show wpAny _ _ (exec (Stmt.While _ _ _ _) _) _ _ _)); (fail_if_success (with_reducible show wpAny _ _ (pyIter _) _ _ _)); (fail_if_success (with_reducible show wpAny _ _ (setAttr (Value.ref _) _ _) _ _ _)); (fail_if_success (with_reducible show wpAny _ _ (getAttr (Value.ref _) _ _) _ _ _)); first | (((with_reducible show wpAny _ _ (call (Value.ref 160) _) _ _ _); k_dflt (refine' my_frame ?zF ?zN ?zX ?zT ?zhA ?zhd ?zhu ?_; (case zF => k_asm); (case zN => k_asm); (case zX => k_asm); (case zT => k_asm); (case zhA => rfl); (case zhd => (first | exact room_b (by with_reducible assumption) rfl | exact room_a (by with_reducible assumption) rfl | omega | (simp only [Around.deeper, Around.in1]; omega))); (case zhu => (first | exact room_b (by with_reducible assumption) rfl | exact room_a (by with_reducible assumption) rfl | omega | (simp only [Around.deeper, Around.in1]; omega)))); intro _ _ _ _ _; (try k_sweep)); (try dsimp only)) | (k_unfold; (try dsimp only)) | (walk1; (try dsimp only)) | (dsimp only; walk1) | fail "no step"))
  refine my_set1 (by k_asm) X (by k_asm) hH (by k_mem) (by k_mem) (by k_mem) hx rfl (by decide +kernel) (by k_is) (by k_is) (by k_is) (by k_is) (fun h' es' n' F' N' hH => ?_)
  (repeat' ((fail_if_success (with_reducible show wpAny _ _ (exec (Stmt.For _ _ _ _ _) _) _ _ _)); (fail_if_success (with_reducible show wpAny _ _ (exec (Stmt.While _ _ _ _) _) _ _ _)); (fail_if_success (with_reducible show wpAny _ _ (pyIter _) _ _ _)); (fail_if_success (with_reducible show wpAny _ _ (setAttr (Value.ref _) _ _) _ _ _)); (fail_if_success (with_reducible show wpAny _ _ (getAttr (Value.ref _) _ _) _ _ _)); first | (((with_reducible show wpAny _ _ (call (Value.ref 160) _) _ _ _); k_dflt (refine' my_frame ?zF ?zN ?zX ?zT ?zhA ?zhd ?zhu ?_; (case zF => k_asm); (case zN => k_asm); (case zX => k_asm); (case zT => k_asm); (case zhA => rfl); (case zhd => (first | exact room_b (by with_reducible assumption) rfl | exact room_a (by with_reducible assumption) rfl | omega | (simp only [Around.deeper, Around.in1]; omega))); (case zhu => (first | exact room_b (by with_reducible assumption) rfl | exact room_a (by with_reducible assumption) rfl | omega | (simp only [Around.deeper, Around.in1]; omega)))); intro _ _ _ _ _; (try k_sweep)); (try dsimp only)) | (k_unfold; (try dsimp only)) | (walk1; (try dsimp only)) | (dsimp only; walk1) | fail "no step"))
  refine my_set1 (by k_asm) X (by k_asm) hH (by k_mem) (by k_mem) (by k_mem) hx rfl (by decide +kernel) (by k_is) (by k_is) (by k_is) (by k_is) (fun h' es' n' F' N' hH => ?_)
  (repeat' ((fail_if_success (with_reducible show wpAny _ _ (exec (Stmt.For _ _ _ _ _) _) _ _ _)); (fail_if_success (with_reducible show wpAny _ _ (exec (Stmt.While _ _ _ _) _) _ _ _)); (fail_if_success (with_reducible show wpAny _ _ (pyIter _) _ _ _)); (fail_if_success (with_reducible show wpAny _ _ (setAttr (Value.ref _) _ _) _ _ _)); (fail_if_success (with_reducible show wpAny _ _ (getAttr (Value.ref _) _ _) _ _ _)); first | (((with_reducible show wpAny _ _ (call (Value.ref 160) _) _ _ _); k_dflt (refine' my_frame ?zF ?zN ?zX ?zT ?zhA ?zhd ?zhu ?_; (case zF => k_asm); (case zN => k_asm); (case zX => k_asm); (case zT => k_asm); (case zhA => rfl); (case zhd => (first | exact room_b (by with_reducible assumption) rfl | exact room_a (by with_reducible assumption) rfl | omega | (simp only [Around.deeper, Around.in1]; omega))); (case zhu => (first | exact room_b (by with_reducible assumption) rfl | exact room_a (by with_reducible assumption) rfl | omega | (simp only [Around.deeper, Around.in1]; omega)))); intro _ _ _ _ _; (try k_sweep)); (try dsimp only)) | (k_unfold; (try dsimp only)) | (walk1; (try dsimp only)) | (dsimp only; walk1) | fail "no step"))
  refine my_set1 (by k_asm) X (by k_asm) hH (by k_mem) (by k_mem) (by k_mem) hx rfl (by decide +kernel) (by k_is) (by k_is) (by k_is) (by k_is) (fun h' es' n' F' N' hH => ?_)
  (repeat' ((fail_if_success (with_reducible show wpAny _ _ (exec (Stmt.For _ _ _ _ _) _) _ _ _)); (fail_if_success (with_reducible show wpAny _ _ (exec (Stmt.While _ _ _ _) _) _ _ _)); (fail_if_success (with_reducible show wpAny _ _ (pyIter _) _ _ _)); (fail_if_success (with_reducible show wpAny _ _ (setAttr (Value.ref _) _ _) _ _ _)); (fail_if_success (with_reducible show wpAny _ _ (getAttr (Value.ref _) _ _) _ _ _)); first | (((with_reducible show wpAny _ _ (call (Value.ref 160) _) _ _ _); k_dflt (refine' my_frame ?zF ?zN ?zX ?zT ?zhA ?zhd ?zhu ?_; (case zF => k_asm); (case zN => k_asm); (case zX => k_asm); (case zT => k_asm); (case zhA => rfl); (case zhd => (first | exact room_b (by with_reducible assumption) rfl | exact room_a (by with_reducible assumption) rfl | omega | (simp only [Around.deeper, Around.in1]; omega))); (case zhu => (first | exact room_b (by with_reducible assumption) rfl | exact room_a (by with_reducible assumption) rfl | omega | (simp only [Around.deeper, Around.in1]; omega)))); intro _ _ _ _ _; (try k_sweep)); (try dsimp only)) | (k_unfold; (try dsimp only)) | (walk1; (try dsimp only)) | (dsimp only; walk1) | fail "no step"))
  refine my_set1 (by k_asm) X (by k_asm) hH (by k_mem) (by k_mem) (by k_mem) hx rfl (by decide +kernel) (by k_is) (by k_is) (by k_is) (by k_is) (fun h' es' n' F' N' hH => ?_)
  (repeat' ((fail_if_success (with_reducible show wpAny _ _ (exec (Stmt.For _ _ _ _ _) _) _ _ _)); (fail_if_success (with_reducible show wpAny _ _ (exec (Stmt.While _ _ _ _) _) _ _ _)); (fail_if_success (with_reducible show wpAny _ _ (pyIter _) _ _ _)); (fail_if_success (with_reducible show wpAny _ _ (setAttr (Value.ref _) _ _) _ _ _)); (fail_if_success (with_reducible show wpAny _ _ (getAttr (Value.ref _) _ _) _ _ _)); first | (((with_reducible show wpAny _ _ (call (Value.ref 160) _) _ _ _); k_dflt (refine' my_frame ?zF ?zN ?zX ?zT ?zhA ?zhd ?zhu ?_; (case zF => k_asm); (case zN => k_asm); (case zX => k_asm); (case zT => k_asm); (case zhA => rfl); (case zhd => (first | exact room_b (by with_reducible assumption) rfl | exact room_a (by with_reducible assumption) rfl | omega | (simp only [Around.deeper, Around.in1]; omega))); (case zhu => (first | exact room_b (by with_reducible assumption) rfl | exact room_a (by with_reducible assumption) rfl | omega | (simp only [Around.deeper, Around.in1]; omega)))); intro _ _ _ _ _; (try k_sweep)); (try dsimp only)) | (k_unfold; (try dsimp only)) | (walk1; (try dsimp only)) | (dsimp only; walk1) | fail "no step"))
  refine my_set1 (by k_asm) X (by k_asm) hH (by k_mem) (by k_mem) (by k_mem) hx rfl (by decide +kernel) (by k_is) (by k_is) (by k_is) (by k_is) (fun h' es' n' F' N' hH => ?_)
  (repeat' ((fail_if_success (with_reducible show wpAny _ _ (exec (Stmt.For _ _ _ _ _) _) _ _ _)); (fail_if_success (with_reducible show wpAny _ _ (exec (Stmt.While _ _ _ _) _) _ _ _)); (fail_if_success (with_reducible show wpAny _ _ (pyIter _) _ _ _)); (fail_if_success (with_reducible show wpAny _ _ (setAttr (Value.ref _) _ _) _ _ _)); (fail_if_success (with_reducible show wpAny _ _ (getAttr (Value.ref _) _ _) _ _ _)); first | (((with_reducible show wpAny _ _ (call (Value.ref 160) _) _ _ _); k_dflt (refine' my_frame ?zF ?zN ?zX ?zT ?zhA ?zhd ?zhu ?_; (case zF => k_asm); (case zN => k_asm); (case zX => k_asm); (case zT => k_asm); (case zhA => rfl); (case zhd => (first | exact room_b (by with_reducible assumption) rfl | exact room_a (by with_reducible assumption) rfl | omega | (simp only [Around.deeper, Around.in1]; omega))); (case zhu => (first | exact room_b (by with_reducible assumption) rfl | exact room_a (by with_reducible assumption) rfl | omega | (simp only [Around.deeper, Around.in1]; omega)))); intro _ _ _ _ _; (try k_sweep)); (try dsimp only)) | (k_unfold; (try dsimp only)) | (walk1; (try dsimp only)) | (dsimp only; walk1) | fail "no step"))
  refine my_set1 (by k_asm) X (by k_asm) hH (by k_mem) (by k_mem) (by k_mem) hx rfl (by decide +kernel) (by k_is) (by k_is) (by k_is) (by k_is) (fun h' es' n' F' N' hH => ?_)
  (repeat' ((fail_if_success (with_reducible show wpAny _ _ (exec (Stmt.For _ _ _ _ _) _) _ _ _)); (fail_if_success (with_reducible show wpAny _ _ (exec (Stmt.While _ _ _ _) _) _ _ _)); (fail_if_success (with_reducible show wpAny _ _ (pyIter _) _ _ _)); (fail_if_success (with_reducible show wpAny _ _ (setAttr (Value.ref _) _ _) _ _ _)); (fail_if_success (with_reducible show wpAny _ _ (getAttr (Value.ref _) _ _) _ _ _)); first | (((with_reducible show wpAny _ _ (call (Value.ref 160) _) _ _ _); k_dflt (refine' my_frame ?zF ?zN ?zX ?zT ?zhA ?zhd ?zhu ?_; (case zF => k_asm); (case zN => k_asm); (case zX => k_asm); (case zT => k_asm); (case zhA => rfl); (case zhd => (first | exact room_b (by with_reducible assumption) rfl | exact room_a (by with_reducible assumption) rfl | omega | (simp only [Around.deeper, Around.in1]; omega))); (case zhu => (first | exact room_b (by with_reducible assumption) rfl | exact room_a (by with_reducible assumption) rfl | omega | (simp only [Around.deeper, Around.in1]; omega)))); intro _ _ _ _ _; (try k_sweep)); (try dsimp only)) | (k_unfold; (try dsimp only)) | (walk1; (try dsimp only)) | (dsimp only; walk1) | fail "no step"))
  refine my_set1 (by k_asm) X (by k_asm) hH (by k_mem) (by k_mem) (by k_mem) hx rfl (by decide +kernel) (by k_is) (by k_is) (by k_is) (by k_is) (fun h' es' n' F' N' hH => ?_)
  (repeat' ((fail_if_success (with_reducible show wpAny _ _ (exec (Stmt.For _ _ _ _ _) _) _ _ _)); (fail_if_success (with_reducible show wpAny _ _ (exec (Stmt.While _ _ _ _) _) _ _ _)); (fail_if_success (with_reducible show wpAny _ _ (pyIter _) _ _ _)); (fail_if_success (with_reducible show wpAny _ _ (setAttr (Value.ref _) _ _) _ _ _)); (fail_if_success (with_reducible show wpAny _ _ (getAttr (Value.ref _) _ _) _ _ _)); first | (((with_reducible show wpAny _ _ (call (Value.ref 160) _) _ _ _); k_dflt (refine' my_frame ?zF ?zN ?zX ?zT ?zhA ?zhd ?zhu ?_; (case zF => k_asm); (case zN => k_asm); (case zX => k_asm); (case zT => k_asm); (case zhA => rfl); (case zhd => (first | exact room_b (by with_reducible assumption) rfl | exact room_a (by with_reducible assumption) rfl | omega | (simp only [Around.deeper, Around.in1]; omega))); (case zhu => (first | exact room_b (by with_reducible assumption) rfl | exact room_a (by with_reducible assumption) rfl | omega | (simp only [Around.deeper, Around.in1]; omega)))); intro _ _ _ _ _; (try k_sweep)); (try dsimp only)) | (k_unfold; (try dsimp only)) | (walk1; (try dsimp only)) | (dsimp only; walk1) | fail "no step"))
  refine my_set1 (by k_asm) X (by k_asm) hH (by k_mem) (by k_mem) (by k_mem) hx rfl (by decide +kernel) (by k_is) (by k_is) (by k_is) (by k_is) (fun h' es' n' F' N' hH => ?_)
  (repeat' ((fail_if_success (with_reducible show wpAny _ _ (exec (Stmt.For _ _ _ _ _) _) _ _ _)); (fail_if_success (with_reducible show wpAny _ _ (exec (Stmt.While _ _ _ _) _) _ _ _)); (fail_if_success (with_reducible show wpAny _ _ (pyIter _) _ _ _)); (fail_if_success (with_reducible show wpAny _ _ (setAttr (Value.ref _) _ _) _ _ _)); (fail_if_success (with_reducible show wpAny _ _ (getAttr (Value.ref _) _ _) _ _ _)); first | (((with_reducible show wpAny _ _ (call (Value.ref 160) _) _ _ _); k_dflt (refine' my_frame ?zF ?zN ?zX ?zT ?zhA ?zhd ?zhu ?_; (case zF => k_asm); (case zN => k_asm); (case zX => k_asm); (case zT => k_asm); (case zhA => rfl); (case zhd => (first | exact room_b (by with_reducible assumption) rfl | exact room_a (by with_reducible assumption) rfl | omega | (simp only [Around.deeper, Around.in1]; omega))); (case zhu => (first | exact room_b (by with_reducible assumption) rfl | exact room_a (by with_reducible assumption) rfl | omega | (simp only [Around.deeper, Around.in1]; omega)))); intro _ _ _ _ _; (try k_sweep)); (try dsimp only)) | (k_unfold; (try dsimp only)) | (walk1; (try dsimp only)) | (dsimp only; walk1) | fail "no step"))
  refine my_set1 (by k_asm) X (by k_asm) hH (by k_mem) (by k_mem) (by k_mem) hx rfl (by decide +kernel) (by k_is) (by k_is) (by k_is) (by k_is) (fun h' es' n' F' N' hH => ?_)
  (repeat' ((fail_if_success (with_reducible show wpAny _ _ (exec (Stmt.For _ _ _ _ _) _) _ _ _)); (fail_if_success (with_reducible show wpAny _ _ (exec (Stmt.While _ _ _ _) _) _ _ _)); (fail_if_success (with_reducible show wpAny _ _ (pyIter _) _ _ _)); (fail_if_success (with_reducible show wpAny _ _ (setAttr (Value.ref _) _ _) _ _ _)); (fail_if_success (with_reducible show wpAny _ _ (getAttr (Value.ref _) _ _) _ _ _)); first | (((with_reducible show wpAny _ _ (call (Value.ref 160) _) _ _ _); k_dflt (refine' my_frame ?zF ?zN ?zX ?zT ?zhA ?zhd ?zhu ?_; (case zF => k_asm); (case zN => k_asm); (case zX => k_asm); (case zT => k_asm); (case zhA => rfl); (case zhd => (first | exact room_b (by with_reducible assumption) rfl | exact room_a (by with_reducible assumption) rfl | omega | (simp only [Around.deeper, Around.in1]; omega))); (case zhu => (first | exact room_b (by with_reducible assumption) rfl | exact room_a (by with_reducible assumption) rfl | omega | (simp only [Around.deeper, Around.in1]; omega)))); intro _ _ _ _ _; (try k_sweep)); (try dsimp only)) | (k_unfold; (try dsimp only)) | (walk1; (try dsimp only)) | (dsimp only; walk1) | fail "no step"))
  refine my_set1 (by k_asm) X (by k_asm) hH (by k_mem) (by k_mem) (by k_mem) hx rfl (by decide +kernel) (by k_is) (by k_is) (by k_is) (by k_is) (fun h' es' n' F' N' hH => ?_)
  (repeat' ((fail_if_success (with_reducible show wpAny _ _ (exec (Stmt.For _ _ _ _ _) _) _ _ _)); (fail_if_success (with_reducible show wpAny _ _ (exec (Stmt.While _ _ _ _) _) _ _ _)); (fail_if_success (with_reducible show wpAny _ _ (pyIter _) _ _ _)); (fail_if_success (with_reducible show wpAny _ _ (setAttr (Value.ref _) _ _) _ _ _)); (fail_if_success (with_reducible show wpAny _ _ (getAttr (Value.ref _) _ _) _ _ _)); first | (((with_reducible show wpAny _ _ (call (Value.ref 160) _) _ _ _); k_dflt (refine' my_frame ?zF ?zN ?zX ?zT ?zhA ?zhd ?zhu ?_; (case zF => k_asm); (case zN => k_asm); (case zX => k_asm); (case zT => k_asm); (case zhA => rfl); (case zhd => (first | exact room_b (by with_reducible assumption) rfl | exact room_a (by with_reducible assumption) rfl | omega | (simp only [Around.deeper, Around.in1]; omega))); (case zhu => (first | exact room_b (by with_reducible assumption) rfl | exact room_a (by with_reducible assumption) rfl | omega | (simp only [Around.deeper, Around.in1]; omega)))); intro _ _ _ _ _; (try k_sweep)); (try dsimp only)) | (k_unfold; (try dsimp only)) | (walk1; (try dsimp only)) | (dsimp only; walk1) | fail "no step"))
  refine my_set1 (by k_asm) X (by k_asm) hH (by k_mem) (by k_mem) (by k_mem) hx rfl (by decide +kernel) (by k_is) (by k_is) (by k_is) (by k_is) (fun h' es' n' F' N' hH => ?_)
  (repeat' ((fail_if_success (with_reducible show wpAny _ _ (exec (Stmt.For _ _ _ _ _) _) _ _ _)); (fail_if_success (with_reducible show wpAny _ _ (exec (Stmt.While _ _ _ _) _) _ _ _)); (fail_if_success (with_reducible show wpAny _ _ (pyIter _) _ _ _)); (fail_if_success (with_reducible show wpAny _ _ (setAttr (Value.ref _) _ _) _ _ _)); (fail_if_success (with_reducible show wpAny _ _ (getAttr (Value.ref _) _ _) _ _ _)); first | (((with_reducible show wpAny _ _ (call (Value.ref 160) _) _ _ _); k_dflt (refine' my_frame ?zF ?zN ?zX ?zT ?zhA ?zhd ?zhu ?_; (case zF => k_asm); (case zN => k_asm); (case zX => k_asm); (case zT => k_asm); (case zhA => rfl); (case zhd => (first | exact room_b (by with_reducible assumption) rfl | exact room_a (by with_reducible assumption) rfl | omega | (simp only [Around.deeper, Around.in1]; omega))); (case zhu => (first | exact room_b (by with_reducible assumption) rfl | exact room_a (by with_reducible assumption) rfl | omega | (simp only [Around.deeper, Around.in1]; omega)))); intro _ _ _ _ _; (try k_sweep)); (try dsimp only)) | (k_unfold; (try dsimp only)) | (walk1; (try dsimp only)) | (dsimp only; walk1) | fail "no step"))
  refine my_set1 (by k_asm) X (by k_asm) hH (by k_mem) (by k_mem) (by k_mem) hx rfl (by decide +kernel) (by k_is) (by k_is) (by k_is) (by k_is) (fun h' es' n' F' N' hH => ?_)
  (repeat' ((fail_if_success (with_reducible show wpAny _ _ (exec (Stmt.For _ _ _ _ _) _) _ _ _)); (fail_if_success (with_reducible show wpAny _ _ (exec (Stmt.While _ _ _ _) _) _ _ _)); (fail_if_success (with_reducible show wpAny _ _ (pyIter _) _ _ _)); (fail_if_success (with_reducible show wpAny _ _ (setAttr (Value.ref _) _ _) _ _ _)); (fail_if_success (with_reducible show wpAny _ _ (getAttr (Value.ref _) _ _) _ _ _)); first | (((with_reducible show wpAny _ _ (call (Value.ref 160) _) _ _ _); k_dflt (refine' my_frame ?zF ?zN ?zX ?zT ?zhA ?zhd ?zhu ?_; (case zF => k_asm); (case zN => k_asm); (case zX => k_asm); (case zT => k_asm); (case zhA => rfl); (case zhd => (first | exact room_b (by with_reducible assumption) rfl | exact room_a (by with_reducible assumption) rfl | omega | (simp only [Around.deeper, Around.in1]; omega))); (case zhu => (first | exact room_b (by with_reducible assumption) rfl | exact room_a (by with_reducible assumption) rfl | omega | (simp only [Around.deeper, Around.in1]; omega)))); intro _ _ _ _ _; (try k_sweep)); (try dsimp only)) | (k_unfold; (try dsimp only)) | (walk1; (try dsimp only)) | (dsimp only; walk1) | fail "no step"))
  refine my_set1 (by k_asm) X (by k_asm) hH (by k_mem) (by k_mem) (by k_mem) hx rfl (by decide +kernel) (by k_is) (by k_is) (by k_is) (by k_is) (fun h' es' n' F' N' hH => ?_)
  (repeat' ((fail_if_success (with_reducible show wpAny _ _ (exec (Stmt.For _ _ _ _ _) _) _ _ _)); (fail_if_success (with_reducible show wpAny _ _ (exec (Stmt.While _ _ _ _) _) _ _ _)); (fail_if_success (with_reducible show wpAny _ _ (pyIter _) _ _ _)); (fail_if_success (with_reducible show wpAny _ _ (setAttr (Value.ref _) _ _) _ _ _)); (fail_if_success (with_reducible show wpAny _ _ (getAttr (Value.ref _) _ _) _ _ _)); first | (((with_reducible show wpAny _ _ (call (Value.ref 160) _) _ _ _); k_dflt (refine' my_frame ?zF ?zN ?zX ?zT ?zhA ?zhd ?zhu ?_; (case zF => k_asm); (case zN => k_asm); (case zX => k_asm); (case zT => k_asm); (case zhA => rfl); (case zhd => (first | exact room_b (by with_reducible assumption) rfl | exact room_a (by with_reducible assumption) rfl | omega | (simp only [Around.deeper, Around.in1]; omega))); (case zhu => (first | exact room_b (by with_reducible assumption) rfl | exact room_a (by with_reducible assumption) rfl | omega | (simp only [Around.deeper, Around.in1]; omega)))); intro _ _ _ _ _; (try k_sweep)); (try dsimp only)) | (k_unfold; (try dsimp only)) | (walk1; (try dsimp only)) | (dsimp only; walk1) | fail "no step"))
  refine my_set1 (by k_asm) X (by k_asm) hH (by k_mem) (by k_mem) (by k_mem) hx rfl (by decide +kernel) (by k_is) (by k_is) (by k_is) (by k_is) (fun h' es' n' F' N' hH => ?_)
  (repeat' ((fail_if_success (with_reducible show wpAny _ _ (exec (Stmt.For _ _ _ _ _) _) _ _ _)); (fail_if_success (with_reducible show wpAny _ _ (exec (Stmt.While _ _ _ _) _) _ _ _)); (fail_if_success (with_reducible show wpAny _ _ (pyIter _) _ _ _)); (fail_if_success (with_reducible show wpAny _ _ (setAttr (Value.ref _) _ _) _ _ _)); (fail_if_success (with_reducible show wpAny _ _ (getAttr (Value.ref _) _ _) _ _ _)); first | (((with_reducible show wpAny _ _ (call (Value.ref 160) _) _ _ _); k_dflt (refine' my_frame ?zF ?zN ?zX ?zT ?zhA ?zhd ?zhu ?_; (case zF => k_asm); (case zN => k_asm); (case zX => k_asm); (case zT => k_asm); (case zhA => rfl); (case zhd => (first | exact room_b (by with_reducible assumption) rfl | exact room_a (by with_reducible assumption) rfl | omega | (simp only [Around.deeper, Around.in1]; omega))); (case zhu => (first | exact room_b (by with_reducible assumption) rfl | exact room_a (by with_reducible assumption) rfl | omega | (simp only [Around.deeper, Around.in1]; omega)))); intro _ _ _ _ _; (try k_sweep)); (try dsimp only)) | (k_unfold; (try dsimp only)) | (walk1; (try dsimp only)) | (dsimp only; walk1) | fail "no step"))
  exact hret _ _ _ _ _ _ (by assumption) (by assumption) (fun _ h => h) ⟨rfl, _, _, _, rfl, hH.notes _ rfl⟩
theorem con_host (w : World) : Con w 259 6 201 [] [] (fun v new => ∃ (x dx : Addr) (es : List DictEntry) (n : Nat) (l : Addr), v = .ref x ∧ new = [(x, instObj 259 dx), (dx, dictOf es n), (l, listOf #[] 0)] ∧ getL (Str.ofString "notes") es = some (some (.ref l))) := by
  ((have hfill : ∀ P : Params, PySem.Challenge.rw_pc0254_01.row.prog = PySem.Challenge.rw_pc0254_01.row.prog ∧ hd.heap_39 P = hd.heap_39 P := fun _ => ⟨rfl, rfl⟩); revert hfill; k_fill; intro hfill; clear hfill)
  intro mean mg mb A s Q g hg hsz G hold hA hdp hun hret
  refine con_make (w := w) (C := 259) (R := fun x dx new => ∃ es n l, new = [(x, instObj 259 dx), (dx, dictOf es n), (l, listOf #[] 0)] ∧ getL (Str.ofString "notes") es = some (some (.ref l))) ?m ?i ?f (fun x dx h => conc_host_init w x dx h) mean mg mb A s Q g hg hsz G hold hA hdp hun ?_
  case m => k_is
  case i => k_is
  case f => k_is
  intro v new h' tk h1 h2 ⟨x, dx, e1, es, n, l, e2, e3⟩
  exact hret v new h' tk h1 h2 ⟨x, dx, es, n, l, e1, e2, e3⟩
end
section
section
variable {A : Around} {E : Value → Shared → Prop} {h : Heap} {g : Array GenState} {d : Drawn} {t : Nat} {os : OsState}
variable {nm q : Str} {C N : Addr} {bs bm : List Value} {hdct : Bool} {sn : List Str} {sub : List Value} {ab : Bool} {col : Option Bool} {dd : Option Addr} {k0 k1 k2 k3 k5 : Option Value}
theorem x_check_new {M : Model} {rest : List Value} {Q : Unit → Shared → Prop} (hb : bm.contains (.type "Exception") = true) (hC : h.get? C = some (excClassObj nm q C N bs bm hdct sn sub ab col dd k0 k1 k2 k3 k5 "Exception.__new__"))
    (hq : Q () ⟨h, g, d, t, os⟩) : wpAny M A (checkBuiltinCall "Exception.__new__" ⟨.ref C :: rest, []⟩) Q E ⟨h, g, d, t, os⟩ := by
  have F := PySem.F.excBase_Exception
  have hc : (Value.ref C :: bm).contains (.type "Exception") = true := by rw [List.contains_cons, hb, Bool.or_true]
  have hs := F.noStar
  simp only [checkBuiltinCall, F.newKind, F.newSplit, F.newRow]
  repeat (first | refine wpAny_loadPart_at hC ?_ | (refine wpAny_isSubtype_exc hC ?_; rw [hc]) | refine wpAny_staticBase_exc hC ?_ | refine wpAny_madeBy_exc hC ?_ | simp only [bne_self_eq_false, Bool.false_eq_true, if_false] | wp_step)
  exact hq
noncomputable abbrev excObj (C T : Addr) : Obj := { cls := .ref C, data := .fields #[.ref T, .none, .none, .none, .bool false, .none] }
noncomputable abbrev tupObj (l : List Value) : Obj := { cls := .type "tuple", data := .seq l.toArray }
theorem x_new {prog : Program} {w : World} {R : Result → Shared → Prop} {rest : List Value} (hb : bm.contains (.type "Exception") = true) (ha : bm.contains (.type "AttributeError") = false) (hn : bm.contains (.type "NameError") = false)
    (hC : h.get? C = some (excClassObj nm q C N bs bm hdct sn sub ab col dd k0 k1 k2 k3 k5 "Exception.__new__"))
    (hq : R (.ok (.ret (.ref (h.objs.size + 1)))) ⟨(h.push (tupObj rest)).push (excObj C h.objs.size), g, d, t, os⟩) (hz : rest.length ≤ sizeLine) :
    codeAny (model prog w) A (.builtin "Exception.__new__" ⟨.ref C :: rest, []⟩) R ⟨h, g, d, t, os⟩ := by
  have F := PySem.F.excBase_Exception
  have he := F.ends
  have c1 : (Value.ref C :: bm).contains (.type "Exception") = true := by rw [List.contains_cons, hb, Bool.or_true]
  have c2 : (Value.ref C :: bm).contains (.type "AttributeError") = false := by rw [List.contains_cons, ha]; rfl
  have c3 : (Value.ref C :: bm).contains (.type "NameError") = false := by rw [List.contains_cons, hn]; rfl
  refine codeAny_builtinAt F.entry ?_
  unfold Builtin.«BaseException.__new__»
  refine PySem.wpAt_bind ?_
  show PySem.wpAt _ _ _ (stack >>= _) _ _ _
  refine PySem.wpAt_bind (PySem.wpAt_stack fun p below => PySem.wpAt_of_wpAny ?_)
  wp_walk
  refine PySem.wpAt_of_wpAny ?_
  rw [F.owner]
  repeat (first | with_reducible refine wpAny_madeHere_exc F.canon hC ?_ | with_reducible refine wpAny_loadPart_at hC ?_ | (with_reducible refine wpAny_isSubtype_exc hC ?_; first | rw [c1] | rw [c2] | rw [c3]) | wp_step)
  show R _ _
  rw [Heap.size_push]
  exact hq
theorem x_type_call {prog : Program} {w : World} {rest : List Value} {fI : Addr} {Q : Fin → Shared → Prop}
    (hb : bm.contains (.type "Exception") = true) (ha : bm.contains (.type "AttributeError") = false) (hn : bm.contains (.type "NameError") = false)
    (hC : h.get? C = some (excClassObj nm q C N bs bm hdct sn sub ab col dd k0 k1 k2 k3 k5 "Exception.__new__"))
    (hi : Looks (model prog w) h (typeLookup (.ref C) "__init__") (some (.ref fI))) (hf : ∀ self, Looks (model prog w) h (bindSpecial (.ref fI) self) (.ref fI, [self]))
    (hq : wpAny (model prog w) A (call (.ref fI) (.ref (h.objs.size + 1) :: rest)) (fun r s' => r = .none ∧ Q (.done (.ret (.ref (h.objs.size + 1)))) s') E ⟨(h.push (tupObj rest)).push (excObj C h.objs.size), g, d, t, os⟩) (hz : rest.length ≤ sizeLine) :
    wpAny (model prog w) A (Builtin.«type.__call__» ⟨.ref C :: rest, []⟩) Q E ⟨h, g, d, t, os⟩ := by
  have F := PySem.F.excBase_Exception
  repeat (first | with_reducible refine wpAny_loadPart_at hC ?_ | with_reducible refine wpAny_madeBy_exc hC ?_ | wp_step)
  refine codeAny_call_builtin_code (Code.quiet_builtin _ F.quiet) (x_check_new hb hC ?_)
  refine x_new hb ha hn hC ?_ hz
  show wpAny _ _ _ _ _ _
  have kk : ∀ b o, h.get? b = some o → ((h.push (tupObj rest)).push (excObj C h.objs.size)).get? b = some o := fun b o e => Heap.get?_push_of_some _ (Heap.get?_push_of_some _ e)
  have hC1 := kk _ _ hC
  have hget : ((h.push (tupObj rest)).push (excObj C h.objs.size)).get? (h.objs.size + 1) = some (excObj C h.objs.size) := by heap_get
  have hcC : (Value.ref C :: bm).contains (.ref C) = true := by simp
  unfold isInstance
  repeat (first | with_reducible refine wpAny_loadPart_at hget ?_ | (with_reducible refine wpAny_isSubtype_exc hC1 ?_; rw [hcC]) | wp_step)
  show wpAny _ _ (typeLookup (.ref C) _) _ _ _
  refine (hi.keeps kk).at ?_
  refine wpAny_holding (wpAny_bind ?_)
  refine ((hf _).keeps kk).at ?_
  refine wpAny_bind (wpAny_mono hq (fun r s' hr => ?_) fun _ _ x => x)
  obtain ⟨rfl, hQ⟩ := hr
  wp_walk
  exact hQ
theorem x_call {prog : Program} {w : World} {rest : List Value} {fI : Addr} {Q : Value → Shared → Prop}
    (hb : bm.contains (.type "Exception") = true) (ha : bm.contains (.type "AttributeError") = false) (hn : bm.contains (.type "NameError") = false)
    (hC : h.get? C = some (excClassObj nm q C N bs bm hdct sn sub ab col dd k0 k1 k2 k3 k5 "Exception.__new__"))
    (hi : Looks (model prog w) h (typeLookup (.ref C) "__init__") (some (.ref fI))) (hf : ∀ self, Looks (model prog w) h (bindSpecial (.ref fI) self) (.ref fI, [self]))
    (hq : wpAny (model prog w) (A.under (.builtin "type.__call__" ⟨.ref C :: rest, []⟩)) (call (.ref fI) (.ref (h.objs.size + 1) :: rest)) (fun r s' => r = .none ∧ Q (.ref (h.objs.size + 1)) s') E ⟨(h.push (tupObj rest)).push (excObj C h.objs.size), g, d, t, os⟩) (hz : rest.length ≤ sizeLine) :
    wpAny (model prog w) A (call (.ref C) rest) Q E ⟨h, g, d, t, os⟩ := by
  have f1 := tc_lookup
  have f2 := tc_bind (.ref C)
  have hT : (⟨h, g, d, t, os⟩ : Shared).TypeIs (.ref C) "type" := ⟨_, hC, rfl⟩
  refine wpAny_call (codeAny_of_tree ?_)
  show wpAny _ _ (callAny (.ref C) _) _ _ _
  repeat (any_goals (first | assumption | with_reducible refine wpAny_loadPart_at hC ?_ | wp_step))
  refine ⟨rfl, ?_⟩
  refine codeAny_call_builtin_at (Code.quiet_builtin _ (by decide +kernel)) entry_typeCall (wpAny_check_type_call_sub hC (x_type_call hb ha hn hC hi hf ?_ hz))
  exact hq
end
end
section
theorem meta_Exception : typeOf (.type "Exception") = pure (.type "type") := by kernel_rfl
section
variable {A : Around} {E : Value → Shared → Prop} {h : Heap} {g : Array GenState} {d : Drawn} {t : Nat} {os : OsState}
variable {nm q : Str} {C N : Addr} {bs bm : List Value} {hdct : Bool} {sn : List Str} {sub : List Value} {ab : Bool} {col : Option Bool} {dd : Option Addr} {k0 k1 k2 k3 k5 : Option Value}
theorem x_check_init {M : Model} {e : Addr} {oe : Obj} {rest : List Value} {Q : Unit → Shared → Prop} (hb : bm.contains (.type "Exception") = true)
    (hC : h.get? C = some (excClassObj nm q C N bs bm hdct sn sub ab col dd k0 k1 k2 k3 k5 "Exception.__new__")) (he : h.get? e = some oe) (hcls : oe.cls = .ref C) (hq : Q () ⟨h, g, d, t, os⟩) :
    wpAny M A (checkBuiltinCall "Exception.__init__" ⟨.ref e :: rest, []⟩) Q E ⟨h, g, d, t, os⟩ := by
  have F := PySem.F.excBase_Exception
  have c1 : (Value.ref C :: bm).contains (.type "Exception") = true := by rw [List.contains_cons, hb, Bool.or_true]
  have hs := F.noStar
  simp only [checkBuiltinCall, F.initKind, F.initSplit, F.initRow]
  repeat (first | (with_reducible refine wpAny_loadPart_at he ?_; rw [hcls]) | with_reducible refine wpAny_loadPart_at hC ?_ | (with_reducible refine wpAny_isSubtype_exc hC ?_; rw [c1]) | wp_step)
  refine wpAny_onRaise ?_
  rw [show ∀ (a b : String) (n : Nat), Bind.check ⟨.positional, "*", "Exception", .self, [⟨"args", .varPos, false⟩]⟩ a b n (List.map (fun x => x.fst) ({ pos := Value.ref e :: rest } : Args).kw) = pure () from
    fun a b n => check_star_args _ _ _ _ _ _]
  exact wpAny_pure hq
theorem x_init {prog : Program} {w : World} {e T : Addr} {rest : List Value} {Q : Value → Shared → Prop} (hb : bm.contains (.type "Exception") = true)
    (hC : h.get? C = some (excClassObj nm q C N bs bm hdct sn sub ab col dd k0 k1 k2 k3 k5 "Exception.__new__")) (he : h.get? e = some (excObj C T))
    (hq : ∀ h', (∀ b o, h.get? b = some o → b ≠ e → h'.get? b = some o) → h'.get? e = some (excObj C h.objs.size) → h.objs.size ≤ h'.objs.size → Q .none ⟨h', g, d, t, os⟩) (hz : rest.length ≤ sizeLine) :
    wpAny (model prog w) A (call (.builtin "Exception.__init__") (.ref e :: rest)) Q E ⟨h, g, d, t, os⟩ := by
  have F := PySem.F.excBase_Exception
  refine wpAny_call (codeAny_call_builtin F.init.plain F.initEntry (x_check_init hb hC he rfl ?_))
  wp_walk
  have hpush : (h.push (tupObj rest)).get? e = some (excObj C T) := Heap.get?_push_of_some _ he
  refine hq _ (fun b o hb hne => ?_) ?_ ?_
  · rw [Heap.get?_update_other _ _ (Ne.symm hne)]
    exact Heap.get?_push_of_some _ hb
  · exact Heap.get?_update_self (Obj.mapFields fun x => x.setIfInBounds 0 (Value.ref h.objs.size)) hpush rfl
  · rw [Heap.size_after_update, Heap.size_push]
    exact Nat.le_succ _
end
theorem refuse_lo (self : Value) : refuseLoop self "__setattr__" [.ref 51, .ref 38, .type "Exception", .type "BaseException", .type "object"] = pure () := by
  rw [refuseLoop_ref, refuseLoop_ref]
  exact PySem.F.store_Exception.passes self
section
variable {w : World} {A : Around} {E : Value → Shared → Prop} {s : Shared}
theorem x_set_why {K : Frag} {e T : Addr} {cd : ClassData} {name : Str} {v : Value} {Q : Unit → Shared → Prop} {prog : Program} (X : K.In s.heap) (he : s.heap.get? e = some (excObj 51 T)) (hc : clsIn K 51 = some cd)
    (hm : cd.mro = [.ref 51, .ref 38, .type "Exception", .type "BaseException", .type "object"]) (hd : cd.hasDict = true)
    (hs : findIn K (.ref 51) "__setattr__" = some (some (.builtin "object.__setattr__"))) (ht : findIn K (.ref 51) name = some none)
    (hq : ∀ h' tk D, (∀ b o, s.heap.get? b = some o → b ≠ e → h'.get? b = some o) → h'.get? e = some { excObj 51 T with dict := some D } → s.heap.objs.size ≤ h'.objs.size → Q () { s with heap := h', toks := tk }) :
    wpAny (model prog w) A (setAttr (.ref e) name v) Q E s := by
  have I : InstAt s.heap e (excObj 51 T) 51 none := ⟨he, rfl, rfl, trivial⟩
  refine set_plain X I hs ?_
  have SF := PySem.F.store_object
  obtain ⟨h, gg, dd, tt, os⟩ := s
  replace X : K.In h := X
  replace I : InstAt h e (excObj 51 T) 51 none := I
  replace he : h.get? e = some (excObj 51 T) := he
  dsimp only
  have sub : Looks (model prog w) h (isInstance (.ref e) (.type "object")) true := I.type.andThen (looks_mroIn X (by unfold mroIn; rw [hc, Option.bind_some, hm]; rfl))
  refine codeAny_call_builtin SF.slot.plain SF.entry (@check_slot (model prog w) _ _ _ "object.__setattr__" "object" "__setattr__" (.ref e) [.str name tt, v] [] _ SF.kind SF.split sub (SF.args (.ref e) (.str name tt) v) ?_)
  have hm' : Looks (model prog w) h (mroOf (.ref 51)) cd.mro := (looks_clsIn X hc).andThen .now
  have L3 : Looks (model prog w) h (PySem.Builtin.ObjectAttr.storeTaker? none) none := .now
  rw [osa_eq, refuse_eq]
  refine wpAny_bind (wpAny_bind (I.type.here (wpAny_bind (hm'.here ?_))))
  rw [hm, refuse_lo]
  refine wpAny_pure (wpAny_bind (I.type.here (wpAny_bind ((looks_findIn X ht).here (wpAny_bind (L3.here ?_))))))
  refine wpAny_bind (wpAny_pure (wpAny_bind (wpAny_bind (wpAny_loadPart he (wpAny_bind ((looks_clsIn X hc).here ?_))))))
  rw [hd]
  show wpAny _ _ (alloc emptyDict >>= fun D => (update e fun o => { o with dict := some D }) >>= fun _ => dictMade (.ref 51) e D) _ _ _
  have hxs : e ≠ h.objs.size := Nat.ne_of_lt (Heap.lt_size he)
  have hx1 : (h.push emptyDict).get? e = some (excObj 51 T) := Heap.get?_push_of_some _ he
  refine wpAny_bind (wpAny_alloc' ?_)
  refine wpAny_bind (wpAny_update' hx1 ?_)
  refine wpAny_pure ?_
  have hgd : ((h.push emptyDict).update e fun o => { o with dict := some h.objs.size }).get? h.objs.size = some emptyDict :=
    (Heap.get?_update_ne _ _ _ _ hxs.symm).trans (Heap.get?_push_at rfl rfl)
  have hnd : ((h.push emptyDict).update e fun o => { o with dict := some h.objs.size }).Ns h.objs.size (fun _ => none) :=
    ⟨_, #[], _, hgd, rfl, fun e he => absurd he (by simp), fun _ => rfl⟩
  refine wpAny_bind (wpAny_pure ?_)
  refine wpAny_bind (wpAny_nsSet1 (Heap.Ns1.of_empty hnd) fun h' hn' hs' => ?_)
  obtain ⟨oD, esD, epD, hoD, hdD, hcD⟩ := hn'.count (Within.cons name v Within.nil)
  refine wpAny_bind (wpAny_lookBehind hoD (by rw [hdD]; exact pastItsLine_dict (Nat.le_trans hcD (by rw [List.length_cons, List.length_nil, sizeLine_eq]; omega))) ?_)
  have hx2 : ((h.push emptyDict).update e fun o => { o with dict := some h.objs.size }).get? e = some { excObj 51 T with dict := some h.objs.size } := Heap.get?_update_self (fun o => { o with dict := some h.objs.size }) hx1 rfl
  refine wpAny_pure (hq h' _ h.objs.size (fun b o hb hne => ?_) ((hs'.2 e hxs).trans hx2) ?_)
  · exact (hs'.2 b (Nat.ne_of_lt (Heap.lt_size hb))).trans ((Heap.get?_update_ne _ _ _ _ hne).trans (Heap.get?_push_of_some _ hb))
  · rw [hs'.1, Heap.size_after_update, Heap.size_push]
    exact Nat.le_succ _
end
theorem turn_one {g h h' : Heap} {L e : Addr} {o o' : Obj} {m : Str → Option Value} (F : Fr g L h m) (N : News g L h [(e, o)]) (hk : ∀ b ob, h.get? b = some ob → b ≠ e → h'.get? b = some ob) (he : h'.get? e = some o') :
    Fr g L h' m ∧ News g L h' [(e, o')] := by
  obtain ⟨n1, n2, n3⟩ := N (e, o) List.mem_cons_self
  obtain ⟨oL, es, ep, hL, hLd, hLk, hLf⟩ := F.ns
  refine ⟨⟨⟨oL, es, ep, hk _ _ hL (Ne.symm n2), hLd, hLk, hLf⟩, fun b ob hb => hk _ _ (F.keep b ob hb) (fun q => ?_), F.above⟩, fun p hp => ?_⟩
  · dsimp only at n3; rw [← q, hb] at n3; cases n3
  · rw [List.mem_singleton.mp hp]; exact ⟨he, n2, n3⟩
theorem con_fault_init (w : World) (e T : Addr) (why : Str) (tw : Tok) : Con w 35 2 60 [(e, excObj 51 T)] [.ref e, .str why tw] (fun v new => v = .none ∧ ∃ D T', new = [(e, { excObj 51 T' with dict := some D })]) := by
  ((have hfill : ∀ P : Params, PySem.Challenge.rw_pc0254_01.row.prog = PySem.Challenge.rw_pc0254_01.row.prog ∧ hd.heap_39 P = hd.heap_39 P := fun _ => ⟨rfl, rfl⟩); revert hfill; k_fill; intro hfill; clear hfill)
  k_dflt (refine' con_enter (binds := [(Str.ofString "self", .ref e), (Str.ofString "why", .str why tw)]) ?k6 ?k7 ?k9 ?kB ?k8 ?_ ?c5 ?c2 ?c3 ?c4; ((case k6 => k_is); (case k7 => k_is); (case k8 => decide); (case k9 => exact fun _ => BindsTo.of_eq rfl); (case c5 => decide); (case kB => exact locs rfl); (case c2 => exact rfl); (case c3 => exact rfl); (case c4 => exact rfl)))
  intro mean mg mb dp fr gd un s Q g L h₁ F N X T hdp hun hret
  (try k_fold)
  (repeat' ((fail_if_success (with_reducible show wpAny _ _ (exec (Stmt.For _ _ _ _ _) _) _ _ _)); (fail_if_success (with_reducible show wpAny _ _ (exec (Stmt.While _ _ _ _) _) _ _ _)); (fail_if_success (with_reducible show wpAny _ _ (pyIter _) _ _ _)); first | (((with_reducible show wpAny _ _ (getMethod (Value.type _) _ _) _ _ _); (refine' method_type ?zF ?zX meta_Exception (by decide +kernel) ?ze ?zh ?_; (case zF => k_asm); (case zX => k_asm); (case ze => k_dflt k_is); (case zh => k_handed))); (try dsimp only)) | (k_unfold; (try dsimp only)) | (walk1; (try dsimp only)) | (dsimp only; walk1) | fail "no step"))
  have hC : h₁.get? 51 = _ := F.keep _ _ (X _ _ (show (hd.heap_39 w.params).lookup 51 = some _ by k_is))
  refine x_init (nm := Str.ofString "LeftOut") (q := Str.ofString "LeftOut") (C := 51) (N := 50) (bs := [.ref 38]) (bm := [.ref 38, .type "Exception", .type "BaseException", .type "object"]) (hdct := true) (sn := []) (sub := []) (ab := false) (col := none) (dd := none) (by decide) hC (N _ List.mem_cons_self).1 ?_ (by rw [PySem.sizeLine_eq]; show 1 ≤ 16777216; decide)
  intro h' hk he hz
  obtain ⟨F', N'⟩ := turn_one F N hk he
  clear F N hk he
  (repeat' ((fail_if_success (with_reducible show wpAny _ _ (exec (Stmt.For _ _ _ _ _) _) _ _ _)); (fail_if_success (with_reducible show wpAny _ _ (exec (Stmt.While _ _ _ _) _) _ _ _)); (fail_if_success (with_reducible show wpAny _ _ (pyIter _) _ _ _)); first | (((with_reducible show wpAny _ _ (getMethod (Value.type _) _ _) _ _ _); (refine' method_type ?zF ?zX meta_Exception (by decide +kernel) ?ze ?zh ?_; (case zF => k_asm); (case zX => k_asm); (case ze => k_dflt k_is); (case zh => k_handed))); (try dsimp only)) | (k_unfold; (try dsimp only)) | (walk1; (try dsimp only)) | (dsimp only; walk1) | fail "no step"))
  have hcl : clsIn (hd.heap_39 w.params) 51 = some { name := Str.ofString "LeftOut", bases := [.ref 38], mro := [.ref 51, .ref 38, .type "Exception", .type "BaseException", .type "object"], ns := 50, qualname := Str.ofString "LeftOut" } := by
    have hl : (hd.heap_39 w.params).lookup 51 = some { cls := .type "type", data := .cls { name := Str.ofString "LeftOut", bases := [.ref 38], mro := [.ref 51, .ref 38, .type "Exception", .type "BaseException", .type "object"], ns := 50, qualname := Str.ofString "LeftOut" }, slots := #[some (.ref 42), none, some (.str (Str.ofString "LeftOut") 225), some (.str (Str.ofString "LeftOut") 233), some (.builtin "Exception.__new__"), some (.bool true)] } := by
      refine Eq.trans ?z rfl
      case z => k_is
    unfold clsIn
    rw [hl]
  refine x_set_why (Frag.In.keeps X (Fr.keep (by k_asm))) (News.get (by k_asm) (by k_mem)) hcl ?hm ?hd ?hs ?ht ?_
  case hm => rfl
  case hd => rfl
  case hs => k_is
  case ht => k_is
  intro h2 tk2 D hk he hz2
  dsimp only at hk he hz2
  obtain ⟨F2, N2⟩ := turn_one (by k_asm) (by k_asm) hk he
  (repeat' ((fail_if_success (with_reducible show wpAny _ _ (exec (Stmt.For _ _ _ _ _) _) _ _ _)); (fail_if_success (with_reducible show wpAny _ _ (exec (Stmt.While _ _ _ _) _) _ _ _)); (fail_if_success (with_reducible show wpAny _ _ (pyIter _) _ _ _)); first | (((with_reducible show wpAny _ _ (getMethod (Value.type _) _ _) _ _ _); (refine' method_type ?zF ?zX meta_Exception (by decide +kernel) ?ze ?zh ?_; (case zF => k_asm); (case zX => k_asm); (case ze => k_dflt k_is); (case zh => k_handed))); (try dsimp only)) | (k_unfold; (try dsimp only)) | (walk1; (try dsimp only)) | (dsimp only; walk1) | fail "no step"))
  exact hret _ [_] _ _ _ _ F2 N2 sub_rfl ⟨rfl, _, _, rfl⟩
end
section
theorem lo_lookup (w : World) : (hd.heap_39 w.params).lookup 51 = some (excClassObj (Str.ofString "LeftOut") (Str.ofString "LeftOut") 51 50 [.ref 38] [.ref 38, .type "Exception", .type "BaseException", .type "object"] true [] [] false none none (some (.ref 42)) none (some (.str (Str.ofString "LeftOut") 225)) (some (.str (Str.ofString "LeftOut") 233)) (some (.bool true)) "Exception.__new__") := by
  ((have hfill : ∀ P : Params, PySem.Challenge.rw_pc0254_01.row.prog = PySem.Challenge.rw_pc0254_01.row.prog ∧ hd.heap_39 P = hd.heap_39 P := fun _ => ⟨rfl, rfl⟩); revert hfill; k_fill; intro hfill; clear hfill)
  refine Eq.trans ?z rfl
  case z => k_is
theorem lo_init (w : World) : findIn (hd.heap_39 w.params) (.ref 51) "__init__" = some (some (.ref 35)) := by
  ((have hfill : ∀ P : Params, PySem.Challenge.rw_pc0254_01.row.prog = PySem.Challenge.rw_pc0254_01.row.prog ∧ hd.heap_39 P = hd.heap_39 P := fun _ => ⟨rfl, rfl⟩); revert hfill; k_fill; intro hfill; clear hfill)
  refine Eq.trans ?z rfl
  case z => k_is
theorem lo_fn (w : World) : typeIn (hd.heap_39 w.params) (.ref 35) = some (.type "function") := by
  ((have hfill : ∀ P : Params, PySem.Challenge.rw_pc0254_01.row.prog = PySem.Challenge.rw_pc0254_01.row.prog ∧ hd.heap_39 P = hd.heap_39 P := fun _ => ⟨rfl, rfl⟩); revert hfill; k_fill; intro hfill; clear hfill)
  refine Eq.trans ?z rfl
  case z => k_is
theorem con_leftout (w : World) (why : Str) (tw : Tok) : Con w 51 3 61 [] [.str why tw] (fun v new => ∃ e D T, v = .ref e ∧ new = [(e, { excObj 51 T with dict := some D })]) := by
  intro mean mg mb A s Q g hg hsz G hold hA hdp hun hret
  obtain ⟨hh, gg, dd, tt, os⟩ := s
  have X := G.k.keeps hg
  refine x_call (by decide) (by decide) (by decide) (X _ _ (lo_lookup w)) (looks_findIn X (lo_init w)) (fun self => bind_fn X self (lo_fn w)) ?_ (by rw [PySem.sizeLine_eq]; show 1 ≤ 16777216; decide)
  have kk : ∀ b o, hh.get? b = some o → ((hh.push (tupObj [.str why tw])).push (excObj 51 hh.objs.size)).get? b = some o := fun b o e => Heap.get?_push_of_some _ (Heap.get?_push_of_some _ e)
  have hx : ((hh.push (tupObj [.str why tw])).push (excObj 51 hh.objs.size)).get? (hh.objs.size + 1) = some (excObj 51 hh.objs.size) := by heap_get
  refine wpAny_mono (con_fault_init w (hh.objs.size + 1) hh.objs.size why tw mean mg mb (A.under (.builtin "type.__call__" ⟨[.ref 51, .str why tw], []⟩)) ⟨_, gg, dd, tt, os⟩ (fun r s' => r = .none ∧ Q (.ref (hh.objs.size + 1)) s') g (fun b o e => kk b o (hg b o e)) (by simp only [Heap.size_push]; exact Nat.le_succ_of_le (Nat.le_succ_of_le hsz)) G ?_ hA (by rw [depth_under_make]; omega) (by rw [units_under_make]; omega) ?_) (fun _ _ x => x) (fun _ _ x => x.elim)
  · intro p hp
    rw [List.mem_singleton.mp hp]
    exact ⟨hx, Heap.get?_none_of_le (Nat.le_succ_of_le hsz)⟩
  · intro v new h' tk h1 h2 ⟨hv, D, T, hn⟩
    exact ⟨hv, hret _ new h' tk h1 h2 ⟨_, D, T, rfl, hn⟩⟩
section
variable {A : Around} {E : Value → Shared → Prop} {env : Env} {prog : Program} {w : World}
variable {nm q : Str} {C N : Addr} {bs bm : List Value} {hdct : Bool} {sn : List Str} {sub : List Value} {ab : Bool} {col : Option Bool} {dd : Option Addr} {k0 k1 k2 k3 k5 : Option Value} {newId : String}
theorem x_raiseStmt {M : Model} {s : Shared} {x : Sem Value} {Q : Flow → Shared → Prop} (hbase : bm.contains (.type "BaseException") = true) (hh : A.handled = none)
    (h : wpAny M A x (fun v s₁ => ∃ e T D, v = .ref e ∧ s₁.heap.get? C = some (excClassObj nm q C N bs bm hdct sn sub ab col dd k0 k1 k2 k3 k5 newId) ∧
      s₁.heap.get? e = some { excObj C T with dict := some D } ∧ E (.ref e) s₁) E s) :
    wpAny M A (raiseStmt env (some x) none) Q E s := by
  have hcB : (Value.ref C :: bm).contains (.type "BaseException") = true := by rw [List.contains_cons, hbase, Bool.or_true]
  unfold raiseStmt
  refine wpAny_bind (wpAny_mono h (fun v s₁ h₁ => ?_) fun _ _ x => x)
  obtain ⟨e, T, D, rfl, hC, he, hE⟩ := h₁
  obtain ⟨hp, g, d, tk, os⟩ := s₁
  repeat (first | with_reducible refine wpAny_loadPart_at he ?_ | with_reducible refine wpAny_loadPart_at hC ?_ | (with_reducible refine wpAny_isSubtype_exc hC ?_; rw [hcB]) | wp_step)
  exact wpAny_raiseNew_none hh hE
theorem x_raise {s : Shared} {x : Expr} {pos : Pos} {Q : Flow → Shared → Prop} (hbase : bm.contains (.type "BaseException") = true) (hh : A.handled = none)
    (h : wpAny (model prog w) A (eval x env) (fun v s₁ => ∃ e T D, v = .ref e ∧ s₁.heap.get? C = some (excClassObj nm q C N bs bm hdct sn sub ab col dd k0 k1 k2 k3 k5 newId) ∧
      s₁.heap.get? e = some { excObj C T with dict := some D } ∧ E (.ref e) s₁) E s) :
    wpAny (model prog w) A (exec (.Raise (some x) none pos) env) Q E s := by
  rw [arm_exec_Raise]
  simp only [evalOpt, Option.map]
  exact wpAny_bind (wpAny_standAt (x_raiseStmt (C := C) (nm := nm) (q := q) (N := N) (bs := bs) (bm := bm) (hdct := hdct) (sn := sn) (sub := sub) (ab := ab) (col := col) (dd := dd) (k0 := k0) (k1 := k1) (k2 := k2) (k3 := k3) (k5 := k5) (newId := newId) hbase hh (wpAny_bind (wpAny_mono h (fun v s₁ z => wpAny_bind (wpAny_standAt (wpAny_pure z))) fun _ _ x => x))))
end
end
section
noncomputable def FrOk : List Env → List (Addr × Obj) → Prop
  | [], [] => True
  | env :: r, p :: l => env.scope.kind ≠ .module ∧ env.frame = some p.1 ∧ (∀ vs, p.2.data ≠ .fields vs) ∧ FrOk r l
  | _, _ => False
theorem FrOk.funFrames {g h : Heap} : ∀ {fr : List Env} {fl : List (Addr × Obj)}, FrOk fr fl → (∀ p ∈ fl, h.get? p.1 = some p.2 ∧ g.get? p.1 = none) → h.FunFrames g fr
  | [], [], _, _ => trivial
  | _ :: _, p :: _, H, N => ⟨H.1, ⟨p.1, p.2, H.2.1, (N p List.mem_cons_self).2, (N p List.mem_cons_self).1, H.2.2.1⟩, FrOk.funFrames H.2.2.2 fun q hq => N q (List.mem_cons_of_mem _ hq)⟩
  | [], _ :: _, H, _ => H.elim
  | _ :: _, [], H, _ => H.elim
theorem FrOk.solid : ∀ {fr : List Env} {fl : List (Addr × Obj)}, FrOk fr fl → ∀ p ∈ fl, ∀ vs, p.2.data ≠ .fields vs
  | [], [], _, _, hp => by cases hp
  | _ :: _, q :: _, H, p, hp => by
    rcases List.mem_cons.mp hp with e | hp
    · rw [e]; exact H.2.2.1
    · exact FrOk.solid H.2.2.2 p hp
  | [], _ :: _, H, _, _ => H.elim
  | _ :: _, [], H, _, _ => H.elim
noncomputable def Slotted (fl : List (Addr × Obj)) (h : Heap) : Prop := ∀ p ∈ fl, ∃ sl, h.get? p.1 = some { p.2 with slots := sl }
theorem Slotted.up {fr : List Env} {fl : List (Addr × Obj)} {h h' : Heap} (H : FrOk fr fl) (S : Slotted fl h) (u : h.UpToSlots h') : Slotted fl h' := fun p hp => by
  obtain ⟨sl, e⟩ := S p hp
  obtain ⟨sl', e'⟩ := u _ _ e (FrOk.solid H p hp)
  exact ⟨sl', e'⟩
theorem Slotted.of {fl : List (Addr × Obj)} {h : Heap} (N : ∀ p ∈ fl, h.get? p.1 = some p.2) : Slotted fl h := fun p hp => ⟨p.2.slots, N p hp⟩
theorem ns_dict {h : Heap} {L : Addr} {m : Str → Option Value} (n : h.Ns L m) : ∃ o, h.get? L = some o ∧ (∀ vs, o.data ≠ .fields vs) := by
  obtain ⟨o, es, ep, ho, hd, _⟩ := n
  exact ⟨o, ho, fun vs q => by rw [hd] at q; cases q⟩
theorem ns_slots {h h' : Heap} {L : Addr} {m : Str → Option Value} {o : Obj} {sl : Array (Option Value)} (n : h.Ns L m) (e : h.get? L = some o) (e' : h'.get? L = some { o with slots := sl }) : h'.Ns L m := by
  obtain ⟨o', es, ep, ho, hd, hk, hf⟩ := n
  obtain rfl : o = o' := Option.some.inj (e.symm.trans ho)
  exact ⟨_, es, ep, e', hd, hk, hf⟩
theorem fr_none {g h : Heap} {L : Addr} {m : Str → Option Value} (F : Fr g L h m) : g.get? L = none := by
  cases q : g.get? L with
  | none => rfl
  | some o => exact absurd (Nat.lt_of_lt_of_le (Heap.lt_size q) F.above) (Nat.lt_irrefl _)
noncomputable def ConR (w : World) (f : Addr) (d u : Nat) (old : List (Addr × Obj)) (vs : List Value) : Prop :=
  ∀ (mean : ExcName → Option Value) (mg mb : Str → Option Value) (A : Around) (s : Shared) (Q : Value → Shared → Prop) (E : Value → Shared → Prop) (g : Heap) (fr : List Env) (fl : List (Addr × Obj)),
    (∀ b o, g.get? b = some o → s.heap.get? b = some o) → g.objs.size ≤ s.heap.objs.size → Gd w mean mg mb g →
    (∀ p ∈ old ++ fl, s.heap.get? p.1 = some p.2 ∧ g.get? p.1 = none) → FrOk fr fl → A.frames = some fr → A.handled = none → A.depth + d < recursionLimit → A.units + u < cLine →
    (∀ e a0 h' tk, Heap.FlyingW g fr e (.ref 51) a0 h' → Slotted fl h' → E (.ref e) { s with heap := h', toks := tk }) →
    wpAny (model PySem.Challenge.rw_pc0254_01.row.prog w) A (call (.ref f) vs) Q E s
noncomputable def ConF (w : World) (f : Addr) (d u : Nat) (vs : List Value) (R : Value → Prop) : Prop :=
  ∀ (mean : ExcName → Option Value) (mg mb : Str → Option Value) (A : Around) (s : Shared) (Q : Value → Shared → Prop) (g : Heap) (fr : List Env) (fl : List (Addr × Obj)),
    (∀ b o, g.get? b = some o → s.heap.get? b = some o) → g.objs.size ≤ s.heap.objs.size → Gd w mean mg mb g →
    (∀ p ∈ fl, s.heap.get? p.1 = some p.2 ∧ g.get? p.1 = none) → FrOk fr fl → A.frames = some fr → A.handled = none → A.depth + d < recursionLimit → A.units + u < cLine →
    (∀ v h' tk, (∀ b o, g.get? b = some o → h'.get? b = some o) → Slotted fl h' → R v → Q v { s with heap := h', toks := tk }) →
    wpAny (model PySem.Challenge.rw_pc0254_01.row.prog w) A (call (.ref f) vs) Q (fun _ _ => False) s
section
variable {w : World} {f : Addr} {d u : Nat} {old : List (Addr × Obj)} {vs : List Value}
theorem con_enterR {name qual : Str} {params : Arguments} {body : List Stmt} {scope : Scope} {dV kV doc pm cdv ct oc : Value} {an od : Option Addr} {osl : Array (Option Value)} {binds : List (Str × Value)}
    (ho : (hd.heap_39 w.params).lookup f = some ⟨oc, od, .func (fnX name qual params body scope [] dV kV doc pm an cdv ct), osl⟩) (hcd : codeIn (hd.heap_39 w.params) cdv qual = true)
    (hbind : ∀ s, BindsTo s (fnX name qual params body scope [] dV kV doc pm an cdv ct) ⟨vs, []⟩ binds) (hloc : ∀ y ∈ binds, scope.names.lookup y.1 = some .local) (hd1 : 0 < d)
    (h : ∀ (mean : ExcName → Option Value) (mg mb : Str → Option Value) (dp : Nat) (gd : Option (List Code)) (un : Nat) (s : Shared) (Q : Value → Shared → Prop) (E : Value → Shared → Prop) (g : Heap) (fr : List Env) (fl : List (Addr × Obj)) (L : Addr) (h₁ : Heap),
      Fr g L h₁ (fun y => binds.reverse.lookup y) → News g L h₁ (old ++ fl) → FrOk fr fl → (hd.heap_39 w.params).In g → Top hd.view_39 (looseW hd.view_39 []) mean mg mb g → dp + d < recursionLimit → un + u < cLine →
      (∀ p ∈ old ++ fl, p.1 < L) →
      (∀ e a0 h' tk, Heap.FlyingW g fr e (.ref 51) a0 h' → Slotted fl h' → E (.ref e) { s with heap := h', toks := tk }) →
      wpAny (model PySem.Challenge.rw_pc0254_01.row.prog w) (Around.deeper ⟨none, dp, some fr, gd, un⟩ (envX qual scope L f cdv [])) (execs body (envX qual scope L f cdv []))
        (fun fl s' => Q (match fl with | .ret v => v | _ => .none) s')
        (fun e s' => wpAny (model PySem.Challenge.rw_pc0254_01.row.prog w) (Around.deeper ⟨none, dp, some fr, gd, un⟩ (envX qual scope L f cdv [])) (leaving (envX qual scope L f cdv []) e) (fun _ s'' => E e s'') (fun e' s'' => E e' s'') s') { s with heap := h₁, toks := s.toks + binds.length })
    (hcell : ∀ x ∈ scope.names, x.2 ≠ .cell) (hco : scope.isCoroutine = false) (hgen : scope.isGenerator = false) (hk : scope.kind = .function) :
    ConR w f d u old vs := by
  intro mean mg mb A s Q E g fr fl hg hsz G hold hfr hA0 hA hdp hun hret
  obtain ⟨hd', dp, fr', gd, un⟩ := A
  dsimp only at hA hdp hun hA0
  subst hA hA0
  refine wpAny_call (codeAny_call_def (fd := fnX name qual params body scope [] dV kV doc pm an cdv ct) (body := body) (binds := binds) (by dsimp only; omega) (hg _ _ (G.k _ _ ho)) rfl (G.t.nolimit.keeps hg) (codeRec_of (G.k.keeps hg) hcd) rfl (hbind s) hcell hloc (fun h₁ hns hk₁ => ?_) hco hgen hk)
  exact h mean mg mb dp gd un s Q E g fr fl s.heap.objs.size h₁ ⟨hns, fun b o e => hk₁ b o (hg b o e), hsz⟩ (fun p hp => ⟨hk₁ _ _ (hold p hp).1, Nat.ne_of_lt (Heap.lt_size (hold p hp).1), (hold p hp).2⟩) hfr G.k G.t hdp hun (fun p hp => Heap.lt_size (hold p hp).1) hret
theorem con_enterF {R : Value → Prop} {name qual : Str} {params : Arguments} {body : List Stmt} {scope : Scope} {dV kV doc pm cdv ct oc : Value} {an od : Option Addr} {osl : Array (Option Value)} {binds : List (Str × Value)}
    (ho : (hd.heap_39 w.params).lookup f = some ⟨oc, od, .func (fnX name qual params body scope [] dV kV doc pm an cdv ct), osl⟩) (hcd : codeIn (hd.heap_39 w.params) cdv qual = true)
    (hbind : ∀ s, BindsTo s (fnX name qual params body scope [] dV kV doc pm an cdv ct) ⟨vs, []⟩ binds) (hloc : ∀ y ∈ binds, scope.names.lookup y.1 = some .local) (hd1 : 0 < d)
    (h : ∀ (mean : ExcName → Option Value) (mg mb : Str → Option Value) (dp : Nat) (gd : Option (List Code)) (un : Nat) (s : Shared) (Q : Value → Shared → Prop) (g : Heap) (fr : List Env) (fl : List (Addr × Obj)) (L : Addr) (h₁ : Heap),
      Fr g L h₁ (fun y => binds.reverse.lookup y) → News g L h₁ fl → FrOk fr fl → (hd.heap_39 w.params).In g → Top hd.view_39 (looseW hd.view_39 []) mean mg mb g → dp + d < recursionLimit → un + u < cLine →
      (∀ p ∈ fl, p.1 < L) →
      (∀ v h' tk, (∀ b o, g.get? b = some o → h'.get? b = some o) → Slotted fl h' → R v → Q v { s with heap := h', toks := tk }) →
      wpAny (model PySem.Challenge.rw_pc0254_01.row.prog w) (Around.deeper ⟨none, dp, some fr, gd, un⟩ (envX qual scope L f cdv [])) (execs body (envX qual scope L f cdv []))
        (fun fl s' => Q (match fl with | .ret v => v | _ => .none) s') (fun _ _ => False) { s with heap := h₁, toks := s.toks + binds.length })
    (hcell : ∀ x ∈ scope.names, x.2 ≠ .cell) (hco : scope.isCoroutine = false) (hgen : scope.isGenerator = false) (hk : scope.kind = .function) :
    ConF w f d u vs R := by
  intro mean mg mb A s Q g fr fl hg hsz G hold hfr hA0 hA hdp hun hret
  obtain ⟨hd', dp, fr', gd, un⟩ := A
  dsimp only at hA hdp hun hA0
  subst hA hA0
  refine wpAny_call (codeAny_call_def (fd := fnX name qual params body scope [] dV kV doc pm an cdv ct) (body := body) (binds := binds) (by dsimp only; omega) (hg _ _ (G.k _ _ ho)) rfl (G.t.nolimit.keeps hg) (codeRec_of (G.k.keeps hg) hcd) rfl (hbind s) hcell hloc (fun h₁ hns hk₁ => ?_) hco hgen hk)
  exact wpAny_mono (h mean mg mb dp gd un s Q g fr fl s.heap.objs.size h₁ ⟨hns, fun b o e => hk₁ b o (hg b o e), hsz⟩ (fun p hp => ⟨hk₁ _ _ (hold p hp).1, Nat.ne_of_lt (Heap.lt_size (hold p hp).1), (hold p hp).2⟩) hfr G.k G.t hdp hun (fun p hp => Heap.lt_size (hold p hp).1) hret) (fun _ _ x => x) (fun _ _ x => x.elim)
end
section
variable {M : Model} {dp un : Nat} {gd : Option (List Code)} {E : Value → Shared → Prop} {s' : Shared} {g h : Heap} {fr : List Env} {fl : List (Addr × Obj)} {L a e : Addr} {m : Str → Option Value} {qual : Str} {scope : Scope} {cd : Value} {Q : Unit → Shared → Prop}
theorem x_leave_first {T D : Addr} {C : Addr} (hfr : FrOk fr fl) (F : Fr g L s'.heap m) (N : ∀ p ∈ fl, s'.heap.get? p.1 = some p.2 ∧ p.1 ≠ L ∧ g.get? p.1 = none) (he : s'.heap.get? e = some { excObj C T with dict := some D }) (hen : g.get? e = none)
    (hQ : ∀ h', Heap.FlyingW g fr e (.ref C) (.ref T) h' → Slotted fl h' → Q () { s' with heap := h' }) (hk : scope.kind ≠ .module) :
    wpAny M (Around.deeper ⟨none, dp, some fr, gd, un⟩ (envX qual scope L a cd [])) (leaving (envX qual scope L a cd []) (.ref e)) Q E s' := by
  obtain ⟨oL, hoL, hLd⟩ := ns_dict F.ns
  have hl : s'.heap.FunFrames g (envX qual scope L a cd [] :: fr) := ⟨hk, ⟨L, oL, rfl, fr_none F, hoL, hLd⟩, FrOk.funFrames hfr fun p hp => ⟨(N p hp).1, (N p hp).2.2⟩⟩
  refine wpAny_leaving_firstW (a0 := .ref T) rfl hl rfl he F.keep hen rfl rfl rfl fun h' hL => ?_
  obtain ⟨k1, ⟨_, _, k2⟩, k3, k4⟩ := hL
  exact hQ h' ⟨k1, hen, k2, k3⟩ (Slotted.up hfr (Slotted.of fun p hp => (N p hp).1) k4)
theorem x_leave_next {cls a0 : Value} (hfr : FrOk fr fl) (hfl : Heap.FlyingW g (envX qual scope L a cd [] :: fr) e cls a0 s'.heap) (S : Slotted fl s'.heap)
    (hQ : ∀ h', Heap.FlyingW g fr e cls a0 h' → Slotted fl h' → Q () { s' with heap := h' }) :
    wpAny M (Around.deeper ⟨none, dp, some fr, gd, un⟩ (envX qual scope L a cd [])) (leaving (envX qual scope L a cd []) (.ref e)) Q E s' :=
  wpAny_leaves_onW rfl rfl hfl fun h' x1 x2 => hQ h' x1 (S.up hfr x2)
end
end
section
section
variable {w : World} {mean : ExcName → Option Value} {mg mb : Str → Option Value} {A : Around} {s : Shared} {Q E : Value → Shared → Prop} {h₀ : Heap} {L : Addr} {m : Str → Option Value} {news : List (Addr × Obj)}
theorem my_leftout {why : Str} {tw : Tok} (F : Fr h₀ L s.heap m) (N : News h₀ L s.heap news) (X : (hd.heap_39 w.params).In h₀) (T : Top hd.view_39 (looseW hd.view_39 []) mean mg mb h₀)
    (hA : A.handled = none) (hdp : A.depth + 3 < recursionLimit) (hun : A.units + 61 < cLine)
    (h : ∀ e D T' h' tk, Fr h₀ L h' m → News h₀ L h' ((e, { excObj 51 T' with dict := some D }) :: news) → Q (.ref e) { s with heap := h', toks := tk }) :
    wpAny (model PySem.Challenge.rw_pc0254_01.row.prog w) A (call (.ref 51) [.str why tw]) Q E s :=
  con_use0 (con_leftout w why tw) F N X T hA hdp hun fun v new h' tk F' N' ⟨e, D, T', e1, e2⟩ => by subst e1 e2; exact h e D T' h' tk F' N'
noncomputable def LoRaised (E : Value → Shared → Prop) (v : Value) (s₁ : Shared) : Prop :=
  ∃ e T D, v = .ref e ∧ s₁.heap.get? 51 = some (excClassObj (Str.ofString "LeftOut") (Str.ofString "LeftOut") 51 50 [.ref 38] [.ref 38, .type "Exception", .type "BaseException", .type "object"] true [] [] false none none (some (.ref 42)) none (some (.str (Str.ofString "LeftOut") 225)) (some (.str (Str.ofString "LeftOut") 233)) (some (.bool true)) "Exception.__new__") ∧
    s₁.heap.get? e = some { excObj 51 T with dict := some D } ∧ E (.ref e) s₁
theorem LoRaised.intro {e T D : Addr} {s₁ : Shared} (hC : s₁.heap.get? 51 = some (excClassObj (Str.ofString "LeftOut") (Str.ofString "LeftOut") 51 50 [.ref 38] [.ref 38, .type "Exception", .type "BaseException", .type "object"] true [] [] false none none (some (.ref 42)) none (some (.str (Str.ofString "LeftOut") 225)) (some (.str (Str.ofString "LeftOut") 233)) (some (.bool true)) "Exception.__new__"))
    (he : s₁.heap.get? e = some { excObj 51 T with dict := some D }) (h : E (.ref e) s₁) : LoRaised E (.ref e) s₁ := ⟨e, T, D, rfl, hC, he, h⟩
theorem raise_end {M : Model} {dp un : Nat} {gd : Option (List Code)} {g : Heap} {fr : List Env} {fl : List (Addr × Obj)} {L a e T D : Addr} {m : Str → Option Value} {qual : Str} {scope : Scope} {cd : Value} {s₁ : Shared} {E : Value → Shared → Prop}
    (hfr : FrOk fr fl) (F : Fr g L s₁.heap m) (N : News g L s₁.heap ((e, { excObj 51 T with dict := some D }) :: fl)) (X : (hd.heap_39 w.params).In g)
    (hret : ∀ e a0 h', Heap.FlyingW g fr e (.ref 51) a0 h' → Slotted fl h' → E (.ref e) { s₁ with heap := h' }) (hk : scope.kind ≠ .module) :
    LoRaised (fun e s' => wpAny M (Around.deeper ⟨none, dp, some fr, gd, un⟩ (envX qual scope L a cd [])) (leaving (envX qual scope L a cd []) e) (fun _ s'' => E e s'') (fun e' s'' => E e' s'') s') (.ref e) s₁ :=
  LoRaised.intro (F.keep _ _ (X _ _ (lo_lookup w))) (N _ List.mem_cons_self).1
    (x_leave_first hfr F (fun p hp => N p (List.mem_cons_of_mem _ hp)) (N _ List.mem_cons_self).1 (N _ List.mem_cons_self).2.2 (fun h' hfl S => hret _ _ h' hfl S) hk)
theorem x_raise_lo {prog : Program} {env : Env} {x : Expr} {pos : Pos} {Q : Flow → Shared → Prop} (hh : A.handled = none) (h : wpAny (model prog w) A (eval x env) (LoRaised E) E s) :
    wpAny (model prog w) A (exec (.Raise (some x) none pos) env) Q E s :=
  x_raise (by decide) hh (wpAny_mono h (fun _ _ z => z) fun _ _ z => z)
end
theorem conR_whole (w : World) (n : Int) (tn : Tok) (hn : n < -(2 ^ 63) ∨ 2 ^ 63 - 1 < n) : ConR w 74 5 100 [] [.int n tn] := by
  ((have hfill : ∀ P : Params, PySem.Challenge.rw_pc0254_01.row.prog = PySem.Challenge.rw_pc0254_01.row.prog ∧ hd.heap_39 P = hd.heap_39 P := fun _ => ⟨rfl, rfl⟩); revert hfill; k_fill; intro hfill; clear hfill)
  k_dflt (refine' con_enterR (binds := [(Str.ofString "n", .int n tn)]) ?k6 ?k7 ?k9 ?kB ?k8 ?_ ?c5 ?c2 ?c3 ?c4; ((case k6 => k_is); (case k7 => k_is); (case k8 => decide); (case k9 => exact fun _ => BindsTo.of_eq rfl); (case c5 => decide); (case kB => exact locs rfl); (case c2 => exact rfl); (case c3 => exact rfl); (case c4 => exact rfl)))
  intro mean mg mb dp gd un s Q E g fr fl L h₁ F N hfr X T hdp hun hlt hret
  (try k_fold)
  simp only [List.nil_append] at N
  (repeat' ((fail_if_success (with_reducible show wpAny _ _ (exec (Stmt.For _ _ _ _ _) _) _ _ _)); (fail_if_success (with_reducible show wpAny _ _ (exec (Stmt.While _ _ _ _) _) _ _ _)); (fail_if_success (with_reducible show wpAny _ _ (pyIter _) _ _ _)); first | (((with_reducible show wpAny _ _ (call (Value.ref 51) _) _ _ _); k_dflt (refine' my_leftout ?zF ?zN ?zX ?zT ?zhA ?zhd ?zhu ?_; (case zF => k_asm); (case zN => k_asm); (case zX => k_asm); (case zT => k_asm); (case zhA => rfl); (case zhd => (first | exact room_b (by with_reducible assumption) rfl | exact room_a (by with_reducible assumption) rfl | omega | (simp only [Around.deeper, Around.in1]; omega))); (case zhu => (first | exact room_b (by with_reducible assumption) rfl | exact room_a (by with_reducible assumption) rfl | omega | (simp only [Around.deeper, Around.in1]; omega)))); intro _ _ _ _ _ _ _; (try k_sweep)); (try dsimp only)) | (((with_reducible show wpAny _ _ (exec (Stmt.Raise (some _) none _) _) _ _ _); (refine x_raise_lo rfl ?_)); (try dsimp only)) | ((with_reducible show wpAny _ _ (call (Value.ref _) _) _ _ _); k_dflt (refine' con_useI ?zC ?zF ?zN ?zX ?zT ?zhA ?zhd ?zhu ?_); (case zC => (first | exact con_least _ | exact con_greatest _)); (case zF => k_asm); (case zN => k_asm); (case zX => k_asm); (case zT => k_asm); (case zhA => rfl); (case zhd => first | exact room_b (by with_reducible assumption) rfl | exact room_a (by with_reducible assumption) rfl | omega | (simp only [Around.deeper, Around.in1]; omega)); (case zhu => first | exact room_b (by with_reducible assumption) rfl | exact room_a (by with_reducible assumption) rfl | omega | (simp only [Around.deeper, Around.in1]; omega)); intro _ _ _ _ _; (try k_sweep); (try dsimp only)) | (k_unfold; (try dsimp only)) | (walk1; (try dsimp only)) | (dsimp only; walk1) | fail "no step"))
  all_goals rename Fr _ _ _ _ => F2
  all_goals rename News _ _ _ _ => N2
  all_goals exact raise_end hfr F2 N2 X (fun e a0 h' hfl S => hret e a0 h' _ hfl S) (by decide)
end
section
section
variable {w : World} {M : Model} {dp un : Nat} {gd : Option (List Code)} {g : Heap} {fr : List Env} {fl news : List (Addr × Obj)} {L a : Addr} {m : Str → Option Value} {qual : Str} {scope : Scope} {cd : Value} {s : Shared} {E : Value → Shared → Prop} {mean : ExcName → Option Value} {mg mb : Str → Option Value}
theorem con_useR {f : Addr} {d u : Nat} {vs : List Value} {Q : Value → Shared → Prop} (C : ConR w f d u [] vs) (hfr : FrOk fr fl) (F : Fr g L s.heap m) (N : News g L s.heap news) (hsub : ∀ p ∈ fl, p ∈ news) (X : (hd.heap_39 w.params).In g) (T : Top hd.view_39 (looseW hd.view_39 []) mean mg mb g)
    (hdp : dp + 1 + d < recursionLimit) (hun : un + 3 + u < cLine) (hk : scope.kind ≠ .module)
    (hret : ∀ e a0 h' tk, Heap.FlyingW g fr e (.ref 51) a0 h' → Slotted fl h' → E (.ref e) { s with heap := h', toks := tk }) :
    wpAny (model PySem.Challenge.rw_pc0254_01.row.prog w) (Around.deeper ⟨none, dp, some fr, gd, un⟩ (envX qual scope L a cd [])) (call (.ref f) vs) Q
      (fun e s' => wpAny (model PySem.Challenge.rw_pc0254_01.row.prog w) (Around.deeper ⟨none, dp, some fr, gd, un⟩ (envX qual scope L a cd [])) (leaving (envX qual scope L a cd []) e) (fun _ s'' => E e s'') (fun e' s'' => E e' s'') s') s := by
  obtain ⟨oL, hoL, hLd⟩ := ns_dict F.ns
  refine C mean mg mb _ s Q _ g (envX qual scope L a cd [] :: fr) ((L, oL) :: fl) F.keep (Nat.le_trans F.above (Nat.le_of_lt (Heap.lt_size hoL))) ⟨X, T⟩ (fun p hp => ?_) ⟨hk, rfl, hLd, hfr⟩ rfl rfl hdp hun ?_
  · rcases List.mem_cons.mp hp with e | hp
    · rw [e]; exact ⟨hoL, fr_none F⟩
    · exact ⟨(N p (hsub p hp)).1, (N p (hsub p hp)).2.2⟩
  · intro e a0 h' tk hfl S
    exact x_leave_next hfr hfl (fun p hp => S p (List.mem_cons_of_mem _ hp)) fun h'' hfl' S' => hret e a0 h'' tk hfl' S'
end
theorem conR_lev (w : World) (host : Value) (l : Addr) (a b : Str) (ta tb ti tr td : Tok) (i r d : Int) (k : Nat) (ha : a.length < 1000) (hb : b.length < 1000)
    (hn : dist a.cps.toList b.cps.toList i r d < -(2 ^ 63) ∨ 2 ^ 63 - 1 < dist a.cps.toList b.cps.toList i r d) :
    ConR w 121 8 150 [(l, listOf [Value.str a ta, .str b tb, .int i ti, .int r tr, .int d td].toArray k)] [host, .ref l] := by
  ((have hfill : ∀ P : Params, PySem.Challenge.rw_pc0254_01.row.prog = PySem.Challenge.rw_pc0254_01.row.prog ∧ hd.heap_39 P = hd.heap_39 P := fun _ => ⟨rfl, rfl⟩); revert hfill; k_fill; intro hfill; clear hfill)
  k_dflt (refine' con_enterR (binds := [(Str.ofString "host", host), (Str.ofString "args", .ref l)]) ?k6 ?k7 ?k9 ?kB ?k8 ?_ ?c5 ?c2 ?c3 ?c4; ((case k6 => k_is); (case k7 => k_is); (case k8 => decide); (case k9 => exact fun _ => BindsTo.of_eq rfl); (case c5 => decide); (case kB => exact locs rfl); (case c2 => exact rfl); (case c3 => exact rfl); (case c4 => exact rfl)))
  intro mean mg mb dp gd un s Q E g fr fl L h₁ F N hfr X T hdp hun hlt hret
  (try k_fold)
  simp only [List.cons_append, List.nil_append] at N
  (repeat' ((fail_if_success (with_reducible show wpAny _ _ (exec (Stmt.For _ _ _ _ _) _) _ _ _)); (fail_if_success (with_reducible show wpAny _ _ (exec (Stmt.While _ _ _ _) _) _ _ _)); (fail_if_success (with_reducible show wpAny _ _ (pyIter _) _ _ _)); (fail_if_success (with_reducible show wpAny _ _ (exec (Stmt.Assign _ (Expr.ListComp _ _ _ _) _) _) _ _ _)); (fail_if_success (with_reducible show wpAny _ _ (eval (Expr.ListComp _ _ _ _) _) _ _ _)); first | ((with_reducible show wpAny _ _ (call (Value.ref _) _) _ _ _); k_dflt (refine' con_useI ?zC ?zF ?zN ?zX ?zT ?zhA ?zhd ?zhu ?_); (case zC => exact con_distance _ _ _ _ _ _ _ _ _ _ _ (by omega) (by omega)); (case zF => k_asm); (case zN => k_asm); (case zX => k_asm); (case zT => k_asm); (case zhA => rfl); (case zhd => first | exact room_b (by with_reducible assumption) rfl | exact room_a (by with_reducible assumption) rfl | omega | (simp only [Around.deeper, Around.in1]; omega)); (case zhu => first | exact room_b (by with_reducible assumption) rfl | exact room_a (by with_reducible assumption) rfl | omega | (simp only [Around.deeper, Around.in1]; omega)); intro _ _ _ _ _; (try k_sweep); (try dsimp only)) | (k_unfold; (try dsimp only)) | (walk1; (try dsimp only)) | (dsimp only; walk1) | fail "no step"))
  exact con_useR (conR_whole _ _ _ hn) hfr (by assumption) (by assumption) (sub_tl sub_rfl) X T (by omega) (by omega) (by decide) hret
theorem con_whole (w : World) (n : Int) (tn : Tok) (h1 : -(2 ^ 63) ≤ n) (h2 : n ≤ 2 ^ 63 - 1) : ConI w 74 3 60 [.int n tn] n := by
  ((have hfill : ∀ P : Params, PySem.Challenge.rw_pc0254_01.row.prog = PySem.Challenge.rw_pc0254_01.row.prog ∧ hd.heap_39 P = hd.heap_39 P := fun _ => ⟨rfl, rfl⟩); revert hfill; k_fill; intro hfill; clear hfill)
  k_dflt (refine' con_enter (binds := [(Str.ofString "n", .int n tn)]) ?k6 ?k7 ?k9 ?kB ?k8 ?_ ?c5 ?c2 ?c3 ?c4; ((case k6 => k_is); (case k7 => k_is); (case k8 => decide); (case k9 => exact fun _ => BindsTo.of_eq rfl); (case c5 => decide); (case kB => exact locs rfl); (case c2 => exact rfl); (case c3 => exact rfl); (case c4 => exact rfl)))
  intro mean mg mb dp fr gd un s Q g L h₁ F N X T hdp hun hret
  (try k_fold)
  (repeat' ((fail_if_success (with_reducible show wpAny _ _ (exec (Stmt.For _ _ _ _ _) _) _ _ _)); (fail_if_success (with_reducible show wpAny _ _ (exec (Stmt.While _ _ _ _) _) _ _ _)); (fail_if_success (with_reducible show wpAny _ _ (pyIter _) _ _ _)); (fail_if_success (with_reducible show wpAny _ _ (exec (Stmt.Assign _ (Expr.ListComp _ _ _ _) _) _) _ _ _)); (fail_if_success (with_reducible show wpAny _ _ (eval (Expr.ListComp _ _ _ _) _) _ _ _)); first | ((with_reducible show wpAny _ _ (call (Value.ref _) _) _ _ _); k_dflt (refine' con_useI ?zC ?zF ?zN ?zX ?zT ?zhA ?zhd ?zhu ?_); (case zC => first | (first | exact con_least _ | exact con_greatest _) | exact con_distance _ _ _ _ _ _ _ _ _ _ _ (by omega) (by omega)); (case zF => k_asm); (case zN => k_asm); (case zX => k_asm); (case zT => k_asm); (case zhA => rfl); (case zhd => first | exact room_b (by with_reducible assumption) rfl | exact room_a (by with_reducible assumption) rfl | omega | (simp only [Around.deeper, Around.in1]; omega)); (case zhu => first | exact room_b (by with_reducible assumption) rfl | exact room_a (by with_reducible assumption) rfl | omega | (simp only [Around.deeper, Around.in1]; omega)); intro _ _ _ _ _; (try k_sweep); (try dsimp only)) | (k_unfold; (try dsimp only)) | (walk1; (try dsimp only)) | (dsimp only; walk1) | fail "no step"))
  all_goals first
    | exact hret _ [] _ _ _ _ (by assumption) (by assumption) sub_nil ⟨_, rfl, rfl⟩
    | (exfalso; omega)
theorem con_lev (w : World) (host : Value) (l : Addr) (a b : Str) (ta tb ti tr td : Tok) (i r d : Int) (k : Nat) (ha : a.length < 1000) (hb : b.length < 1000)
    (h1 : -(2 ^ 63) ≤ dist a.cps.toList b.cps.toList i r d) (h2 : dist a.cps.toList b.cps.toList i r d ≤ 2 ^ 63 - 1) :
    Con w 121 5 120 [(l, listOf [Value.str a ta, .str b tb, .int i ti, .int r tr, .int d td].toArray k)] [host, .ref l] (fun v new => (∃ t, v = .int (dist a.cps.toList b.cps.toList i r d) t) ∧ new = []) := by
  ((have hfill : ∀ P : Params, PySem.Challenge.rw_pc0254_01.row.prog = PySem.Challenge.rw_pc0254_01.row.prog ∧ hd.heap_39 P = hd.heap_39 P := fun _ => ⟨rfl, rfl⟩); revert hfill; k_fill; intro hfill; clear hfill)
  k_dflt (refine' con_enter (binds := [(Str.ofString "host", host), (Str.ofString "args", .ref l)]) ?k6 ?k7 ?k9 ?kB ?k8 ?_ ?c5 ?c2 ?c3 ?c4; ((case k6 => k_is); (case k7 => k_is); (case k8 => decide); (case k9 => exact fun _ => BindsTo.of_eq rfl); (case c5 => decide); (case kB => exact locs rfl); (case c2 => exact rfl); (case c3 => exact rfl); (case c4 => exact rfl)))
  intro mean mg mb dp fr gd un s Q g L h₁ F N X T hdp hun hret
  (try k_fold)
  (repeat' ((fail_if_success (with_reducible show wpAny _ _ (exec (Stmt.For _ _ _ _ _) _) _ _ _)); (fail_if_success (with_reducible show wpAny _ _ (exec (Stmt.While _ _ _ _) _) _ _ _)); (fail_if_success (with_reducible show wpAny _ _ (pyIter _) _ _ _)); (fail_if_success (with_reducible show wpAny _ _ (exec (Stmt.Assign _ (Expr.ListComp _ _ _ _) _) _) _ _ _)); (fail_if_success (with_reducible show wpAny _ _ (eval (Expr.ListComp _ _ _ _) _) _ _ _)); first | ((with_reducible show wpAny _ _ (call (Value.ref _) _) _ _ _); k_dflt (refine' con_useI ?zC ?zF ?zN ?zX ?zT ?zhA ?zhd ?zhu ?_); (case zC => first | (first | exact con_distance _ _ _ _ _ _ _ _ _ _ _ (by omega) (by omega) | exact con_whole _ _ _ (by with_reducible assumption) (by with_reducible assumption)) | (first | exact con_least _ | exact con_greatest _) | exact con_distance _ _ _ _ _ _ _ _ _ _ _ (by omega) (by omega)); (case zF => k_asm); (case zN => k_asm); (case zX => k_asm); (case zT => k_asm); (case zhA => rfl); (case zhd => first | exact room_b (by with_reducible assumption) rfl | exact room_a (by with_reducible assumption) rfl | omega | (simp only [Around.deeper, Around.in1]; omega)); (case zhu => first | exact room_b (by with_reducible assumption) rfl | exact room_a (by with_reducible assumption) rfl | omega | (simp only [Around.deeper, Around.in1]; omega)); intro _ _ _ _ _; (try k_sweep); (try dsimp only)) | (k_unfold; (try dsimp only)) | (walk1; (try dsimp only)) | (dsimp only; walk1) | fail "no step"))
  exact hret _ [] _ _ _ _ (by assumption) (by assumption) sub_nil ⟨⟨_, rfl⟩, rfl⟩
theorem con_law_told (w : World) (host : Value) (a b : Str) (ta tb ti tr td : Tok) (i r d : Int) (ha : a.length < 1000) (hb : b.length < 1000)
    (h1 : -(2 ^ 63) ≤ dist a.cps.toList b.cps.toList i r d) (h2 : dist a.cps.toList b.cps.toList i r d ≤ 2 ^ 63 - 1) :
    ConI w 296 7 200 [host, .str a ta, .str b tb, .int i ti, .int r tr, .int d td] (dist a.cps.toList b.cps.toList i r d) := by
  ((have hfill : ∀ P : Params, PySem.Challenge.rw_pc0254_01.row.prog = PySem.Challenge.rw_pc0254_01.row.prog ∧ hd.heap_39 P = hd.heap_39 P := fun _ => ⟨rfl, rfl⟩); revert hfill; k_fill; intro hfill; clear hfill)
  k_dflt (refine' con_enter (binds := [(Str.ofString "host", host), (Str.ofString "a", .str a ta), (Str.ofString "b", .str b tb), (Str.ofString "into", .int i ti), (Str.ofString "other", .int r tr), (Str.ofString "away", .int d td)]) ?k6 ?k7 ?k9 ?kB ?k8 ?_ ?c5 ?c2 ?c3 ?c4; ((case k6 => k_is); (case k7 => k_is); (case k8 => decide); (case k9 => exact fun _ => BindsTo.of_eq rfl); (case c5 => decide); (case kB => exact locs rfl); (case c2 => exact rfl); (case c3 => exact rfl); (case c4 => exact rfl)))
  intro mean mg mb dp fr gd un s Q g L h₁ F N X T hdp hun hret
  (try k_fold)
  (repeat' ((fail_if_success (with_reducible show wpAny _ _ (exec (Stmt.For _ _ _ _ _) _) _ _ _)); (fail_if_success (with_reducible show wpAny _ _ (exec (Stmt.While _ _ _ _) _) _ _ _)); (fail_if_success (with_reducible show wpAny _ _ (pyIter _) _ _ _)); (fail_if_success (with_reducible show wpAny _ _ (exec (Stmt.Assign _ (Expr.ListComp _ _ _ _) _) _) _ _ _)); (fail_if_success (with_reducible show wpAny _ _ (eval (Expr.ListComp _ _ _ _) _) _ _ _)); first | (((with_reducible show wpAny _ _ (exec (Stmt.Try _ _ _ _ _) _) _ _ _); (refine wpAny_Try_except ?_)); (try dsimp only)) | (((with_reducible show wpAny _ _ (call (Value.ref 121) _) _ _ _); k_dflt (refine' con_use1 (con_lev _ _ _ _ _ _ _ _ _ _ _ _ _ _ ?zl1 ?zl2 ?zl3 ?zl4) ?zF ?zN ?zX ?zT ?zhl ?zU ?zhA ?zhd ?zhu ?_; (case zF => k_asm); (case zN => k_asm); (case zX => k_asm); (case zT => k_asm); (case zl1 => omega); (case zl2 => omega); (case zl3 => with_reducible assumption); (case zl4 => with_reducible assumption); (case zhl => rfl); (case zU => kwd_less); (case zhA => rfl); (case zhd => (first | exact room_b (by with_reducible assumption) rfl | exact room_a (by with_reducible assumption) rfl | omega | (simp only [Around.deeper, Around.in1]; omega))); (case zhu => (first | exact room_b (by with_reducible assumption) rfl | exact room_a (by with_reducible assumption) rfl | omega | (simp only [Around.deeper, Around.in1]; omega)))); intro _ _ _ _ _ r'; obtain ⟨t', e'⟩ := r'; subst e'); (try dsimp only)) | ((with_reducible show wpAny _ _ (call (Value.ref _) _) _ _ _); k_dflt (refine' con_useI ?zC ?zF ?zN ?zX ?zT ?zhA ?zhd ?zhu ?_); (case zC => first | (first | exact con_distance _ _ _ _ _ _ _ _ _ _ _ (by omega) (by omega) | exact con_whole _ _ _ (by with_reducible assumption) (by with_reducible assumption)) | (first | exact con_least _ | exact con_greatest _) | exact con_distance _ _ _ _ _ _ _ _ _ _ _ (by omega) (by omega)); (case zF => k_asm); (case zN => k_asm); (case zX => k_asm); (case zT => k_asm); (case zhA => rfl); (case zhd => first | exact room_b (by with_reducible assumption) rfl | exact room_a (by with_reducible assumption) rfl | omega | (simp only [Around.deeper, Around.in1]; omega)); (case zhu => first | exact room_b (by with_reducible assumption) rfl | exact room_a (by with_reducible assumption) rfl | omega | (simp only [Around.deeper, Around.in1]; omega)); intro _ _ _ _ _; (try k_sweep); (try dsimp only)) | (k_unfold; (try dsimp only)) | (walk1; (try dsimp only)) | (dsimp only; walk1) | fail "no step"))
  exact hret _ [] _ _ _ _ (by assumption) (by assumption) sub_nil ⟨_, rfl, rfl⟩
theorem lo_global (w : World) : nsIn (hd.heap_39 w.params) mainGlobals (Str.ofString "LeftOut") = some (some (.ref 51)) := by
  ((have hfill : ∀ P : Params, PySem.Challenge.rw_pc0254_01.row.prog = PySem.Challenge.rw_pc0254_01.row.prog ∧ hd.heap_39 P = hd.heap_39 P := fun _ => ⟨rfl, rfl⟩); revert hfill; k_fill; intro hfill; clear hfill)
  refine Eq.trans ?z rfl
  case z => k_is
section
variable {w : World} {dp un : Nat} {gd : Option (List Code)} {g h : Heap} {fr : List Env} {fl : List (Addr × Obj)} {L a e : Addr} {m : Str → Option Value} {qual : Str} {scope : Scope} {cd : Value} {s' : Shared} {mean : ExcName → Option Value} {mg mb : Str → Option Value} {E : Value → Shared → Prop} {Q : Flow → Shared → Prop}
theorem x_caught {a0 : Value} {oL : Obj} {np pos : Pos} {b₀ : Stmt} {suite : List Stmt} {rest : List ExceptHandler} (hfr : FrOk fr fl) (F : Fr g L h m) (hL : h.get? L = some oL) (hfl : Heap.FlyingW g (envX qual scope L a cd [] :: fr) e (.ref 51) a0 s'.heap) (S : Slotted ((L, oL) :: fl) s'.heap)
    (X : (hd.heap_39 w.params).In g) (T : Top hd.view_39 (looseW hd.view_39 []) mean mg mb g)
    (k : ∀ h', Fr g L h' m → Slotted fl h' → wpAny (model PySem.Challenge.rw_pc0254_01.row.prog w) ((Around.deeper ⟨none, dp, some fr, gd, un⟩ (envX qual scope L a cd [])).mark (some (.ref e))) (execs (b₀ :: suite) (envX qual scope L a cd [])) Q E { s' with heap := h' })
    (hk : scope.kind = .function) (hx : (envX qual scope L a cd []).kindOf (Str.ofString "LeftOut") = some .globalImplicit)
    (hE : PassesOwnAt (model PySem.Challenge.rw_pc0254_01.row.prog w) ((Around.deeper ⟨none, dp, some fr, gd, un⟩ (envX qual scope L a cd [])).mark (some (.ref e))) (Around.deeper ⟨none, dp, some fr, gd, un⟩ (envX qual scope L a cd [])) (envX qual scope L a cd []) E) :
    wpAny (model PySem.Challenge.rw_pc0254_01.row.prog w) (Around.deeper ⟨none, dp, some fr, gd, un⟩ (envX qual scope L a cd [])) (noteFrame (.ref e) (envX qual scope L a cd []))
      (fun _ s₂ => wpAny (model PySem.Challenge.rw_pc0254_01.row.prog w) (Around.deeper ⟨none, dp, some fr, gd, un⟩ (envX qual scope L a cd [])) (setFlight (.ref e) none) (fun _ s₃ =>
        wpAny (model PySem.Challenge.rw_pc0254_01.row.prog w) (Around.deeper ⟨none, dp, some fr, gd, un⟩ (envX qual scope L a cd [])) (handleBy (.ref e) (envX qual scope L a cd []) (.ExceptHandler (some (.Name (Str.ofString "LeftOut") np)) none (b₀ :: suite) pos :: rest)) Q E s₃) E s₂) E s' := by
  obtain ⟨oL', hoL', hLd⟩ := ns_dict F.ns
  obtain rfl : oL = oL' := Option.some.inj (hL.symm.trans hoL')
  have hfr' : FrOk (envX qual scope L a cd [] :: fr) ((L, oL) :: fl) := ⟨by rw [show (envX qual scope L a cd []).scope.kind = .function from hk]; decide, rfl, hLd, hfr⟩
  refine wpAny_looks_onW rfl rfl hfl fun h₄ hheld₄ hsm₄ => ?_
  refine wpAny_landsW hheld₄ fun h₅ hheld hsm₅' => ?_
  have S₅ := Slotted.up hfr' S (hsm₄.trans hsm₅')
  obtain ⟨sl₅, e₅⟩ := S₅ (L, oL) List.mem_cons_self
  have F₅ : Fr g L h₅ m := ⟨ns_slots F.ns hL e₅, hheld.1, F.above⟩
  obtain ⟨ob, hob, hobc⟩ := hheld.there
  have hC₅ := F₅.keep _ _ (X _ _ (lo_lookup w))
  refine wpAny_handleBy_cons (codeAny_handlers_test (nameX_K F₅ X (topRead_of T) (lo_global w) ?_ hk hx)) (by intro q; cases q)
  refine wpAny_excMatches_sub_self hC₅ hob hobc (by decide) (codeAny_handlers_suite ?_)
  refine lands_againW hheld fun h₆ hfl₆ hsm₆ => ?_
  have S₆ := Slotted.up hfr' S₅ hsm₆
  obtain ⟨sl₆, e₆⟩ := S₆ (L, oL) List.mem_cons_self
  exact wpAny_passesOwnAt hE (k h₆ ⟨ns_slots F.ns hL e₆, hfl₆.1, F.above⟩ fun p hp => S₆ p (List.mem_cons_of_mem _ hp))
end
theorem conF_law_told (w : World) (host : Value) (a b : Str) (ta tb ti tr td : Tok) (i r d : Int) (ha : a.length < 1000) (hb : b.length < 1000)
    (hn : dist a.cps.toList b.cps.toList i r d < -(2 ^ 63) ∨ 2 ^ 63 - 1 < dist a.cps.toList b.cps.toList i r d) :
    ConF w 296 10 200 [host, .str a ta, .str b tb, .int i ti, .int r tr, .int d td] (fun v => v = .none) := by
  ((have hfill : ∀ P : Params, PySem.Challenge.rw_pc0254_01.row.prog = PySem.Challenge.rw_pc0254_01.row.prog ∧ hd.heap_39 P = hd.heap_39 P := fun _ => ⟨rfl, rfl⟩); revert hfill; k_fill; intro hfill; clear hfill)
  k_dflt (refine' con_enterF (binds := [(Str.ofString "host", host), (Str.ofString "a", .str a ta), (Str.ofString "b", .str b tb), (Str.ofString "into", .int i ti), (Str.ofString "other", .int r tr), (Str.ofString "away", .int d td)]) ?k6 ?k7 ?k9 ?kB ?k8 ?_ ?c5 ?c2 ?c3 ?c4; ((case k6 => k_is); (case k7 => k_is); (case k8 => decide); (case k9 => exact fun _ => BindsTo.of_eq rfl); (case c5 => decide); (case kB => exact locs rfl); (case c2 => exact rfl); (case c3 => exact rfl); (case c4 => exact rfl)))
  intro mean mg mb dp gd un s Q g fr fl L h₁ F N hfr X T hdp hun hlt hret
  (try k_fold)
  (repeat' ((fail_if_success (with_reducible show wpAny _ _ (exec (Stmt.For _ _ _ _ _) _) _ _ _)); (fail_if_success (with_reducible show wpAny _ _ (exec (Stmt.While _ _ _ _) _) _ _ _)); (fail_if_success (with_reducible show wpAny _ _ (pyIter _) _ _ _)); (fail_if_success (with_reducible show wpAny _ _ (exec (Stmt.Assign _ (Expr.ListComp _ _ _ _) _) _) _ _ _)); (fail_if_success (with_reducible show wpAny _ _ (eval (Expr.ListComp _ _ _ _) _) _ _ _)); first | (((with_reducible show wpAny _ _ (exec (Stmt.Try _ _ _ _ _) _) _ _ _); (refine wpAny_Try_except ?_)); (try dsimp only)) | (((with_reducible show wpAny _ _ (call (Value.ref 121) _) _ _ _); k_dflt (refine' con_use1 (con_lev _ _ _ _ _ _ _ _ _ _ _ _ _ _ ?zl1 ?zl2 ?zl3 ?zl4) ?zF ?zN ?zX ?zT ?zhl ?zU ?zhA ?zhd ?zhu ?_; (case zF => k_asm); (case zN => k_asm); (case zX => k_asm); (case zT => k_asm); (case zl1 => omega); (case zl2 => omega); (case zl3 => with_reducible assumption); (case zl4 => with_reducible assumption); (case zhl => rfl); (case zU => kwd_less); (case zhA => rfl); (case zhd => (first | exact room_b (by with_reducible assumption) rfl | exact room_a (by with_reducible assumption) rfl | omega | (simp only [Around.deeper, Around.in1]; omega))); (case zhu => (first | exact room_b (by with_reducible assumption) rfl | exact room_a (by with_reducible assumption) rfl | omega | (simp only [Around.deeper, Around.in1]; omega)))); intro _ _ _ _ _ r'; obtain ⟨t', e'⟩ := r'; subst e'); (try dsimp only)) | ((with_reducible show wpAny _ _ (call (Value.ref _) _) _ _ _); k_dflt (refine' con_useI ?zC ?zF ?zN ?zX ?zT ?zhA ?zhd ?zhu ?_); (case zC => first | (first | exact con_distance _ _ _ _ _ _ _ _ _ _ _ (by omega) (by omega) | exact con_whole _ _ _ (by with_reducible assumption) (by with_reducible assumption)) | (first | exact con_least _ | exact con_greatest _) | exact con_distance _ _ _ _ _ _ _ _ _ _ _ (by omega) (by omega)); (case zF => k_asm); (case zN => k_asm); (case zX => k_asm); (case zT => k_asm); (case zhA => rfl); (case zhd => first | exact room_b (by with_reducible assumption) rfl | exact room_a (by with_reducible assumption) rfl | omega | (simp only [Around.deeper, Around.in1]; omega)); (case zhu => first | exact room_b (by with_reducible assumption) rfl | exact room_a (by with_reducible assumption) rfl | omega | (simp only [Around.deeper, Around.in1]; omega)); intro _ _ _ _ _; (try k_sweep); (try dsimp only)) | (k_unfold; (try dsimp only)) | (walk1; (try dsimp only)) | (dsimp only; walk1) | fail "no step"))
  rename Fr _ _ _ _ => F1
  rename News _ _ _ _ => N1
  obtain ⟨oL, hoL, hLd⟩ := ns_dict F1.ns
  refine conR_lev w host _ a b ta tb ti tr td i r d 0 ha hb hn mean mg mb _ _ _ _ g (_ :: fr) ((L, oL) :: fl) F1.keep (Nat.le_trans F1.above (Nat.le_of_lt (Heap.lt_size hoL))) ⟨X, T⟩ ?hold ⟨?md, rfl, hLd, hfr⟩ rfl rfl ?dp ?un ?_
  case md => exact (by decide : ScopeKind.function ≠ ScopeKind.module)
  case dp => (first | exact room_b (by with_reducible assumption) rfl | exact room_a (by with_reducible assumption) rfl | omega | (simp only [Around.deeper, Around.in1]; omega))
  case un => (first | exact room_b (by with_reducible assumption) rfl | exact room_a (by with_reducible assumption) rfl | omega | (simp only [Around.deeper, Around.in1]; omega))
  case hold =>
    intro p hp
    simp only [List.cons_append, List.nil_append, List.mem_cons] at hp
    rcases hp with e | e | hp
    · have := N1 _ List.mem_cons_self
      rw [e]; exact ⟨this.1, this.2.2⟩
    · rw [e]; exact ⟨hoL, fr_none F1⟩
    · have := N1 p (List.mem_cons_of_mem _ hp)
      exact ⟨this.1, this.2.2⟩
  intro e a0 h' tk' hfl S
  refine x_caught hfr F1 hoL hfl S X T (fun h'' F'' S'' => ?_) rfl rfl PassesOwnAt.never
  clear F1 N1
  dsimp only
  (repeat' ((fail_if_success (with_reducible show wpAny _ _ (exec (Stmt.For _ _ _ _ _) _) _ _ _)); (fail_if_success (with_reducible show wpAny _ _ (exec (Stmt.While _ _ _ _) _) _ _ _)); (fail_if_success (with_reducible show wpAny _ _ (pyIter _) _ _ _)); (fail_if_success (with_reducible show wpAny _ _ (exec (Stmt.Assign _ (Expr.ListComp _ _ _ _) _) _) _ _ _)); (fail_if_success (with_reducible show wpAny _ _ (eval (Expr.ListComp _ _ _ _) _) _ _ _)); first | (((with_reducible show wpAny _ _ (exec (Stmt.Try _ _ _ _ _) _) _ _ _); (refine wpAny_Try_except ?_)); (try dsimp only)) | (((with_reducible show wpAny _ _ (call (Value.ref 121) _) _ _ _); k_dflt (refine' con_use1 (con_lev _ _ _ _ _ _ _ _ _ _ _ _ _ _ ?zl1 ?zl2 ?zl3 ?zl4) ?zF ?zN ?zX ?zT ?zhl ?zU ?zhA ?zhd ?zhu ?_; (case zF => k_asm); (case zN => k_asm); (case zX => k_asm); (case zT => k_asm); (case zl1 => omega); (case zl2 => omega); (case zl3 => with_reducible assumption); (case zl4 => with_reducible assumption); (case zhl => rfl); (case zU => kwd_less); (case zhA => rfl); (case zhd => (first | exact room_b (by with_reducible assumption) rfl | exact room_a (by with_reducible assumption) rfl | omega | (simp only [Around.deeper, Around.in1]; omega))); (case zhu => (first | exact room_b (by with_reducible assumption) rfl | exact room_a (by with_reducible assumption) rfl | omega | (simp only [Around.deeper, Around.in1]; omega)))); intro _ _ _ _ _ r'; obtain ⟨t', e'⟩ := r'; subst e'); (try dsimp only)) | ((with_reducible show wpAny _ _ (call (Value.ref _) _) _ _ _); k_dflt (refine' con_useI ?zC ?zF ?zN ?zX ?zT ?zhA ?zhd ?zhu ?_); (case zC => first | (first | exact con_distance _ _ _ _ _ _ _ _ _ _ _ (by omega) (by omega) | exact con_whole _ _ _ (by with_reducible assumption) (by with_reducible assumption)) | (first | exact con_least _ | exact con_greatest _) | exact con_distance _ _ _ _ _ _ _ _ _ _ _ (by omega) (by omega)); (case zF => k_asm); (case zN => k_asm); (case zX => k_asm); (case zT => k_asm); (case zhA => rfl); (case zhd => first | exact room_b (by with_reducible assumption) rfl | exact room_a (by with_reducible assumption) rfl | omega | (simp only [Around.deeper, Around.in1]; omega)); (case zhu => first | exact room_b (by with_reducible assumption) rfl | exact room_a (by with_reducible assumption) rfl | omega | (simp only [Around.deeper, Around.in1]; omega)); intro _ _ _ _ _; (try k_sweep); (try dsimp only)) | (k_unfold; (try dsimp only)) | (walk1; (try dsimp only)) | (dsimp only; walk1) | fail "no step"))
  exact hret _ _ _ F''.keep S'' rfl
end
section
theorem rev_cps (x : Str) (u : Tok) : (Txt.sliceBy x none none (-1, u)).cps.toList = x.cps.toList.reverse := by
  rw [step_rev_list]
  have hl := len_cps x
  apply List.ext_getElem
  · simp [hl]
  · intro k h1 h2
    simp only [List.length_map, List.length_range] at h1
    have h3 : x.length - 1 - k < x.cps.size := by show _ < x.length; omega
    simp only [List.getElem_map, List.getElem_range, List.getElem_reverse, Array.length_toList, Array.getElem_toList]
    rw [Array.getD, dif_pos h3]
    rfl
theorem con_law_is_least (w : World) (host : Value) (a b : Str) (ta tb ti tr td : Tok) (i r d : Int) (ha : a.length < 100) (hb : b.length < 100)
    (h1 : -(2 ^ 63) ≤ dist a.cps.toList b.cps.toList i r d) (h2 : dist a.cps.toList b.cps.toList i r d ≤ 2 ^ 63 - 1) :
    ConB w 303 12 300 [host, .str a ta, .str b tb, .int i ti, .int r tr, .int d td] true := by
  ((have hfill : ∀ P : Params, PySem.Challenge.rw_pc0254_01.row.prog = PySem.Challenge.rw_pc0254_01.row.prog ∧ hd.heap_39 P = hd.heap_39 P := fun _ => ⟨rfl, rfl⟩); revert hfill; k_fill; intro hfill; clear hfill)
  k_dflt (refine' con_enter (binds := [(Str.ofString "host", host), (Str.ofString "a", .str a ta), (Str.ofString "b", .str b tb), (Str.ofString "into", .int i ti), (Str.ofString "other", .int r tr), (Str.ofString "away", .int d td)]) ?k6 ?k7 ?k9 ?kB ?k8 ?_ ?c5 ?c2 ?c3 ?c4; ((case k6 => k_is); (case k7 => k_is); (case k8 => decide); (case k9 => exact fun _ => BindsTo.of_eq rfl); (case c5 => decide); (case kB => exact locs rfl); (case c2 => exact rfl); (case c3 => exact rfl); (case c4 => exact rfl)))
  intro mean mg mb dp fr gd un s Q g L h₁ F N X T hdp hun hret
  have e1 : bst i r d a.cps.toList b.cps.toList = dist a.cps.toList b.cps.toList i r d := (dist_bst _ _).symm
  have e2 := dist_swap (i := i) (r := r) (d := d) a.cps.toList b.cps.toList
  have e3 := dist_reverse (i := i) (r := r) (d := d) a.cps.toList b.cps.toList
  (try k_fold)
  (repeat' ((fail_if_success (with_reducible show wpAny _ _ (exec (Stmt.For _ _ _ _ _) _) _ _ _)); (fail_if_success (with_reducible show wpAny _ _ (exec (Stmt.While _ _ _ _) _) _ _ _)); (fail_if_success (with_reducible show wpAny _ _ (pyIter _) _ _ _)); (fail_if_success (with_reducible show wpAny _ _ (exec (Stmt.Assign _ (Expr.ListComp _ _ _ _) _) _) _ _ _)); (fail_if_success (with_reducible show wpAny _ _ (eval (Expr.ListComp _ _ _ _) _) _ _ _)); first | ((with_reducible show wpAny _ _ (call (Value.ref _) _) _ _ _); k_dflt (refine' con_useI ?zC ?zF ?zN ?zX ?zT ?zhA ?zhd ?zhu ?_); (case zC => (first | exact con_law_best _ _ _ _ _ _ _ _ _ _ _ (by omega) (by omega) | exact con_distance _ _ _ _ _ _ _ _ _ _ _ (by omega) (by omega) | exact con_distance _ _ _ _ _ _ _ _ _ _ _ (by rw [step_rev_len]; omega) (by rw [step_rev_len]; omega) | exact con_law_told _ _ _ _ _ _ _ _ _ _ _ _ (by omega) (by omega) (by with_reducible assumption) (by with_reducible assumption))); (case zF => k_asm); (case zN => k_asm); (case zX => k_asm); (case zT => k_asm); (case zhA => rfl); (case zhd => first | exact room_b (by with_reducible assumption) rfl | exact room_a (by with_reducible assumption) rfl | omega | (simp only [Around.deeper, Around.in1]; omega)); (case zhu => first | exact room_b (by with_reducible assumption) rfl | exact room_a (by with_reducible assumption) rfl | omega | (simp only [Around.deeper, Around.in1]; omega)); intro _ _ _ _ _; (try k_sweep); (try dsimp only)) | (k_unfold; (try dsimp only)) | (walk1; (try dsimp only)) | (dsimp only; walk1) | fail "no step"))
  all_goals (try (simp only [show (2 : Int) ^ Int.toNat 63 = 9223372036854775808 from rfl] at *; exfalso; omega))
  refine hret _ [] _ _ _ _ (by assumption) (by assumption) sub_nil ⟨congrArg Value.bool ?_, rfl⟩
  rw [rev_cps, rev_cps, e3, e1]
  exact beq_self_eq_true _
theorem slotted_list {h' : Heap} : ∀ {fr : List Env} {fl : List (Addr × Obj)}, FrOk fr fl → Slotted fl h' → ∃ fl', FrOk fr fl' ∧ (∀ p ∈ fl', h'.get? p.1 = some p.2 ∧ ∃ q ∈ fl, q.1 = p.1) ∧ (∀ h'', Slotted fl' h'' → Slotted fl h'')
  | [], [], _, _ => ⟨[], trivial, fun _ hp => (List.not_mem_nil hp).elim, fun _ S => S⟩
  | env :: fr, p :: fl, H, S => by
    obtain ⟨sl, e⟩ := S p List.mem_cons_self
    obtain ⟨fl', h1, h2, h3⟩ := slotted_list H.2.2.2 fun q hq => S q (List.mem_cons_of_mem _ hq)
    refine ⟨(p.1, { p.2 with slots := sl }) :: fl', ⟨H.1, H.2.1, H.2.2.1, h1⟩, fun q hq => ?_, fun h'' S' q hq => ?_⟩
    · rcases List.mem_cons.mp hq with rfl | hq
      · exact ⟨e, p, List.mem_cons_self, rfl⟩
      · obtain ⟨a, r, b, c⟩ := h2 q hq
        exact ⟨a, r, List.mem_cons_of_mem _ b, c⟩
    · rcases List.mem_cons.mp hq with rfl | hq
      · obtain ⟨sl', e'⟩ := S' _ List.mem_cons_self
        exact ⟨sl', e'⟩
      · exact h3 h'' (fun q hq => S' q (List.mem_cons_of_mem _ hq)) q hq
  | [], _ :: _, H, _ => H.elim
  | _ :: _, [], H, _ => H.elim
section
variable {w : World} {dp un : Nat} {gd : Option (List Code)} {g : Heap} {fr : List Env} {fl : List (Addr × Obj)} {L a : Addr} {m : Str → Option Value} {qual : Str} {scope : Scope} {cd : Value} {s : Shared} {E : Value → Shared → Prop} {mean : ExcName → Option Value} {mg mb : Str → Option Value}
theorem con_useF {f : Addr} {d u : Nat} {vs : List Value} {R : Value → Prop} {Q : Value → Shared → Prop} (C : ConF w f d u vs R) (hfr : FrOk fr fl) (F : Fr g L s.heap m) (N : News g L s.heap fl) (X : (hd.heap_39 w.params).In g) (T : Top hd.view_39 (looseW hd.view_39 []) mean mg mb g)
    (hdp : dp + 1 + d < recursionLimit) (hun : un + 3 + u < cLine) (hk : scope.kind ≠ .module)
    (h : ∀ v h' tk fl', Fr g L h' m → News g L h' fl' → FrOk fr fl' → (∀ h'', Slotted fl' h'' → Slotted fl h'') → R v → Q v { s with heap := h', toks := tk }) :
    wpAny (model PySem.Challenge.rw_pc0254_01.row.prog w) (Around.deeper ⟨none, dp, some fr, gd, un⟩ (envX qual scope L a cd [])) (call (.ref f) vs) Q E s := by
  obtain ⟨oL, hoL, hLd⟩ := ns_dict F.ns
  refine wpAny_noRaise (C mean mg mb _ s Q g (envX qual scope L a cd [] :: fr) ((L, oL) :: fl) F.keep (Nat.le_trans F.above (Nat.le_of_lt (Heap.lt_size hoL))) ⟨X, T⟩ (fun p hp => ?_) ⟨hk, rfl, hLd, hfr⟩ rfl rfl hdp hun ?_)
  · rcases List.mem_cons.mp hp with e | hp
    · rw [e]; exact ⟨hoL, fr_none F⟩
    · exact ⟨(N p hp).1, (N p hp).2.2⟩
  · intro v h' tk hg S hR
    obtain ⟨sl, e⟩ := S _ List.mem_cons_self
    obtain ⟨fl', h1, h2, h3⟩ := slotted_list hfr fun q hq => S q (List.mem_cons_of_mem _ hq)
    refine h v h' tk fl' ⟨ns_slots F.ns hoL e, hg, F.above⟩ (fun p hp => ?_) h1 h3 hR
    obtain ⟨k1, q, k2, k3⟩ := h2 p hp
    exact ⟨k1, k3 ▸ (N q k2).2.1, k3 ▸ (N q k2).2.2⟩
theorem con_useF0 {A : Around} {f : Addr} {d u : Nat} {vs : List Value} {R : Value → Prop} {Q : Value → Shared → Prop} {h₀ : Heap} {news : List (Addr × Obj)} {env : Env} (C : ConF w f d u vs R) (F : Fr h₀ L s.heap m) (N : News h₀ L s.heap news) (X : (hd.heap_39 w.params).In h₀) (T : Top hd.view_39 (looseW hd.view_39 []) mean mg mb h₀)
    (hA0 : A.frames = some [env]) (he : env.frame = some L) (hk : env.scope.kind ≠ .module) (hA : A.handled = none) (hdp : A.depth + d < recursionLimit) (hun : A.units + u < cLine)
    (h : ∀ v h' tk, Fr h₀ L h' m → News h₀ L h' news → R v → Q v { s with heap := h', toks := tk }) :
    wpAny (model PySem.Challenge.rw_pc0254_01.row.prog w) A (call (.ref f) vs) Q E s := by
  obtain ⟨oL, hoL, hLd⟩ := ns_dict F.ns
  have st : ∀ b o, h₀.get? b = some o → (hideAll s.heap [L]).get? b = some o := fun b o e => hideAll_get _ (F.keep b o e) fun q => by
    rw [List.mem_singleton.mp q, fr_none F] at e; cases e
  refine wpAny_noRaise (C mean mg mb A s Q (hideAll s.heap [L]) [env] [(L, oL)] (fun b o e => of_hideAll _ e) (Nat.le_of_eq (hideAll_size _ _)) ⟨X.keeps st, T.keeps st⟩ (fun p hp => ?_) ⟨hk, he, hLd, trivial⟩ hA0 hA hdp hun ?_)
  · rw [List.mem_singleton.mp hp]; exact ⟨hoL, hideAll_none _ List.mem_cons_self⟩
  · intro v h' tk hg S hR
    obtain ⟨sl, e⟩ := S _ List.mem_cons_self
    refine h v h' tk ⟨ns_slots F.ns hoL e, fun b o hb => hg _ _ (st b o hb), F.above⟩ (fun p hp => ⟨hg _ _ (hideAll_get _ (N p hp).1 (fun q => (N p hp).2.1 (List.mem_singleton.mp q))), (N p hp).2⟩) hR
end
theorem conF_law_is_least (w : World) (host : Value) (a b : Str) (ta tb ti tr td : Tok) (i r d : Int) (ha : a.length < 100) (hb : b.length < 100)
    (hn : dist a.cps.toList b.cps.toList i r d < -(2 ^ 63) ∨ 2 ^ 63 - 1 < dist a.cps.toList b.cps.toList i r d) :
    ConF w 303 15 300 [host, .str a ta, .str b tb, .int i ti, .int r tr, .int d td] (fun v => v = .bool true) := by
  ((have hfill : ∀ P : Params, PySem.Challenge.rw_pc0254_01.row.prog = PySem.Challenge.rw_pc0254_01.row.prog ∧ hd.heap_39 P = hd.heap_39 P := fun _ => ⟨rfl, rfl⟩); revert hfill; k_fill; intro hfill; clear hfill)
  k_dflt (refine' con_enterF (binds := [(Str.ofString "host", host), (Str.ofString "a", .str a ta), (Str.ofString "b", .str b tb), (Str.ofString "into", .int i ti), (Str.ofString "other", .int r tr), (Str.ofString "away", .int d td)]) ?k6 ?k7 ?k9 ?kB ?k8 ?_ ?c5 ?c2 ?c3 ?c4; ((case k6 => k_is); (case k7 => k_is); (case k8 => decide); (case k9 => exact fun _ => BindsTo.of_eq rfl); (case c5 => decide); (case kB => exact locs rfl); (case c2 => exact rfl); (case c3 => exact rfl); (case c4 => exact rfl)))
  intro mean mg mb dp gd un s Q g fr fl L h₁ F N hfr X T hdp hun hlt hret
  have e1 : bst i r d a.cps.toList b.cps.toList = dist a.cps.toList b.cps.toList i r d := (dist_bst _ _).symm
  have e2 := dist_swap (i := i) (r := r) (d := d) a.cps.toList b.cps.toList
  have e3 := dist_reverse (i := i) (r := r) (d := d) a.cps.toList b.cps.toList
  (try k_fold)
  (repeat' ((fail_if_success (with_reducible show wpAny _ _ (exec (Stmt.For _ _ _ _ _) _) _ _ _)); (fail_if_success (with_reducible show wpAny _ _ (exec (Stmt.While _ _ _ _) _) _ _ _)); (fail_if_success (with_reducible show wpAny _ _ (pyIter _) _ _ _)); (fail_if_success (with_reducible show wpAny _ _ (exec (Stmt.Assign _ (Expr.ListComp _ _ _ _) _) _) _ _ _)); (fail_if_success (with_reducible show wpAny _ _ (eval (Expr.ListComp _ _ _ _) _) _ _ _)); first | (((with_reducible show wpAny _ _ (call (Value.ref 296) _) _ _ _); k_dflt (refine' con_useF (conF_law_told _ _ _ _ _ _ _ _ _ _ _ _ ?zl1 ?zl2 ?zl3) ?zfr ?zF ?zN ?zX ?zT ?zhd ?zhu ?zhk ?_; (case zF => k_asm); (case zN => k_asm); (case zfr => assumption); (case zX => k_asm); (case zT => k_asm); (case zl1 => omega); (case zl2 => omega); (case zl3 => assumption); (case zhd => omega); (case zhu => omega); (case zhk => exact (by decide : ScopeKind.function ≠ ScopeKind.module))); intro _ _ _ _ _ _ _ _ r'; subst r'); (try dsimp only)) | ((with_reducible show wpAny _ _ (call (Value.ref _) _) _ _ _); k_dflt (refine' con_useI ?zC ?zF ?zN ?zX ?zT ?zhA ?zhd ?zhu ?_); (case zC => (first | exact con_law_best _ _ _ _ _ _ _ _ _ _ _ (by omega) (by omega) | exact con_distance _ _ _ _ _ _ _ _ _ _ _ (by omega) (by omega) | exact con_distance _ _ _ _ _ _ _ _ _ _ _ (by rw [step_rev_len]; omega) (by rw [step_rev_len]; omega) | exact con_law_told _ _ _ _ _ _ _ _ _ _ _ _ (by omega) (by omega) (by with_reducible assumption) (by with_reducible assumption))); (case zF => k_asm); (case zN => k_asm); (case zX => k_asm); (case zT => k_asm); (case zhA => rfl); (case zhd => first | exact room_b (by with_reducible assumption) rfl | exact room_a (by with_reducible assumption) rfl | omega | (simp only [Around.deeper, Around.in1]; omega)); (case zhu => first | exact room_b (by with_reducible assumption) rfl | exact room_a (by with_reducible assumption) rfl | omega | (simp only [Around.deeper, Around.in1]; omega)); intro _ _ _ _ _; (try k_sweep); (try dsimp only)) | (k_unfold; (try dsimp only)) | (walk1; (try dsimp only)) | (dsimp only; walk1) | fail "no step"))
  all_goals (try (simp only [show (2 : Int) ^ Int.toNat 63 = 9223372036854775808 from rfl] at *; exfalso; omega))
  all_goals
    rename Fr _ _ _ _ => F2
    rename News _ _ _ _ => N2
    rename ∀ h'' : Heap, Slotted _ h'' → Slotted _ h'' => S2
    refine hret _ _ _ F2.keep (S2 _ (Slotted.of fun p hp => (N2 p hp).1)) (congrArg Value.bool ?_)
    rw [rev_cps, rev_cps, e3, e1]
    exact beq_self_eq_true _
end
section
section
variable {w : World} {f : Addr} {d u : Nat} {P : Heap → Prop} {vs : List Value} {R : Value → List (Addr × Obj) → Prop}
noncomputable def ConG (w : World) (f : Addr) (d u : Nat) (P : Heap → Prop) (vs : List Value) (R : Value → List (Addr × Obj) → Prop) : Prop :=
  ∀ (mean : ExcName → Option Value) (mg mb : Str → Option Value) (A : Around) (s : Shared) (Q : Value → Shared → Prop) (g : Heap), P g →
    (∀ b o, g.get? b = some o → s.heap.get? b = some o) → g.objs.size ≤ s.heap.objs.size → Gd w mean mg mb g → A.frames = some [] → A.handled = none → A.depth + d < recursionLimit → A.units + u < cLine →
    (∀ v new h' tk, (∀ b o, g.get? b = some o → h'.get? b = some o) → (∀ p ∈ new, h'.get? p.1 = some p.2 ∧ g.get? p.1 = none) → R v new → Q v { s with heap := h', toks := tk }) →
    codeAny (model PySem.Challenge.rw_pc0254_01.row.prog w) A (.call (.ref f) ⟨vs, []⟩) (fun r s' => match r with | .ok (.ret v) => Q v s' | .ok _ => False | .error _ => False) s
theorem cong_enterC {name qual : Str} {params : Arguments} {body : List Stmt} {scope : Scope} {dV kV doc pm cdv ct oc : Value} {an od : Option Addr} {osl : Array (Option Value)} (binds locs : List (Str × Value)) (cs : Addr → List (Str × Addr))
    (ho : (hd.heap_39 w.params).lookup f = some ⟨oc, od, .func (fnX name qual params body scope [] dV kV doc pm an cdv ct), osl⟩) (hcd : codeIn (hd.heap_39 w.params) cdv qual = true)
    (hbind : ∀ s, BindsTo s (fnX name qual params body scope [] dV kV doc pm an cdv ct) ⟨vs, []⟩ binds) (hkind : (binds.all fun y => scope.names.lookup y.1 == some .local || scope.names.lookup y.1 == some .cell) = true) (hd1 : 0 < d)
    (hnd : ((cellsFrom 0 scope.names []).map (·.1)).Nodup)
    (hlocs : ∀ L, bindL (envOfC qual scope L f cdv).kindOf binds (fun _ => none) = kstB (fun _ => none) locs)
    (hcs : ∀ L, cellsFrom (L + 1) scope.names [] = cs L)
    (h : ∀ (mean : ExcName → Option Value) (mg mb : Str → Option Value) (dp : Nat) (gd : Option (List Code)) (un : Nat) (s : Shared) (Q : Value → Shared → Prop) (g : Heap) (L : Addr) (h₁ : Heap) (tk : Nat) (cells : List (Addr × Obj)), P g →
      Fr g L h₁ (kstB (fun _ => none) locs) → News g L h₁ cells → CellsAre (bindC (envOfC qual scope L f cdv).kindOf binds fun _ => none) (cs L) cells →
      (hd.heap_39 w.params).In g → Top hd.view_39 (looseW hd.view_39 []) mean mg mb g → dp + d < recursionLimit → un + u < cLine →
      (∀ v new h' tk m' news', Fr g L h' m' → News g L h' news' → (∀ p ∈ new, p ∈ news') → R v new → Q v { s with heap := h', toks := tk }) →
      wpAny (model PySem.Challenge.rw_pc0254_01.row.prog w) (Around.deeper ⟨none, dp, some [], gd, un⟩ (envX qual scope L f cdv (cs L))) (execs body (envX qual scope L f cdv (cs L)))
        (fun fl s' => Q (match fl with | .ret v => v | _ => .none) s') (fun _ _ => False) { s with heap := h₁, toks := tk })
    (hco : scope.isCoroutine = false) (hgen : scope.isGenerator = false) (hk : scope.kind = .function) :
    ConG w f d u P vs R := by
  intro mean mg mb A s Q g hP hg hsz G hA0 hA hdp hun hret
  obtain ⟨hd', dp, fr, gd, un⟩ := A
  dsimp only at hA hdp hun hA0
  subst hA hA0
  refine codeAny_call_function (by dsimp only; omega) (hg _ _ (G.k _ _ ho)) rfl hco hgen rfl (codeRec_of (G.k.keeps hg) hcd) (hbind s _ _ _ _ ?_)
  refine wpAny_newFunctionEnv_cells hk (kindsX hkind _) fun env' he s' x => ?_
  subst he
  refine ⟨(G.t.nolimit.keeps hg).keeps x.toInCall.keep, codeAny_func ?_⟩
  obtain ⟨h₁, tk, rfl, _⟩ := x.done
  have hk₁ := x.toInCall.keep
  obtain ⟨cells, NC, Y⟩ := Cl.news (h₀ := s.heap) (Nat.le_refl _) fun n c hm => ⟨x.cell n c (lookup_of_mem_nodup (cellsFrom_names scope.names 0 (s.heap.objs.size + 1) [] [] rfl ▸ hnd) hm), x.above n c hm⟩
  have F := x.toInCall.ns
  have hL := hlocs s.heap.objs.size
  have hC := hcs s.heap.objs.size
  have F1 : Fr g s.heap.objs.size h₁ (kstB (fun _ => none) locs) := ⟨hL ▸ F, fun b o e => hk₁ b o (hg b o e), hsz⟩
  have N1 : News g s.heap.objs.size h₁ cells := fun p hp => by
    refine ⟨(NC p hp).1, (NC p hp).2.1, ?_⟩
    cases q : g.get? p.1 with
    | none => rfl
    | some o => have := hg _ _ q; rw [(NC p hp).2.2] at this; cases this
  have Y1 : CellsAre (bindC (envOfC qual scope s.heap.objs.size f cdv).kindOf binds fun _ => none) (cs s.heap.objs.size) cells := hC ▸ Y
  have main := h mean mg mb dp gd un s Q g s.heap.objs.size h₁ tk cells hP F1 N1 Y1 G.k G.t hdp hun ?_
  · rw [← hC] at main
    exact wpAny_mono main (fun _ _ x => x) (fun _ _ x => x.elim)
  · intro v new h' tk' m' news' F N hn hR
    exact hret v new h' tk' F.keep (fun p hp => ⟨(N p (hn p hp)).1, (N p (hn p hp)).2.2⟩) hR
end
end
section
section
variable {prog : Program} {w : World} {A : Around} {E : Value → Shared → Prop} {s : Shared} {env : Env} {h₀ : Heap} {L : Addr} {x : Str} {body : List Stmt} {Q : Flow → Shared → Prop}
noncomputable abbrev tupOf (items : Array Value) (n : Nat) : Obj := { cls := .type "tuple", data := .seq items n }
theorem m_for_tup {σ : Type} {l : Addr} {items : Array Value} {nn : Nat} {m₀ : Str → Option Value} {news : List (Addr × Obj)}
    (Led : σ → List (Addr × Obj)) (ps : σ → List (Str × Value)) (J : Nat → σ → Prop) (keep : List (Addr × Obj))
    (hh : A.handled = none) (F : Fr h₀ env.locals s.heap m₀) (N : News h₀ env.locals s.heap news) (hkn : ∀ p ∈ keep, p ∈ news) (hl : (l, tupOf items nn) ∈ keep)
    (start : ∃ c₀, (∀ p ∈ Led c₀, p ∈ news) ∧ Names m₀ (ps c₀) ∧ J 0 c₀)
    (solid : ∀ i c, J i c → AllSolid (Led c))
    (turn : ∀ i v c u h tk own, items[i]? = some v → J i c → (∀ q ∈ own, q ∈ keep ∨ ∀ p ∈ Led c, q.1 ≠ p.1) → (∀ q ∈ keep, q ∈ own) →
      Fr h₀ env.locals h (fun y => if y = x then some v else kstB u (ps c) y) → News h₀ env.locals h (Led c ++ own) →
      wpAny (model prog w) A (execs body env) (ForEnd h₀ env.locals { s with heap := h, toks := tk } Led ps (J (i + 1)) own Q) E { s with heap := h, toks := tk })
    (done : ∀ c u h tk, J items.size c → Fr h₀ env.locals h (kstB u (ps c)) → News h₀ env.locals h (Led c ++ keep) → Q .next { s with heap := h, toks := tk }) :
    wpAny (model prog w) A (pyIter (.ref l)) (fun it s₂ => LoopAtV prog w A h₀ env x body Q E it s₂) E s := by
  have hol : s.heap.get? l = some (tupOf items nn) := (N _ (hkn _ hl)).1
  have hls : s.heap.IsTuple l items := ⟨_, hol, rfl, nn, rfl⟩
  have hne : l ≠ s.heap.objs.size := Nat.ne_of_lt (Heap.lt_size hol)
  refine wpAny_pyIter_tuple hls ?_
  refine m_for Led ps J keep ⟨Walks.tuple hh s.heap.objs.size l hne items, fun i h st => ?_⟩ ⟨⟨_, Heap.get?_push_size _ rfl, rfl, rfl⟩, hls.at fun o e => Heap.get?_push_of_some _ e⟩ (F.push _) (fun p hp => ⟨Heap.get?_push_of_some _ (N p hp).1, (N p hp).2⟩) (fresh_of F) ?_ (keep_off N hkn) hkn ?_ start solid ?_ done
  · obtain ⟨⟨o, h1, _, h2⟩, _⟩ := st
    exact ⟨o, _, h1, h2⟩
  · intro hm
    rcases List.mem_cons.mp hm with hm | hm
    · exact absurd F.ns.lt (hm ▸ Nat.lt_irrefl _)
    · exact (N _ (hkn _ hl)).2.1 (List.mem_singleton.mp hm).symm
  · intro b hb
    rcases List.mem_cons.mp hb with hb | hb
    · exact .inl hb
    · rw [List.mem_singleton.mp hb]; exact .inr (.inr ⟨_, hl⟩)
  · rintro i v c u h tk own _ hP hJ hs hk F' N'
    exact turn i v c u h tk own hP hJ hs hk F' N'
end
end
section
section
variable {w : World} {mean : ExcName → Option Value} {mg mb : Str → Option Value} {A : Around} {s : Shared} {Q E : Value → Shared → Prop} {h₀ : Heap} {L : Addr} {m : Str → Option Value} {news : List (Addr × Obj)}
theorem my_host (F : Fr h₀ L s.heap m) (N : News h₀ L s.heap news) (X : (hd.heap_39 w.params).In h₀) (T : Top hd.view_39 (looseW hd.view_39 []) mean mg mb h₀)
    (hA : A.handled = none) (hdp : A.depth + 6 < recursionLimit) (hun : A.units + 201 < cLine)
    (h : ∀ x dx es n l h' tk, Fr h₀ L h' m → News h₀ L h' ((x, instObj 259 dx) :: (dx, dictOf es n) :: (l, listOf #[] 0) :: news) → getL (Str.ofString "notes") es = some (some (.ref l)) → Q (.ref x) { s with heap := h', toks := tk }) :
    wpAny (model PySem.Challenge.rw_pc0254_01.row.prog w) A (call (.ref 259) []) Q E s :=
  con_use0 (con_host w) F N X T hA hdp hun fun v new h' tk F' N' ⟨x, dx, es, n, l, e1, e2, e3⟩ => by subst e1 e2; exact h x dx es n l h' tk F' N' e3
theorem my_slice3G {prog : Program} {l : Addr} {value slice : PySem.Expr} {vl vu vk : Value} {lo hi st : Option Int} {vs : List Value} {ns : List Int} {h₁ : Heap} {gg dd tt oo} {ops : List Value} {Q : Value → Shared → Prop} (F : Fr h₀ L h₁ m) (N : News h₀ L h₁ news) (hm : h₁.IsList l vs.toArray) (hI : IntsAre vs ns) (pl : IsPart vl lo) (pu : IsPart vu hi) (pk : IsPart vk st) (h0 : st ≠ some 0) (hz : vs.length ≤ sizeLine)
    (h : ∀ D ws ms h', Fr h₀ L h' m → News h₀ L h' ((D, listOf (List.toArray ws) 0) :: news) → (∀ p ∈ news, p.1 < D) → IntsAre ws ms → ms.length ≤ vs.length → Q (.ref D) { heap := h', gens := gg, drawn := dd, toks := tt, os := oo })
    (hs : subscripted slice false (.ref l) (.ref h₁.objs.size) = operate ops (getItem (.ref l) (.ref h₁.objs.size))) (ht : ∀ r, letTemporaryGo value (.ref l) r = pure ()) :
    wpAny (model prog w) A (subscriptTail value slice (.ref l) (.ref h₁.objs.size)) Q E { heap := h₁.push { cls := .type "slice", data := .fields #[vl, vu, vk] }, gens := gg, drawn := dd, toks := tt, os := oo } := by
  obtain ⟨ms, hms⟩ := ints_pick (lo := lo) (hi := hi) (st := st) hI
  refine kmk_slice3_lit (s := { heap := h₁, gens := gg, drawn := dd, toks := tt, os := oo }) F N hm pl pu pk h0 rfl (fun D h' F' N' l1 => h D _ ms h' F' N' l1 hms ?_) hs ht (by simpa using hz)
  rw [← hms.length, Array.length_toList]
  exact slicePick_size_le vs.toArray lo hi st
theorem my_pen {S : Addr} {vs : List Value} {ns : List Int} {n : Nat} {nth : Int} {tn : Tok} (F : Fr h₀ L s.heap m) (N : News h₀ L s.heap news) (hS : (S, listOf vs.toArray n) ∈ news) (hI : IntsAre vs ns) (hv : vs.length < 100) (X : (hd.heap_39 w.params).In h₀) (T : Top hd.view_39 (looseW hd.view_39 []) mean mg mb h₀)
    (hA : A.handled = none) (hdp : A.depth + 1 < recursionLimit) (hun : A.units + 40 < cLine)
    (h : ∀ P k t u h' tk, Fr h₀ L h' m → News h₀ L h' ((P, penO k (17 * nth) t u 0) :: news) → S ≠ P → Q (.ref P) { s with heap := h', toks := tk }) :
    wpAny (model PySem.Challenge.rw_pc0254_01.row.prog w) A (call (.ref 270) [.ref S, .int nth tn]) Q E s :=
  con_use (con_law_pen w S vs ns n nth tn hI hv) F N X T (fun p hp => by rw [List.mem_singleton.mp hp]; exact hS) hA hdp hun fun v new h' tk F' N1 N2 ⟨P, k, t, u, e1, e2, e3⟩ => by
    subst e1 e2
    refine h P k t u h' tk F' (fun p hp => ?_) (Ne.symm e3)
    rcases List.mem_cons.mp hp with e | hp
    · rw [e]; exact N1 _ List.mem_cons_self
    · by_cases q : p.1 = S
      · have e1 := (N p hp).1
        rw [q, (N _ hS).1] at e1
        have e2 : p = (S, listOf vs.toArray n) := Prod.ext q (Option.some.inj e1).symm
        rw [e2]; exact N1 _ (List.mem_cons_of_mem _ List.mem_cons_self)
      · exact N2 p hp (fun z => q (by simpa using z))
end
section
variable {w : World} {mean : ExcName → Option Value} {mg mb : Str → Option Value} {A : Around} {s : Shared} {Q E : Value → Shared → Prop} {h₀ : Heap} {L : Addr} {m : Str → Option Value} {news : List (Addr × Obj)}
theorem my_text {P : Addr} {n k most : Int} {t u tm ts : Tok} {e : Nat} {sg : Str} {go : Obj → List (Addr × Obj)} (F : Fr h₀ L s.heap m) (N : News h₀ L s.heap news) (X : (hd.heap_39 w.params).In h₀) (T : Top hd.view_39 (looseW hd.view_39 []) mean mg mb h₀)
    (U : ∀ o', UpdO P (penO n k t u e) o' news (go o')) (hk : 0 ≤ k ∧ k < 300) (hm : 0 ≤ most ∧ most < 50) (hs : 0 < sg.length ∧ sg.length < 50) (hA : A.handled = none) (hdp : A.depth + 3 < recursionLimit) (hun : A.units + 80 < cLine)
    (h : ∀ (xa : Str) t2 n' k' t' u' e' h' tk, Fr h₀ L h' m → News h₀ L h' (go (penO n' k' t' u' e')) → (xa.length : Int) ≤ most → k ≤ k' → k' ≤ k + most + 1 → Q (.str xa t2) { s with heap := h', toks := tk }) :
    wpAny (model PySem.Challenge.rw_pc0254_01.row.prog w) A (call (.ref 282) [.ref P, .str sg ts, .int most tm]) Q E s :=
  con_useU (con_law_text w P n k most t u tm ts e sg hk hm hs) F N X T rfl U hA hdp hun fun v o' h' tk F' N' ⟨⟨xs, t2, hv, hl, _⟩, n', k', t', u', e', ho, h1, h2⟩ => by
    subst hv ho
    exact h _ t2 n' k' t' u' e' h' tk F' N' (by rw [← len_cps]; exact hl) h1 h2
theorem my_edited {P : Addr} {n k i o d : Int} {t u tx ti to td : Tok} {e : Nat} {xs : Str} {go : Obj → List (Addr × Obj)} (F : Fr h₀ L s.heap m) (N : News h₀ L s.heap news) (X : (hd.heap_39 w.params).In h₀) (T : Top hd.view_39 (looseW hd.view_39 []) mean mg mb h₀)
    (U : ∀ o', UpdO P (penO n k t u e) o' news (go o')) (hk : 0 ≤ k ∧ k < 300) (hx : xs.length < 50) (hA : A.handled = none) (hdp : A.depth + 2 < recursionLimit) (hun : A.units + 80 < cLine)
    (h : ∀ (y : Str) ty c tc T' n' k' t' u' e' h' tk, Fr h₀ L h' m → News h₀ L h' ((T', tupSI y ty c tc) :: go (penO n' k' t' u' e')) → Ed i o d xs.cps.toList y.cps.toList c → y.length ≤ xs.length + 4 → k ≤ k' → k' ≤ k + 13 → Q (.ref T') { s with heap := h', toks := tk }) :
    wpAny (model PySem.Challenge.rw_pc0254_01.row.prog w) A (call (.ref 310) [.ref P, .str xs tx, .int i ti, .int o to, .int d td]) Q E s := by
  refine con_use (con_law_edited w P n k i o d t u tx ti to td e xs hk hx) F N X T (fun p hp => by rw [List.mem_singleton.mp hp]; exact (U (penO n k t u e)).mem) hA hdp hun fun v new h' tk F' N1 N2 hR => ?_
  obtain ⟨y, ty, c, tc, T', o', rfl, ⟨hed, hlen, n', k', t', u', e', rfl, hk1, hk2⟩, rfl⟩ := hR
  have U' := (U (penO n' k' t' u' e')).toUpd (N _ (U (penO n k t u e)).mem).1 rfl fun p hp => (N p hp).1
  refine h y ty c tc T' n' k' t' u' e' h' tk F' (fun p hp => ?_) hed hlen hk1 hk2
  rcases List.mem_cons.mp hp with q | hp
  · rw [q]; exact N1 _ (List.mem_cons_of_mem _ List.mem_cons_self)
  · rcases updRest U' p hp with q | ⟨h1, h2⟩
    · rw [q]; exact N1 _ List.mem_cons_self
    · exact N2 p h1 (fun q => h2 (by simpa using q))
theorem my_least {host : Value} {a b : Str} {ta tb ti tr td : Tok} {i r d : Int} {env : Env} (F : Fr h₀ L s.heap m) (N : News h₀ L s.heap news) (X : (hd.heap_39 w.params).In h₀) (T : Top hd.view_39 (looseW hd.view_39 []) mean mg mb h₀)
    (ha : a.length < 100) (hb : b.length < 100) (hA0 : A.frames = some [env]) (he : env.frame = some L) (hk : env.scope.kind ≠ .module) (hA : A.handled = none) (hdp : A.depth + 15 < recursionLimit) (hun : A.units + 300 < cLine)
    (h : ∀ h' tk, Fr h₀ L h' m → News h₀ L h' news → Q (.bool true) { s with heap := h', toks := tk }) :
    wpAny (model PySem.Challenge.rw_pc0254_01.row.prog w) A (call (.ref 303) [host, .str a ta, .str b tb, .int i ti, .int r tr, .int d td]) Q E s := by
  by_cases hr : -(2 ^ 63) ≤ dist a.cps.toList b.cps.toList i r d ∧ dist a.cps.toList b.cps.toList i r d ≤ 2 ^ 63 - 1
  · exact con_use0 (con_law_is_least w host a b ta tb ti tr td i r d ha hb hr.1 hr.2) F N X T hA (by omega) hun fun v new h' tk F' N' ⟨e1, e2⟩ => by subst e1 e2; exact h h' tk F' N'
  · exact con_useF0 (conF_law_is_least w host a b ta tb ti tr td i r d ha hb (by omega)) F N X T hA0 he hk hA hdp hun fun v h' tk F' N' e1 => by subst e1; exact h h' tk F' N'
end
theorem rest_nil {l : List (Addr × Obj)} {adr : List Addr} : ∀ p ∈ ([] : List (Addr × Obj)), p ∈ l ∧ p.1 ∉ adr := fun _ hp => nomatch hp
theorem rest_cons {a : Addr × Obj} {as l : List (Addr × Obj)} {adr : List Addr} (h1 : a ∈ l) (h2 : a.1 ∉ adr) (r : ∀ p ∈ as, p ∈ l ∧ p.1 ∉ adr) : ∀ p ∈ a :: as, p ∈ l ∧ p.1 ∉ adr := fun p hp => (List.mem_cons.mp hp).elim (fun e => e ▸ ⟨h1, h2⟩) (r p)
theorem ne_of_obj {g h : Heap} {L a b : Addr} {o o' : Obj} {news : List (Addr × Obj)} (N : News g L h news) (h1 : (a, o) ∈ news) (h2 : (b, o') ∈ news) (hne : o ≠ o') : a ≠ b := fun q => by
  have e1 := (N _ h1).1
  have e2 := (N _ h2).1
  dsimp only at e1 e2
  rw [q, e2] at e1
  exact hne (Option.some.inj e1).symm
theorem ints_three {acc : Array Value} {ys : List Int} (hJ : IntsAre acc.toList ys) (hl : ys.length = 3) (hb : ∀ n ∈ ys, -2 ≤ n ∧ n ≤ 5) :
    ∃ (a b c : Int) (ta tb tc : Tok), acc = #[.int a ta, .int b tb, .int c tc] ∧ (-2 ≤ a ∧ a ≤ 5) ∧ (-2 ≤ b ∧ b ≤ 5) ∧ (-2 ≤ c ∧ c ≤ 5) := by
  obtain ⟨al⟩ := acc
  dsimp only at hJ
  rcases ys with _ | ⟨a, _ | ⟨b, _ | ⟨c, _ | ⟨e, r⟩⟩⟩⟩ <;> simp at hl
  cases hJ with
  | cons _ ta h1 =>
    cases h1 with
    | cons _ tb h2 =>
      cases h2 with
      | cons _ tc h3 =>
        cases h3
        exact ⟨a, b, c, ta, tb, tc, rfl, hb a (by simp), hb b (by simp), hb c (by simp)⟩
noncomputable abbrev lawN (ci : Int) (ti : Tok) (x D : Addr) (ro ad : Int) (to ta : Tok) : Str → Option Value := fun y => if y = Str.ofString "away" then some (.int ad ta) else if y = Str.ofString "other" then some (.int ro to) else if y = Str.ofString "into" then some (.int ci ti) else if y = Str.ofString "host" then some (.ref x) else if y = Str.ofString "script" then some (.ref D) else none
noncomputable def LawIf (g : Heap) (L : Addr) (s : Shared) (ci : Int) (ti : Tok) (x D P : Addr) (led : List (Addr × Obj)) (f : Flow) (s' : Shared) : Prop :=
  f = Flow.next ∧ ∃ (h' : Heap) (tk' : Nat) (ro ad : Int) (to ta : Tok) (n3 k3 : Int) (t3 u3 : Tok) (e3 : Nat), s' = { s with heap := h', toks := tk' } ∧
    Fr g L h' (lawN ci ti x D ro ad to ta) ∧ News g L h' ((P, penO n3 k3 t3 u3 e3) :: led) ∧ 0 ≤ k3 ∧ k3 ≤ 10
theorem LawIf.intro {g : Heap} {L : Addr} {s : Shared} {ci : Int} {ti : Tok} {x D P : Addr} {led : List (Addr × Obj)} {h' : Heap} {tk' : Nat} {ro ad : Int} {to ta : Tok} {n3 k3 : Int} {t3 u3 : Tok} {e3 : Nat}
    (F : Fr g L h' (lawN ci ti x D ro ad to ta)) (N : News g L h' ((P, penO n3 k3 t3 u3 e3) :: led)) (h1 : 0 ≤ k3) (h2 : k3 ≤ 10) : LawIf g L s ci ti x D P led Flow.next { s with heap := h', toks := tk' } :=
  ⟨rfl, h', tk', ro, ad, to, ta, n3, k3, t3, u3, e3, rfl, F, N, h1, h2⟩
theorem names_o {o1 o2 a : Value} {r : Str → Option Value} (y : Str) : (if y = Str.ofString "other" then some o1 else if y = Str.ofString "away" then some a else if y = Str.ofString "other" then some o2 else r y) = (if y = Str.ofString "away" then some a else if y = Str.ofString "other" then some o1 else r y) := by
  by_cases y1 : y = Str.ofString "away"
  · subst y1; rw [if_neg (by decide), if_pos rfl, if_pos rfl]
  · by_cases y2 : y = Str.ofString "other"
    · rw [if_pos y2, if_neg y1, if_pos y2]
    · rw [if_neg y2, if_neg y1, if_neg y2, if_neg y1, if_neg y2]
theorem names_a {a1 a2 : Value} {r : Str → Option Value} (y : Str) : (if y = Str.ofString "away" then some a1 else if y = Str.ofString "away" then some a2 else r y) = (if y = Str.ofString "away" then some a1 else r y) := by
  by_cases y1 : y = Str.ofString "away"
  · rw [if_pos y1, if_pos y1]
  · rw [if_neg y1, if_neg y1, if_neg y1]
theorem Fr.cong {g h : Heap} {L : Addr} {m m' : Str → Option Value} (F : Fr g L h m) (e : ∀ y, m y = m' y) : Fr g L h m' := by rw [← funext e]; exact F
theorem my_storeC {prog : Program} {w : World} {A : Around} {s : Shared} {E : Value → Shared → Prop} {h₀ : Heap} {L : Addr} {m : Str → Option Value} {x : Str} {c : Addr} {o : Obj} {v₀ : Option Value} {v : Value} {own rest : List (Addr × Obj)} {Q : Unit → Shared → Prop} {env : Env} (F : Fr h₀ L s.heap m) (N : News h₀ L s.heap (own ++ (c, o) :: rest))
    (hc : env.cells.lookup x = some c) (hd : o.data = .cell v₀) (h1 : ApartOr c own) (h2 : ApartOr c rest) (hk : env.scope.kind = .function) (hl : env.kindOf x = some .cell)
    (h : ∀ h' o', Fr h₀ L h' m → News h₀ L h' (own ++ (c, o') :: rest) → o'.data = .cell (some v) → Q () { s with heap := h' }) :
    wpAny (model prog w) A (storeName env x v) Q E s := by
  have hap : ∀ {l : List (Addr × Obj)}, ApartOr c l → ∀ p ∈ l, p.1 ≠ c ∨ ∀ v, p.2.data ≠ .cell v := by
    intro l
    induction l with
    | nil => intro _ p hp; cases hp
    | cons q r ih =>
      intro H p hp
      rcases List.mem_cons.mp hp with e | hp
      · rw [e]; exact H.1
      · exact ih H.2 p hp
  have key : ∀ p, p ∈ own ++ (c, o) :: rest → (p.1 ≠ c ∨ ∀ v, p.2.data ≠ .cell v) → p.1 ≠ c := fun p hp hor e => by
    rcases hor with h3 | h3
    · exact h3 e
    · have h4 := (N p hp).1
      have h5 := (N (c, o) (List.mem_append_right _ (.head _))).1
      rw [e, h5] at h4
      cases h4
      exact h3 _ hd
  have hmem := N (c, o) (List.mem_append_right _ (.head _))
  refine wpAny_storeName_cell hk hl hc ⟨o, hmem.1, hd⟩ fun h' hv hs => ?_
  obtain ⟨o', ho', hd'⟩ := hv
  refine h h' o' ⟨F.ns.sameBut hs (Ne.symm hmem.2.1), fun b ob e => (hs.2 b (fun q => ?_)).trans (F.keep b ob e), F.above⟩ (N.setAt (fun p hp => key p (List.mem_append_left _ hp) (hap h1 p hp)) (fun p hp => key p (List.mem_append_right _ (List.mem_cons_of_mem _ hp)) (hap h2 p hp)) hs ho') hd'
  rw [q, hmem.2.2] at e; cases e
noncomputable def LawP (S : Addr) (vs : List Value) (g : Heap) : Prop := g.IsList S vs.toArray
theorem cong_law (w : World) (S : Addr) (vs : List Value) (ns : List Int) (hI : IntsAre vs ns) (hv : vs.length ≤ 63) : ConG w 360 40 1000 (LawP S vs) [.ref S] (fun v new => v = .bool true ∧ new = []) := by
  ((have hfill : ∀ P : Params, PySem.Challenge.rw_pc0254_01.row.prog = PySem.Challenge.rw_pc0254_01.row.prog ∧ hd.heap_39 P = hd.heap_39 P := fun _ => ⟨rfl, rfl⟩); revert hfill; k_fill; intro hfill; clear hfill)
  k_dflt (refine' cong_enterC [(Str.ofString "script", .ref S)] [(Str.ofString "script", .ref S)] (fun L => [(Str.ofString "pen", L + 1)]) ?k6 ?k7 ?k9 ?kB ?k8 ?nd ?lo ?cs ?_ ?c2 ?c3 ?c4; (case k6 => k_is); (case k7 => k_is); (case k8 => decide); (case k9 => exact fun _ => BindsTo.of_eq rfl); (case kB => exact rfl); (case nd => decide +kernel); (case lo => exact fun _ => rfl); (case cs => exact fun _ => rfl); (case c2 => exact rfl); (case c3 => exact rfl); (case c4 => exact rfl))
  intro mean mg mb dp gd un s Q g L h₁ tk cells hP F N Y X T hdp hun hret
  obtain ⟨o1, rfl, h1⟩ := CellsAre.one Y
  replace h1 : o1.data = .cell none := h1
  clear Y
  dsimp only [kstB] at F
  (try k_fold)
  (repeat' ((fail_if_success (with_reducible show wpAny _ _ (exec (Stmt.For _ _ _ _ _) _) _ _ _)); (fail_if_success (with_reducible show wpAny _ _ (exec (Stmt.While _ _ _ _) _) _ _ _)); (fail_if_success (with_reducible show wpAny _ _ (pyIter _) _ _ _)); (fail_if_success (with_reducible show wpAny _ _ (exec (Stmt.Assign _ (Expr.ListComp _ _ _ _) _) _) _ _ _)); (fail_if_success (with_reducible show wpAny _ _ (eval (Expr.ListComp _ _ _ _) _) _ _ _)); (fail_if_success (with_reducible show wpAny _ _ (call (Value.ref _) _) _ _ _)); (fail_if_success (with_reducible show wpAny _ _ (exec (Stmt.If _ _ _ _) _) _ _ _)); first | (((with_reducible show wpAny _ _ (call (Value.ref 142) _) _ _ _); k_dflt (refine' con_use1 (con_php_soundex _ _ _ _ _ _ ?zl1) ?zF ?zN ?zX ?zT ?zhl ?zU ?zhA ?zhd ?zhu ?_; (case zF => k_asm); (case zN => k_asm); (case zX => k_asm); (case zT => k_asm); (case zl1 => omega); (case zhl => rfl); (case zU => kwd_less); (case zhA => rfl); (case zhd => (first | exact room_b (by with_reducible assumption) rfl | exact room_a (by with_reducible assumption) rfl | omega | (simp only [Around.deeper, Around.in1]; omega))); (case zhu => (first | exact room_b (by with_reducible assumption) rfl | exact room_a (by with_reducible assumption) rfl | omega | (simp only [Around.deeper, Around.in1]; omega)))); intro _ _ _ _ _ r'; obtain ⟨t', e'⟩ := r'; subst e'); (try dsimp only)) | (((with_reducible show wpAny _ _ (call (Value.ref 303) _) _ _ _); k_dflt (refine' my_least ?zF ?zN ?zX ?zT ?zl1 ?zl2 ?zf1 ?zf2 ?zf3 ?zhA ?zhd ?zhu ?_; (case zF => k_asm); (case zN => k_asm); (case zX => k_asm); (case zT => k_asm); (case zl1 => first | omega | decide +kernel); (case zl2 => first | omega | decide +kernel); (case zf1 => rfl); (case zf2 => rfl); (case zf3 => exact (by decide : ScopeKind.function ≠ ScopeKind.module)); (case zhA => rfl); (case zhd => (first | exact room_b (by with_reducible assumption) rfl | exact room_a (by with_reducible assumption) rfl | omega | (simp only [Around.deeper, Around.in1]; omega))); (case zhu => (first | exact room_b (by with_reducible assumption) rfl | exact room_a (by with_reducible assumption) rfl | omega | (simp only [Around.deeper, Around.in1]; omega)))); intro _ _ _ _); (try dsimp only)) | (((with_reducible show wpAny _ _ (call (Value.ref 259) _) _ _ _); k_dflt (refine' my_host ?zF ?zN ?zX ?zT ?zhA ?zhd ?zhu ?_; (case zF => k_asm); (case zN => k_asm); (case zX => k_asm); (case zT => k_asm); (case zhA => rfl); (case zhd => (first | exact room_b (by with_reducible assumption) rfl | exact room_a (by with_reducible assumption) rfl | omega | (simp only [Around.deeper, Around.in1]; omega))); (case zhu => (first | exact room_b (by with_reducible assumption) rfl | exact room_a (by with_reducible assumption) rfl | omega | (simp only [Around.deeper, Around.in1]; omega)))); intro _ _ _ _ _ _ _ _ _ _; (try k_sweep)); (try dsimp only)) | (((with_reducible show wpAny _ _ (call (Value.ref 277) _) _ _ _); k_dflt (refine' my_take ?zF ?zN ?zX ?zT ?zU ?zhk ?zhm ?zhA ?zhd ?zhu ?_; (case zF => k_asm); (case zN => k_asm); (case zX => k_asm); (case zT => k_asm); (case zU => (intro _; tb_start)); (case zhk => ((try dsimp only); omega)); (case zhm => ((try dsimp only); omega)); (case zhA => rfl); (case zhd => (first | exact room_b (by with_reducible assumption) rfl | exact room_a (by with_reducible assumption) rfl | omega | (simp only [Around.deeper, Around.in1]; omega))); (case zhu => (first | exact room_b (by with_reducible assumption) rfl | exact room_a (by with_reducible assumption) rfl | omega | (simp only [Around.deeper, Around.in1]; omega)))); intro _ _ _ _ _ _ _ _ _ _ _ _; (try k_sweep)); (try dsimp only)) | ((with_reducible show wpAny _ _ (call (Value.ref _) _) _ _ _); k_dflt (refine' con_useI ?zC ?zF ?zN ?zX ?zT ?zhA ?zhd ?zhu ?_); (case zC => first | (first | exact con_law_is_metric _ _ _ _ _ _ _ (by omega) (by omega) (by omega) (metricAt _ _ _) | exact con_law_is_similar _ _ _ _ _ _ (by omega) (by first | omega | decide +kernel) (similarAt _ _)) | exact con_law_sound _ _ _ (by with_reducible assumption) | exact con_distance _ _ _ _ _ _ _ _ _ _ _ (by omega) (by omega)); (case zF => k_asm); (case zN => k_asm); (case zX => k_asm); (case zT => k_asm); (case zhA => rfl); (case zhd => first | exact room_b (by with_reducible assumption) rfl | exact room_a (by with_reducible assumption) rfl | omega | (simp only [Around.deeper, Around.in1]; omega)); (case zhu => first | exact room_b (by with_reducible assumption) rfl | exact room_a (by with_reducible assumption) rfl | omega | (simp only [Around.deeper, Around.in1]; omega)); intro _ _ _ _ _; (try k_sweep); (try dsimp only)) | ((with_reducible show wpAny _ _ (call (Value.ref _) _) _ _ _); k_dflt (refine' con_useS ?zC ?zF ?zN ?zX ?zT ?zhA ?zhd ?zhu ?_); (case zC => first | (first | exact con_law_is_metric _ _ _ _ _ _ _ (by omega) (by omega) (by omega) (metricAt _ _ _) | exact con_law_is_similar _ _ _ _ _ _ (by omega) (by first | omega | decide +kernel) (similarAt _ _)) | exact con_law_sound _ _ _ (by with_reducible assumption) | exact con_distance _ _ _ _ _ _ _ _ _ _ _ (by omega) (by omega)); (case zF => k_asm); (case zN => k_asm); (case zX => k_asm); (case zT => k_asm); (case zhA => rfl); (case zhd => first | exact room_b (by with_reducible assumption) rfl | exact room_a (by with_reducible assumption) rfl | omega | (simp only [Around.deeper, Around.in1]; omega)); (case zhu => first | exact room_b (by with_reducible assumption) rfl | exact room_a (by with_reducible assumption) rfl | omega | (simp only [Around.deeper, Around.in1]; omega)); intro _ _ _ _ _; (try k_sweep); (try dsimp only)) | ((with_reducible show wpAny _ _ (call (Value.ref _) _) _ _ _); k_dflt (refine' con_useB ?zC ?zF ?zN ?zX ?zT ?zhA ?zhd ?zhu ?_); (case zC => first | (first | exact con_law_is_metric _ _ _ _ _ _ _ (by omega) (by omega) (by omega) (metricAt _ _ _) | exact con_law_is_similar _ _ _ _ _ _ (by omega) (by first | omega | decide +kernel) (similarAt _ _)) | exact con_law_sound _ _ _ (by with_reducible assumption) | exact con_distance _ _ _ _ _ _ _ _ _ _ _ (by omega) (by omega)); (case zF => k_asm); (case zN => k_asm); (case zX => k_asm); (case zT => k_asm); (case zhA => rfl); (case zhd => first | exact room_b (by with_reducible assumption) rfl | exact room_a (by with_reducible assumption) rfl | omega | (simp only [Around.deeper, Around.in1]; omega)); (case zhu => first | exact room_b (by with_reducible assumption) rfl | exact room_a (by with_reducible assumption) rfl | omega | (simp only [Around.deeper, Around.in1]; omega)); intro _ _ _ _; (try k_sweep); (try dsimp only)) | (k_unfold; (try dsimp only)) | (walk1; (try dsimp only)) | (dsimp only; walk1) | fail "no step"))
  have hP' : h₁.IsList S vs.toArray := by
    obtain ⟨o, ho, hc, n, hd⟩ := hP
    exact ⟨o, F.keep _ _ ho, hc, n, hd⟩
  refine my_slice3G F N hP' hI .none (.int 63 tk) .none (by decide) (by rw [PySem.sizeLine_eq]; omega) (fun D ws ms h' F' N' l1 i1 i2 => ?_) (by with_unfolding_all rfl) (by kmk_pure)
  have hwl := i1.length
  have q0 : L + 1 < D := l1 (L + 1, o1) (by (first | exact List.mem_cons_self | exact List.mem_cons_of_mem _ List.mem_cons_self | exact List.mem_cons_of_mem _ (List.mem_cons_of_mem _ List.mem_cons_self) | exact List.mem_cons_of_mem _ (List.mem_cons_of_mem _ (List.mem_cons_of_mem _ List.mem_cons_self)) | exact List.mem_cons_of_mem _ (List.mem_cons_of_mem _ (List.mem_cons_of_mem _ (List.mem_cons_of_mem _ List.mem_cons_self))) | exact List.mem_cons_of_mem _ (List.mem_cons_of_mem _ (List.mem_cons_of_mem _ (List.mem_cons_of_mem _ (List.mem_cons_of_mem _ List.mem_cons_self)))) | exact List.mem_cons_of_mem _ (List.mem_cons_of_mem _ (List.mem_cons_of_mem _ (List.mem_cons_of_mem _ (List.mem_cons_of_mem _ (List.mem_cons_of_mem _ List.mem_cons_self))))) | exact List.mem_cons_of_mem _ (List.mem_cons_of_mem _ (List.mem_cons_of_mem _ (List.mem_cons_of_mem _ (List.mem_cons_of_mem _ (List.mem_cons_of_mem _ (List.mem_cons_of_mem _ List.mem_cons_self)))))) | exact List.mem_cons_of_mem _ (List.mem_cons_of_mem _ (List.mem_cons_of_mem _ (List.mem_cons_of_mem _ (List.mem_cons_of_mem _ (List.mem_cons_of_mem _ (List.mem_cons_of_mem _ (List.mem_cons_of_mem _ List.mem_cons_self)))))))))
  clear F N l1 hP hP'
  (repeat' ((fail_if_success (with_reducible show wpAny _ _ (exec (Stmt.For _ _ _ _ _) _) _ _ _)); (fail_if_success (with_reducible show wpAny _ _ (exec (Stmt.While _ _ _ _) _) _ _ _)); (fail_if_success (with_reducible show wpAny _ _ (pyIter _) _ _ _)); (fail_if_success (with_reducible show wpAny _ _ (exec (Stmt.Assign _ (Expr.ListComp _ _ _ _) _) _) _ _ _)); (fail_if_success (with_reducible show wpAny _ _ (eval (Expr.ListComp _ _ _ _) _) _ _ _)); (fail_if_success (with_reducible show wpAny _ _ (call (Value.ref _) _) _ _ _)); (fail_if_success (with_reducible show wpAny _ _ (exec (Stmt.If _ _ _ _) _) _ _ _)); first | (((with_reducible show wpAny _ _ (call (Value.ref 142) _) _ _ _); k_dflt (refine' con_use1 (con_php_soundex _ _ _ _ _ _ ?zl1) ?zF ?zN ?zX ?zT ?zhl ?zU ?zhA ?zhd ?zhu ?_; (case zF => k_asm); (case zN => k_asm); (case zX => k_asm); (case zT => k_asm); (case zl1 => omega); (case zhl => rfl); (case zU => kwd_less); (case zhA => rfl); (case zhd => (first | exact room_b (by with_reducible assumption) rfl | exact room_a (by with_reducible assumption) rfl | omega | (simp only [Around.deeper, Around.in1]; omega))); (case zhu => (first | exact room_b (by with_reducible assumption) rfl | exact room_a (by with_reducible assumption) rfl | omega | (simp only [Around.deeper, Around.in1]; omega)))); intro _ _ _ _ _ r'; obtain ⟨t', e'⟩ := r'; subst e'); (try dsimp only)) | (((with_reducible show wpAny _ _ (call (Value.ref 303) _) _ _ _); k_dflt (refine' my_least ?zF ?zN ?zX ?zT ?zl1 ?zl2 ?zf1 ?zf2 ?zf3 ?zhA ?zhd ?zhu ?_; (case zF => k_asm); (case zN => k_asm); (case zX => k_asm); (case zT => k_asm); (case zl1 => first | omega | decide +kernel); (case zl2 => first | omega | decide +kernel); (case zf1 => rfl); (case zf2 => rfl); (case zf3 => exact (by decide : ScopeKind.function ≠ ScopeKind.module)); (case zhA => rfl); (case zhd => (first | exact room_b (by with_reducible assumption) rfl | exact room_a (by with_reducible assumption) rfl | omega | (simp only [Around.deeper, Around.in1]; omega))); (case zhu => (first | exact room_b (by with_reducible assumption) rfl | exact room_a (by with_reducible assumption) rfl | omega | (simp only [Around.deeper, Around.in1]; omega)))); intro _ _ _ _); (try dsimp only)) | (((with_reducible show wpAny _ _ (call (Value.ref 259) _) _ _ _); k_dflt (refine' my_host ?zF ?zN ?zX ?zT ?zhA ?zhd ?zhu ?_; (case zF => k_asm); (case zN => k_asm); (case zX => k_asm); (case zT => k_asm); (case zhA => rfl); (case zhd => (first | exact room_b (by with_reducible assumption) rfl | exact room_a (by with_reducible assumption) rfl | omega | (simp only [Around.deeper, Around.in1]; omega))); (case zhu => (first | exact room_b (by with_reducible assumption) rfl | exact room_a (by with_reducible assumption) rfl | omega | (simp only [Around.deeper, Around.in1]; omega)))); intro _ _ _ _ _ _ _ _ _ _; (try k_sweep)); (try dsimp only)) | (((with_reducible show wpAny _ _ (call (Value.ref 277) _) _ _ _); k_dflt (refine' my_take ?zF ?zN ?zX ?zT ?zU ?zhk ?zhm ?zhA ?zhd ?zhu ?_; (case zF => k_asm); (case zN => k_asm); (case zX => k_asm); (case zT => k_asm); (case zU => (intro _; tb_start)); (case zhk => ((try dsimp only); omega)); (case zhm => ((try dsimp only); omega)); (case zhA => rfl); (case zhd => (first | exact room_b (by with_reducible assumption) rfl | exact room_a (by with_reducible assumption) rfl | omega | (simp only [Around.deeper, Around.in1]; omega))); (case zhu => (first | exact room_b (by with_reducible assumption) rfl | exact room_a (by with_reducible assumption) rfl | omega | (simp only [Around.deeper, Around.in1]; omega)))); intro _ _ _ _ _ _ _ _ _ _ _ _; (try k_sweep)); (try dsimp only)) | ((with_reducible show wpAny _ _ (call (Value.ref _) _) _ _ _); k_dflt (refine' con_useI ?zC ?zF ?zN ?zX ?zT ?zhA ?zhd ?zhu ?_); (case zC => first | (first | exact con_law_is_metric _ _ _ _ _ _ _ (by omega) (by omega) (by omega) (metricAt _ _ _) | exact con_law_is_similar _ _ _ _ _ _ (by omega) (by first | omega | decide +kernel) (similarAt _ _)) | exact con_law_sound _ _ _ (by with_reducible assumption) | exact con_distance _ _ _ _ _ _ _ _ _ _ _ (by omega) (by omega)); (case zF => k_asm); (case zN => k_asm); (case zX => k_asm); (case zT => k_asm); (case zhA => rfl); (case zhd => first | exact room_b (by with_reducible assumption) rfl | exact room_a (by with_reducible assumption) rfl | omega | (simp only [Around.deeper, Around.in1]; omega)); (case zhu => first | exact room_b (by with_reducible assumption) rfl | exact room_a (by with_reducible assumption) rfl | omega | (simp only [Around.deeper, Around.in1]; omega)); intro _ _ _ _ _; (try k_sweep); (try dsimp only)) | ((with_reducible show wpAny _ _ (call (Value.ref _) _) _ _ _); k_dflt (refine' con_useS ?zC ?zF ?zN ?zX ?zT ?zhA ?zhd ?zhu ?_); (case zC => first | (first | exact con_law_is_metric _ _ _ _ _ _ _ (by omega) (by omega) (by omega) (metricAt _ _ _) | exact con_law_is_similar _ _ _ _ _ _ (by omega) (by first | omega | decide +kernel) (similarAt _ _)) | exact con_law_sound _ _ _ (by with_reducible assumption) | exact con_distance _ _ _ _ _ _ _ _ _ _ _ (by omega) (by omega)); (case zF => k_asm); (case zN => k_asm); (case zX => k_asm); (case zT => k_asm); (case zhA => rfl); (case zhd => first | exact room_b (by with_reducible assumption) rfl | exact room_a (by with_reducible assumption) rfl | omega | (simp only [Around.deeper, Around.in1]; omega)); (case zhu => first | exact room_b (by with_reducible assumption) rfl | exact room_a (by with_reducible assumption) rfl | omega | (simp only [Around.deeper, Around.in1]; omega)); intro _ _ _ _ _; (try k_sweep); (try dsimp only)) | ((with_reducible show wpAny _ _ (call (Value.ref _) _) _ _ _); k_dflt (refine' con_useB ?zC ?zF ?zN ?zX ?zT ?zhA ?zhd ?zhu ?_); (case zC => first | (first | exact con_law_is_metric _ _ _ _ _ _ _ (by omega) (by omega) (by omega) (metricAt _ _ _) | exact con_law_is_similar _ _ _ _ _ _ (by omega) (by first | omega | decide +kernel) (similarAt _ _)) | exact con_law_sound _ _ _ (by with_reducible assumption) | exact con_distance _ _ _ _ _ _ _ _ _ _ _ (by omega) (by omega)); (case zF => k_asm); (case zN => k_asm); (case zX => k_asm); (case zT => k_asm); (case zhA => rfl); (case zhd => first | exact room_b (by with_reducible assumption) rfl | exact room_a (by with_reducible assumption) rfl | omega | (simp only [Around.deeper, Around.in1]; omega)); (case zhu => first | exact room_b (by with_reducible assumption) rfl | exact room_a (by with_reducible assumption) rfl | omega | (simp only [Around.deeper, Around.in1]; omega)); intro _ _ _ _; (try k_sweep); (try dsimp only)) | (k_unfold; (try dsimp only)) | (walk1; (try dsimp only)) | (dsimp only; walk1) | fail "no step"))
  refine my_host (by k_asm) (by k_asm) X T rfl (by (first | exact room_b (by with_reducible assumption) rfl | exact room_a (by with_reducible assumption) rfl | omega | (simp only [Around.deeper, Around.in1]; omega))) (by (first | exact room_b (by with_reducible assumption) rfl | exact room_a (by with_reducible assumption) rfl | omega | (simp only [Around.deeper, Around.in1]; omega))) (fun x dx es n l h' tk' F' N' hg => ?_)
  (repeat' ((fail_if_success (with_reducible show wpAny _ _ (exec (Stmt.For _ _ _ _ _) _) _ _ _)); (fail_if_success (with_reducible show wpAny _ _ (exec (Stmt.While _ _ _ _) _) _ _ _)); (fail_if_success (with_reducible show wpAny _ _ (pyIter _) _ _ _)); (fail_if_success (with_reducible show wpAny _ _ (exec (Stmt.Assign _ (Expr.ListComp _ _ _ _) _) _) _ _ _)); (fail_if_success (with_reducible show wpAny _ _ (eval (Expr.ListComp _ _ _ _) _) _ _ _)); (fail_if_success (with_reducible show wpAny _ _ (call (Value.ref _) _) _ _ _)); (fail_if_success (with_reducible show wpAny _ _ (exec (Stmt.If _ _ _ _) _) _ _ _)); first | (((with_reducible show wpAny _ _ (call (Value.ref 142) _) _ _ _); k_dflt (refine' con_use1 (con_php_soundex _ _ _ _ _ _ ?zl1) ?zF ?zN ?zX ?zT ?zhl ?zU ?zhA ?zhd ?zhu ?_; (case zF => k_asm); (case zN => k_asm); (case zX => k_asm); (case zT => k_asm); (case zl1 => omega); (case zhl => rfl); (case zU => kwd_less); (case zhA => rfl); (case zhd => (first | exact room_b (by with_reducible assumption) rfl | exact room_a (by with_reducible assumption) rfl | omega | (simp only [Around.deeper, Around.in1]; omega))); (case zhu => (first | exact room_b (by with_reducible assumption) rfl | exact room_a (by with_reducible assumption) rfl | omega | (simp only [Around.deeper, Around.in1]; omega)))); intro _ _ _ _ _ r'; obtain ⟨t', e'⟩ := r'; subst e'); (try dsimp only)) | (((with_reducible show wpAny _ _ (call (Value.ref 303) _) _ _ _); k_dflt (refine' my_least ?zF ?zN ?zX ?zT ?zl1 ?zl2 ?zf1 ?zf2 ?zf3 ?zhA ?zhd ?zhu ?_; (case zF => k_asm); (case zN => k_asm); (case zX => k_asm); (case zT => k_asm); (case zl1 => first | omega | decide +kernel); (case zl2 => first | omega | decide +kernel); (case zf1 => rfl); (case zf2 => rfl); (case zf3 => exact (by decide : ScopeKind.function ≠ ScopeKind.module)); (case zhA => rfl); (case zhd => (first | exact room_b (by with_reducible assumption) rfl | exact room_a (by with_reducible assumption) rfl | omega | (simp only [Around.deeper, Around.in1]; omega))); (case zhu => (first | exact room_b (by with_reducible assumption) rfl | exact room_a (by with_reducible assumption) rfl | omega | (simp only [Around.deeper, Around.in1]; omega)))); intro _ _ _ _); (try dsimp only)) | (((with_reducible show wpAny _ _ (call (Value.ref 259) _) _ _ _); k_dflt (refine' my_host ?zF ?zN ?zX ?zT ?zhA ?zhd ?zhu ?_; (case zF => k_asm); (case zN => k_asm); (case zX => k_asm); (case zT => k_asm); (case zhA => rfl); (case zhd => (first | exact room_b (by with_reducible assumption) rfl | exact room_a (by with_reducible assumption) rfl | omega | (simp only [Around.deeper, Around.in1]; omega))); (case zhu => (first | exact room_b (by with_reducible assumption) rfl | exact room_a (by with_reducible assumption) rfl | omega | (simp only [Around.deeper, Around.in1]; omega)))); intro _ _ _ _ _ _ _ _ _ _; (try k_sweep)); (try dsimp only)) | (((with_reducible show wpAny _ _ (call (Value.ref 277) _) _ _ _); k_dflt (refine' my_take ?zF ?zN ?zX ?zT ?zU ?zhk ?zhm ?zhA ?zhd ?zhu ?_; (case zF => k_asm); (case zN => k_asm); (case zX => k_asm); (case zT => k_asm); (case zU => (intro _; tb_start)); (case zhk => ((try dsimp only); omega)); (case zhm => ((try dsimp only); omega)); (case zhA => rfl); (case zhd => (first | exact room_b (by with_reducible assumption) rfl | exact room_a (by with_reducible assumption) rfl | omega | (simp only [Around.deeper, Around.in1]; omega))); (case zhu => (first | exact room_b (by with_reducible assumption) rfl | exact room_a (by with_reducible assumption) rfl | omega | (simp only [Around.deeper, Around.in1]; omega)))); intro _ _ _ _ _ _ _ _ _ _ _ _; (try k_sweep)); (try dsimp only)) | ((with_reducible show wpAny _ _ (call (Value.ref _) _) _ _ _); k_dflt (refine' con_useI ?zC ?zF ?zN ?zX ?zT ?zhA ?zhd ?zhu ?_); (case zC => first | (first | exact con_law_is_metric _ _ _ _ _ _ _ (by omega) (by omega) (by omega) (metricAt _ _ _) | exact con_law_is_similar _ _ _ _ _ _ (by omega) (by first | omega | decide +kernel) (similarAt _ _)) | exact con_law_sound _ _ _ (by with_reducible assumption) | exact con_distance _ _ _ _ _ _ _ _ _ _ _ (by omega) (by omega)); (case zF => k_asm); (case zN => k_asm); (case zX => k_asm); (case zT => k_asm); (case zhA => rfl); (case zhd => first | exact room_b (by with_reducible assumption) rfl | exact room_a (by with_reducible assumption) rfl | omega | (simp only [Around.deeper, Around.in1]; omega)); (case zhu => first | exact room_b (by with_reducible assumption) rfl | exact room_a (by with_reducible assumption) rfl | omega | (simp only [Around.deeper, Around.in1]; omega)); intro _ _ _ _ _; (try k_sweep); (try dsimp only)) | ((with_reducible show wpAny _ _ (call (Value.ref _) _) _ _ _); k_dflt (refine' con_useS ?zC ?zF ?zN ?zX ?zT ?zhA ?zhd ?zhu ?_); (case zC => first | (first | exact con_law_is_metric _ _ _ _ _ _ _ (by omega) (by omega) (by omega) (metricAt _ _ _) | exact con_law_is_similar _ _ _ _ _ _ (by omega) (by first | omega | decide +kernel) (similarAt _ _)) | exact con_law_sound _ _ _ (by with_reducible assumption) | exact con_distance _ _ _ _ _ _ _ _ _ _ _ (by omega) (by omega)); (case zF => k_asm); (case zN => k_asm); (case zX => k_asm); (case zT => k_asm); (case zhA => rfl); (case zhd => first | exact room_b (by with_reducible assumption) rfl | exact room_a (by with_reducible assumption) rfl | omega | (simp only [Around.deeper, Around.in1]; omega)); (case zhu => first | exact room_b (by with_reducible assumption) rfl | exact room_a (by with_reducible assumption) rfl | omega | (simp only [Around.deeper, Around.in1]; omega)); intro _ _ _ _ _; (try k_sweep); (try dsimp only)) | ((with_reducible show wpAny _ _ (call (Value.ref _) _) _ _ _); k_dflt (refine' con_useB ?zC ?zF ?zN ?zX ?zT ?zhA ?zhd ?zhu ?_); (case zC => first | (first | exact con_law_is_metric _ _ _ _ _ _ _ (by omega) (by omega) (by omega) (metricAt _ _ _) | exact con_law_is_similar _ _ _ _ _ _ (by omega) (by first | omega | decide +kernel) (similarAt _ _)) | exact con_law_sound _ _ _ (by with_reducible assumption) | exact con_distance _ _ _ _ _ _ _ _ _ _ _ (by omega) (by omega)); (case zF => k_asm); (case zN => k_asm); (case zX => k_asm); (case zT => k_asm); (case zhA => rfl); (case zhd => first | exact room_b (by with_reducible assumption) rfl | exact room_a (by with_reducible assumption) rfl | omega | (simp only [Around.deeper, Around.in1]; omega)); (case zhu => first | exact room_b (by with_reducible assumption) rfl | exact room_a (by with_reducible assumption) rfl | omega | (simp only [Around.deeper, Around.in1]; omega)); intro _ _ _ _; (try k_sweep); (try dsimp only)) | (k_unfold; (try dsimp only)) | (walk1; (try dsimp only)) | (dsimp only; walk1) | fail "no step"))
  refine my_pen (vs := ws) (ns := ms) (n := 0) (S := D) (by k_asm) (by k_asm) (by k_mem) i1 (by omega) X T rfl (by (first | exact room_b (by with_reducible assumption) rfl | exact room_a (by with_reducible assumption) rfl | omega | (simp only [Around.deeper, Around.in1]; omega))) (by (first | exact room_b (by with_reducible assumption) rfl | exact room_a (by with_reducible assumption) rfl | omega | (simp only [Around.deeper, Around.in1]; omega))) (fun P k t u h' tk' F1 N1 hDP => ?_)
  clear F' N'
  have hlP : l ≠ P := fun q => by
    have e1 := (N1 _ List.mem_cons_self).1
    have e2 := (N1 (l, listOf #[] 0) (by (first | exact List.mem_cons_self | exact List.mem_cons_of_mem _ List.mem_cons_self | exact List.mem_cons_of_mem _ (List.mem_cons_of_mem _ List.mem_cons_self) | exact List.mem_cons_of_mem _ (List.mem_cons_of_mem _ (List.mem_cons_of_mem _ List.mem_cons_self)) | exact List.mem_cons_of_mem _ (List.mem_cons_of_mem _ (List.mem_cons_of_mem _ (List.mem_cons_of_mem _ List.mem_cons_self))) | exact List.mem_cons_of_mem _ (List.mem_cons_of_mem _ (List.mem_cons_of_mem _ (List.mem_cons_of_mem _ (List.mem_cons_of_mem _ List.mem_cons_self)))) | exact List.mem_cons_of_mem _ (List.mem_cons_of_mem _ (List.mem_cons_of_mem _ (List.mem_cons_of_mem _ (List.mem_cons_of_mem _ (List.mem_cons_of_mem _ List.mem_cons_self))))) | exact List.mem_cons_of_mem _ (List.mem_cons_of_mem _ (List.mem_cons_of_mem _ (List.mem_cons_of_mem _ (List.mem_cons_of_mem _ (List.mem_cons_of_mem _ (List.mem_cons_of_mem _ List.mem_cons_self)))))) | exact List.mem_cons_of_mem _ (List.mem_cons_of_mem _ (List.mem_cons_of_mem _ (List.mem_cons_of_mem _ (List.mem_cons_of_mem _ (List.mem_cons_of_mem _ (List.mem_cons_of_mem _ (List.mem_cons_of_mem _ List.mem_cons_self)))))))))).1
    rw [q] at e2
    have := e1.symm.trans e2
    simp at this
  (repeat' ((fail_if_success (with_reducible show wpAny _ _ (exec (Stmt.For _ _ _ _ _) _) _ _ _)); (fail_if_success (with_reducible show wpAny _ _ (exec (Stmt.While _ _ _ _) _) _ _ _)); (fail_if_success (with_reducible show wpAny _ _ (pyIter _) _ _ _)); (fail_if_success (with_reducible show wpAny _ _ (exec (Stmt.Assign _ (Expr.ListComp _ _ _ _) _) _) _ _ _)); (fail_if_success (with_reducible show wpAny _ _ (eval (Expr.ListComp _ _ _ _) _) _ _ _)); (fail_if_success (with_reducible show wpAny _ _ (call (Value.ref _) _) _ _ _)); (fail_if_success (with_reducible show wpAny _ _ (exec (Stmt.If _ _ _ _) _) _ _ _)); first | (((with_reducible show wpAny _ _ (call (Value.ref 142) _) _ _ _); k_dflt (refine' con_use1 (con_php_soundex _ _ _ _ _ _ ?zl1) ?zF ?zN ?zX ?zT ?zhl ?zU ?zhA ?zhd ?zhu ?_; (case zF => k_asm); (case zN => k_asm); (case zX => k_asm); (case zT => k_asm); (case zl1 => omega); (case zhl => rfl); (case zU => kwd_less); (case zhA => rfl); (case zhd => (first | exact room_b (by with_reducible assumption) rfl | exact room_a (by with_reducible assumption) rfl | omega | (simp only [Around.deeper, Around.in1]; omega))); (case zhu => (first | exact room_b (by with_reducible assumption) rfl | exact room_a (by with_reducible assumption) rfl | omega | (simp only [Around.deeper, Around.in1]; omega)))); intro _ _ _ _ _ r'; obtain ⟨t', e'⟩ := r'; subst e'); (try dsimp only)) | (((with_reducible show wpAny _ _ (call (Value.ref 303) _) _ _ _); k_dflt (refine' my_least ?zF ?zN ?zX ?zT ?zl1 ?zl2 ?zf1 ?zf2 ?zf3 ?zhA ?zhd ?zhu ?_; (case zF => k_asm); (case zN => k_asm); (case zX => k_asm); (case zT => k_asm); (case zl1 => first | omega | decide +kernel); (case zl2 => first | omega | decide +kernel); (case zf1 => rfl); (case zf2 => rfl); (case zf3 => exact (by decide : ScopeKind.function ≠ ScopeKind.module)); (case zhA => rfl); (case zhd => (first | exact room_b (by with_reducible assumption) rfl | exact room_a (by with_reducible assumption) rfl | omega | (simp only [Around.deeper, Around.in1]; omega))); (case zhu => (first | exact room_b (by with_reducible assumption) rfl | exact room_a (by with_reducible assumption) rfl | omega | (simp only [Around.deeper, Around.in1]; omega)))); intro _ _ _ _); (try dsimp only)) | (((with_reducible show wpAny _ _ (call (Value.ref 259) _) _ _ _); k_dflt (refine' my_host ?zF ?zN ?zX ?zT ?zhA ?zhd ?zhu ?_; (case zF => k_asm); (case zN => k_asm); (case zX => k_asm); (case zT => k_asm); (case zhA => rfl); (case zhd => (first | exact room_b (by with_reducible assumption) rfl | exact room_a (by with_reducible assumption) rfl | omega | (simp only [Around.deeper, Around.in1]; omega))); (case zhu => (first | exact room_b (by with_reducible assumption) rfl | exact room_a (by with_reducible assumption) rfl | omega | (simp only [Around.deeper, Around.in1]; omega)))); intro _ _ _ _ _ _ _ _ _ _; (try k_sweep)); (try dsimp only)) | (((with_reducible show wpAny _ _ (call (Value.ref 277) _) _ _ _); k_dflt (refine' my_take ?zF ?zN ?zX ?zT ?zU ?zhk ?zhm ?zhA ?zhd ?zhu ?_; (case zF => k_asm); (case zN => k_asm); (case zX => k_asm); (case zT => k_asm); (case zU => (intro _; tb_start)); (case zhk => ((try dsimp only); omega)); (case zhm => ((try dsimp only); omega)); (case zhA => rfl); (case zhd => (first | exact room_b (by with_reducible assumption) rfl | exact room_a (by with_reducible assumption) rfl | omega | (simp only [Around.deeper, Around.in1]; omega))); (case zhu => (first | exact room_b (by with_reducible assumption) rfl | exact room_a (by with_reducible assumption) rfl | omega | (simp only [Around.deeper, Around.in1]; omega)))); intro _ _ _ _ _ _ _ _ _ _ _ _; (try k_sweep)); (try dsimp only)) | ((with_reducible show wpAny _ _ (call (Value.ref _) _) _ _ _); k_dflt (refine' con_useI ?zC ?zF ?zN ?zX ?zT ?zhA ?zhd ?zhu ?_); (case zC => first | (first | exact con_law_is_metric _ _ _ _ _ _ _ (by omega) (by omega) (by omega) (metricAt _ _ _) | exact con_law_is_similar _ _ _ _ _ _ (by omega) (by first | omega | decide +kernel) (similarAt _ _)) | exact con_law_sound _ _ _ (by with_reducible assumption) | exact con_distance _ _ _ _ _ _ _ _ _ _ _ (by omega) (by omega)); (case zF => k_asm); (case zN => k_asm); (case zX => k_asm); (case zT => k_asm); (case zhA => rfl); (case zhd => first | exact room_b (by with_reducible assumption) rfl | exact room_a (by with_reducible assumption) rfl | omega | (simp only [Around.deeper, Around.in1]; omega)); (case zhu => first | exact room_b (by with_reducible assumption) rfl | exact room_a (by with_reducible assumption) rfl | omega | (simp only [Around.deeper, Around.in1]; omega)); intro _ _ _ _ _; (try k_sweep); (try dsimp only)) | ((with_reducible show wpAny _ _ (call (Value.ref _) _) _ _ _); k_dflt (refine' con_useS ?zC ?zF ?zN ?zX ?zT ?zhA ?zhd ?zhu ?_); (case zC => first | (first | exact con_law_is_metric _ _ _ _ _ _ _ (by omega) (by omega) (by omega) (metricAt _ _ _) | exact con_law_is_similar _ _ _ _ _ _ (by omega) (by first | omega | decide +kernel) (similarAt _ _)) | exact con_law_sound _ _ _ (by with_reducible assumption) | exact con_distance _ _ _ _ _ _ _ _ _ _ _ (by omega) (by omega)); (case zF => k_asm); (case zN => k_asm); (case zX => k_asm); (case zT => k_asm); (case zhA => rfl); (case zhd => first | exact room_b (by with_reducible assumption) rfl | exact room_a (by with_reducible assumption) rfl | omega | (simp only [Around.deeper, Around.in1]; omega)); (case zhu => first | exact room_b (by with_reducible assumption) rfl | exact room_a (by with_reducible assumption) rfl | omega | (simp only [Around.deeper, Around.in1]; omega)); intro _ _ _ _ _; (try k_sweep); (try dsimp only)) | ((with_reducible show wpAny _ _ (call (Value.ref _) _) _ _ _); k_dflt (refine' con_useB ?zC ?zF ?zN ?zX ?zT ?zhA ?zhd ?zhu ?_); (case zC => first | (first | exact con_law_is_metric _ _ _ _ _ _ _ (by omega) (by omega) (by omega) (metricAt _ _ _) | exact con_law_is_similar _ _ _ _ _ _ (by omega) (by first | omega | decide +kernel) (similarAt _ _)) | exact con_law_sound _ _ _ (by with_reducible assumption) | exact con_distance _ _ _ _ _ _ _ _ _ _ _ (by omega) (by omega)); (case zF => k_asm); (case zN => k_asm); (case zX => k_asm); (case zT => k_asm); (case zhA => rfl); (case zhd => first | exact room_b (by with_reducible assumption) rfl | exact room_a (by with_reducible assumption) rfl | omega | (simp only [Around.deeper, Around.in1]; omega)); (case zhu => first | exact room_b (by with_reducible assumption) rfl | exact room_a (by with_reducible assumption) rfl | omega | (simp only [Around.deeper, Around.in1]; omega)); intro _ _ _ _; (try k_sweep); (try dsimp only)) | (k_unfold; (try dsimp only)) | (walk1; (try dsimp only)) | (dsimp only; walk1) | fail "no step"))
  try clear F1 N1
  rename Fr _ _ _ _ => F2
  rename News _ _ _ _ => N2
  replace F2 := Fr.cong F2 (m' := fun y => if y = Str.ofString "host" then some (.ref x) else if y = Str.ofString "script" then some (.ref D) else none) (fun y => by by_cases y1 : y = Str.ofString "host" <;> by_cases y2 : y = Str.ofString "script" <;> simp [y1, y2])
  refine my_storeC (c := L + 1) (o := o1) F2 (News.sub N2 (news' := [(P, penO k (17 * 0) t u 0), (x, instObj 259 dx), (l, listOf #[] 0), (dx, dictOf es n), (D, listOf ws.toArray 0)] ++ (L + 1, o1) :: []) ?hsub) rfl h1 ?ap trivial rfl rfl (fun h' o2 F' N' h2 => ?_)
  case hsub => (repeat' (first | exact sub_nil | refine sub_cons (by (first | exact List.mem_cons_self | exact List.mem_cons_of_mem _ List.mem_cons_self | exact List.mem_cons_of_mem _ (List.mem_cons_of_mem _ List.mem_cons_self) | exact List.mem_cons_of_mem _ (List.mem_cons_of_mem _ (List.mem_cons_of_mem _ List.mem_cons_self)) | exact List.mem_cons_of_mem _ (List.mem_cons_of_mem _ (List.mem_cons_of_mem _ (List.mem_cons_of_mem _ List.mem_cons_self))) | exact List.mem_cons_of_mem _ (List.mem_cons_of_mem _ (List.mem_cons_of_mem _ (List.mem_cons_of_mem _ (List.mem_cons_of_mem _ List.mem_cons_self)))) | exact List.mem_cons_of_mem _ (List.mem_cons_of_mem _ (List.mem_cons_of_mem _ (List.mem_cons_of_mem _ (List.mem_cons_of_mem _ (List.mem_cons_of_mem _ List.mem_cons_self))))) | exact List.mem_cons_of_mem _ (List.mem_cons_of_mem _ (List.mem_cons_of_mem _ (List.mem_cons_of_mem _ (List.mem_cons_of_mem _ (List.mem_cons_of_mem _ (List.mem_cons_of_mem _ List.mem_cons_self)))))) | exact List.mem_cons_of_mem _ (List.mem_cons_of_mem _ (List.mem_cons_of_mem _ (List.mem_cons_of_mem _ (List.mem_cons_of_mem _ (List.mem_cons_of_mem _ (List.mem_cons_of_mem _ (List.mem_cons_of_mem _ List.mem_cons_self))))))))) ?_))
  case ap => exact ⟨.inr nofun, .inr nofun, .inr nofun, .inr nofun, .inr nofun, trivial⟩
  try clear F2 N2
  (repeat' ((fail_if_success (with_reducible show wpAny _ _ (exec (Stmt.For _ _ _ _ _) _) _ _ _)); (fail_if_success (with_reducible show wpAny _ _ (exec (Stmt.While _ _ _ _) _) _ _ _)); (fail_if_success (with_reducible show wpAny _ _ (pyIter _) _ _ _)); (fail_if_success (with_reducible show wpAny _ _ (exec (Stmt.Assign _ (Expr.ListComp _ _ _ _) _) _) _ _ _)); (fail_if_success (with_reducible show wpAny _ _ (eval (Expr.ListComp _ _ _ _) _) _ _ _)); (fail_if_success (with_reducible show wpAny _ _ (call (Value.ref _) _) _ _ _)); (fail_if_success (with_reducible show wpAny _ _ (exec (Stmt.If _ _ _ _) _) _ _ _)); first | (((with_reducible show wpAny _ _ (call (Value.ref 142) _) _ _ _); k_dflt (refine' con_use1 (con_php_soundex _ _ _ _ _ _ ?zl1) ?zF ?zN ?zX ?zT ?zhl ?zU ?zhA ?zhd ?zhu ?_; (case zF => k_asm); (case zN => k_asm); (case zX => k_asm); (case zT => k_asm); (case zl1 => omega); (case zhl => rfl); (case zU => kwd_less); (case zhA => rfl); (case zhd => (first | exact room_b (by with_reducible assumption) rfl | exact room_a (by with_reducible assumption) rfl | omega | (simp only [Around.deeper, Around.in1]; omega))); (case zhu => (first | exact room_b (by with_reducible assumption) rfl | exact room_a (by with_reducible assumption) rfl | omega | (simp only [Around.deeper, Around.in1]; omega)))); intro _ _ _ _ _ r'; obtain ⟨t', e'⟩ := r'; subst e'); (try dsimp only)) | (((with_reducible show wpAny _ _ (call (Value.ref 303) _) _ _ _); k_dflt (refine' my_least ?zF ?zN ?zX ?zT ?zl1 ?zl2 ?zf1 ?zf2 ?zf3 ?zhA ?zhd ?zhu ?_; (case zF => k_asm); (case zN => k_asm); (case zX => k_asm); (case zT => k_asm); (case zl1 => first | omega | decide +kernel); (case zl2 => first | omega | decide +kernel); (case zf1 => rfl); (case zf2 => rfl); (case zf3 => exact (by decide : ScopeKind.function ≠ ScopeKind.module)); (case zhA => rfl); (case zhd => (first | exact room_b (by with_reducible assumption) rfl | exact room_a (by with_reducible assumption) rfl | omega | (simp only [Around.deeper, Around.in1]; omega))); (case zhu => (first | exact room_b (by with_reducible assumption) rfl | exact room_a (by with_reducible assumption) rfl | omega | (simp only [Around.deeper, Around.in1]; omega)))); intro _ _ _ _); (try dsimp only)) | (((with_reducible show wpAny _ _ (call (Value.ref 259) _) _ _ _); k_dflt (refine' my_host ?zF ?zN ?zX ?zT ?zhA ?zhd ?zhu ?_; (case zF => k_asm); (case zN => k_asm); (case zX => k_asm); (case zT => k_asm); (case zhA => rfl); (case zhd => (first | exact room_b (by with_reducible assumption) rfl | exact room_a (by with_reducible assumption) rfl | omega | (simp only [Around.deeper, Around.in1]; omega))); (case zhu => (first | exact room_b (by with_reducible assumption) rfl | exact room_a (by with_reducible assumption) rfl | omega | (simp only [Around.deeper, Around.in1]; omega)))); intro _ _ _ _ _ _ _ _ _ _; (try k_sweep)); (try dsimp only)) | (((with_reducible show wpAny _ _ (call (Value.ref 277) _) _ _ _); k_dflt (refine' my_take ?zF ?zN ?zX ?zT ?zU ?zhk ?zhm ?zhA ?zhd ?zhu ?_; (case zF => k_asm); (case zN => k_asm); (case zX => k_asm); (case zT => k_asm); (case zU => (intro _; tb_start)); (case zhk => ((try dsimp only); omega)); (case zhm => ((try dsimp only); omega)); (case zhA => rfl); (case zhd => (first | exact room_b (by with_reducible assumption) rfl | exact room_a (by with_reducible assumption) rfl | omega | (simp only [Around.deeper, Around.in1]; omega))); (case zhu => (first | exact room_b (by with_reducible assumption) rfl | exact room_a (by with_reducible assumption) rfl | omega | (simp only [Around.deeper, Around.in1]; omega)))); intro _ _ _ _ _ _ _ _ _ _ _ _; (try k_sweep)); (try dsimp only)) | ((with_reducible show wpAny _ _ (call (Value.ref _) _) _ _ _); k_dflt (refine' con_useI ?zC ?zF ?zN ?zX ?zT ?zhA ?zhd ?zhu ?_); (case zC => first | (first | exact con_law_is_metric _ _ _ _ _ _ _ (by omega) (by omega) (by omega) (metricAt _ _ _) | exact con_law_is_similar _ _ _ _ _ _ (by omega) (by first | omega | decide +kernel) (similarAt _ _)) | exact con_law_sound _ _ _ (by with_reducible assumption) | exact con_distance _ _ _ _ _ _ _ _ _ _ _ (by omega) (by omega)); (case zF => k_asm); (case zN => k_asm); (case zX => k_asm); (case zT => k_asm); (case zhA => rfl); (case zhd => first | exact room_b (by with_reducible assumption) rfl | exact room_a (by with_reducible assumption) rfl | omega | (simp only [Around.deeper, Around.in1]; omega)); (case zhu => first | exact room_b (by with_reducible assumption) rfl | exact room_a (by with_reducible assumption) rfl | omega | (simp only [Around.deeper, Around.in1]; omega)); intro _ _ _ _ _; (try k_sweep); (try dsimp only)) | ((with_reducible show wpAny _ _ (call (Value.ref _) _) _ _ _); k_dflt (refine' con_useS ?zC ?zF ?zN ?zX ?zT ?zhA ?zhd ?zhu ?_); (case zC => first | (first | exact con_law_is_metric _ _ _ _ _ _ _ (by omega) (by omega) (by omega) (metricAt _ _ _) | exact con_law_is_similar _ _ _ _ _ _ (by omega) (by first | omega | decide +kernel) (similarAt _ _)) | exact con_law_sound _ _ _ (by with_reducible assumption) | exact con_distance _ _ _ _ _ _ _ _ _ _ _ (by omega) (by omega)); (case zF => k_asm); (case zN => k_asm); (case zX => k_asm); (case zT => k_asm); (case zhA => rfl); (case zhd => first | exact room_b (by with_reducible assumption) rfl | exact room_a (by with_reducible assumption) rfl | omega | (simp only [Around.deeper, Around.in1]; omega)); (case zhu => first | exact room_b (by with_reducible assumption) rfl | exact room_a (by with_reducible assumption) rfl | omega | (simp only [Around.deeper, Around.in1]; omega)); intro _ _ _ _ _; (try k_sweep); (try dsimp only)) | ((with_reducible show wpAny _ _ (call (Value.ref _) _) _ _ _); k_dflt (refine' con_useB ?zC ?zF ?zN ?zX ?zT ?zhA ?zhd ?zhu ?_); (case zC => first | (first | exact con_law_is_metric _ _ _ _ _ _ _ (by omega) (by omega) (by omega) (metricAt _ _ _) | exact con_law_is_similar _ _ _ _ _ _ (by omega) (by first | omega | decide +kernel) (similarAt _ _)) | exact con_law_sound _ _ _ (by with_reducible assumption) | exact con_distance _ _ _ _ _ _ _ _ _ _ _ (by omega) (by omega)); (case zF => k_asm); (case zN => k_asm); (case zX => k_asm); (case zT => k_asm); (case zhA => rfl); (case zhd => first | exact room_b (by with_reducible assumption) rfl | exact room_a (by with_reducible assumption) rfl | omega | (simp only [Around.deeper, Around.in1]; omega)); (case zhu => first | exact room_b (by with_reducible assumption) rfl | exact room_a (by with_reducible assumption) rfl | omega | (simp only [Around.deeper, Around.in1]; omega)); intro _ _ _ _; (try k_sweep); (try dsimp only)) | (k_unfold; (try dsimp only)) | (walk1; (try dsimp only)) | (dsimp only; walk1) | fail "no step"))
  simp only [List.cons_append, List.nil_append] at N'
  have hcP : L + 1 ≠ P := ne_of_obj N' (o := o2) (o' := penO k (17 * 0) t u 0) (by (first | exact List.mem_cons_self | exact List.mem_cons_of_mem _ List.mem_cons_self | exact List.mem_cons_of_mem _ (List.mem_cons_of_mem _ List.mem_cons_self) | exact List.mem_cons_of_mem _ (List.mem_cons_of_mem _ (List.mem_cons_of_mem _ List.mem_cons_self)) | exact List.mem_cons_of_mem _ (List.mem_cons_of_mem _ (List.mem_cons_of_mem _ (List.mem_cons_of_mem _ List.mem_cons_self))) | exact List.mem_cons_of_mem _ (List.mem_cons_of_mem _ (List.mem_cons_of_mem _ (List.mem_cons_of_mem _ (List.mem_cons_of_mem _ List.mem_cons_self)))) | exact List.mem_cons_of_mem _ (List.mem_cons_of_mem _ (List.mem_cons_of_mem _ (List.mem_cons_of_mem _ (List.mem_cons_of_mem _ (List.mem_cons_of_mem _ List.mem_cons_self))))) | exact List.mem_cons_of_mem _ (List.mem_cons_of_mem _ (List.mem_cons_of_mem _ (List.mem_cons_of_mem _ (List.mem_cons_of_mem _ (List.mem_cons_of_mem _ (List.mem_cons_of_mem _ List.mem_cons_self)))))) | exact List.mem_cons_of_mem _ (List.mem_cons_of_mem _ (List.mem_cons_of_mem _ (List.mem_cons_of_mem _ (List.mem_cons_of_mem _ (List.mem_cons_of_mem _ (List.mem_cons_of_mem _ (List.mem_cons_of_mem _ List.mem_cons_self))))))))) (by (first | exact List.mem_cons_self | exact List.mem_cons_of_mem _ List.mem_cons_self | exact List.mem_cons_of_mem _ (List.mem_cons_of_mem _ List.mem_cons_self) | exact List.mem_cons_of_mem _ (List.mem_cons_of_mem _ (List.mem_cons_of_mem _ List.mem_cons_self)) | exact List.mem_cons_of_mem _ (List.mem_cons_of_mem _ (List.mem_cons_of_mem _ (List.mem_cons_of_mem _ List.mem_cons_self))) | exact List.mem_cons_of_mem _ (List.mem_cons_of_mem _ (List.mem_cons_of_mem _ (List.mem_cons_of_mem _ (List.mem_cons_of_mem _ List.mem_cons_self)))) | exact List.mem_cons_of_mem _ (List.mem_cons_of_mem _ (List.mem_cons_of_mem _ (List.mem_cons_of_mem _ (List.mem_cons_of_mem _ (List.mem_cons_of_mem _ List.mem_cons_self))))) | exact List.mem_cons_of_mem _ (List.mem_cons_of_mem _ (List.mem_cons_of_mem _ (List.mem_cons_of_mem _ (List.mem_cons_of_mem _ (List.mem_cons_of_mem _ (List.mem_cons_of_mem _ List.mem_cons_self)))))) | exact List.mem_cons_of_mem _ (List.mem_cons_of_mem _ (List.mem_cons_of_mem _ (List.mem_cons_of_mem _ (List.mem_cons_of_mem _ (List.mem_cons_of_mem _ (List.mem_cons_of_mem _ (List.mem_cons_of_mem _ List.mem_cons_self))))))))) (fun q => by rw [q] at h2; cases h2)
  have hxP : x ≠ P := ne_of_obj N' (o := instObj 259 dx) (o' := penO k (17 * 0) t u 0) (by (first | exact List.mem_cons_self | exact List.mem_cons_of_mem _ List.mem_cons_self | exact List.mem_cons_of_mem _ (List.mem_cons_of_mem _ List.mem_cons_self) | exact List.mem_cons_of_mem _ (List.mem_cons_of_mem _ (List.mem_cons_of_mem _ List.mem_cons_self)) | exact List.mem_cons_of_mem _ (List.mem_cons_of_mem _ (List.mem_cons_of_mem _ (List.mem_cons_of_mem _ List.mem_cons_self))) | exact List.mem_cons_of_mem _ (List.mem_cons_of_mem _ (List.mem_cons_of_mem _ (List.mem_cons_of_mem _ (List.mem_cons_of_mem _ List.mem_cons_self)))) | exact List.mem_cons_of_mem _ (List.mem_cons_of_mem _ (List.mem_cons_of_mem _ (List.mem_cons_of_mem _ (List.mem_cons_of_mem _ (List.mem_cons_of_mem _ List.mem_cons_self))))) | exact List.mem_cons_of_mem _ (List.mem_cons_of_mem _ (List.mem_cons_of_mem _ (List.mem_cons_of_mem _ (List.mem_cons_of_mem _ (List.mem_cons_of_mem _ (List.mem_cons_of_mem _ List.mem_cons_self)))))) | exact List.mem_cons_of_mem _ (List.mem_cons_of_mem _ (List.mem_cons_of_mem _ (List.mem_cons_of_mem _ (List.mem_cons_of_mem _ (List.mem_cons_of_mem _ (List.mem_cons_of_mem _ (List.mem_cons_of_mem _ List.mem_cons_self))))))))) (by (first | exact List.mem_cons_self | exact List.mem_cons_of_mem _ List.mem_cons_self | exact List.mem_cons_of_mem _ (List.mem_cons_of_mem _ List.mem_cons_self) | exact List.mem_cons_of_mem _ (List.mem_cons_of_mem _ (List.mem_cons_of_mem _ List.mem_cons_self)) | exact List.mem_cons_of_mem _ (List.mem_cons_of_mem _ (List.mem_cons_of_mem _ (List.mem_cons_of_mem _ List.mem_cons_self))) | exact List.mem_cons_of_mem _ (List.mem_cons_of_mem _ (List.mem_cons_of_mem _ (List.mem_cons_of_mem _ (List.mem_cons_of_mem _ List.mem_cons_self)))) | exact List.mem_cons_of_mem _ (List.mem_cons_of_mem _ (List.mem_cons_of_mem _ (List.mem_cons_of_mem _ (List.mem_cons_of_mem _ (List.mem_cons_of_mem _ List.mem_cons_self))))) | exact List.mem_cons_of_mem _ (List.mem_cons_of_mem _ (List.mem_cons_of_mem _ (List.mem_cons_of_mem _ (List.mem_cons_of_mem _ (List.mem_cons_of_mem _ (List.mem_cons_of_mem _ List.mem_cons_self)))))) | exact List.mem_cons_of_mem _ (List.mem_cons_of_mem _ (List.mem_cons_of_mem _ (List.mem_cons_of_mem _ (List.mem_cons_of_mem _ (List.mem_cons_of_mem _ (List.mem_cons_of_mem _ (List.mem_cons_of_mem _ List.mem_cons_self))))))))) (fun q => by cases q)
  have hdP : dx ≠ P := ne_of_obj N' (o := dictOf es n) (o' := penO k (17 * 0) t u 0) (by (first | exact List.mem_cons_self | exact List.mem_cons_of_mem _ List.mem_cons_self | exact List.mem_cons_of_mem _ (List.mem_cons_of_mem _ List.mem_cons_self) | exact List.mem_cons_of_mem _ (List.mem_cons_of_mem _ (List.mem_cons_of_mem _ List.mem_cons_self)) | exact List.mem_cons_of_mem _ (List.mem_cons_of_mem _ (List.mem_cons_of_mem _ (List.mem_cons_of_mem _ List.mem_cons_self))) | exact List.mem_cons_of_mem _ (List.mem_cons_of_mem _ (List.mem_cons_of_mem _ (List.mem_cons_of_mem _ (List.mem_cons_of_mem _ List.mem_cons_self)))) | exact List.mem_cons_of_mem _ (List.mem_cons_of_mem _ (List.mem_cons_of_mem _ (List.mem_cons_of_mem _ (List.mem_cons_of_mem _ (List.mem_cons_of_mem _ List.mem_cons_self))))) | exact List.mem_cons_of_mem _ (List.mem_cons_of_mem _ (List.mem_cons_of_mem _ (List.mem_cons_of_mem _ (List.mem_cons_of_mem _ (List.mem_cons_of_mem _ (List.mem_cons_of_mem _ List.mem_cons_self)))))) | exact List.mem_cons_of_mem _ (List.mem_cons_of_mem _ (List.mem_cons_of_mem _ (List.mem_cons_of_mem _ (List.mem_cons_of_mem _ (List.mem_cons_of_mem _ (List.mem_cons_of_mem _ (List.mem_cons_of_mem _ List.mem_cons_self))))))))) (by (first | exact List.mem_cons_self | exact List.mem_cons_of_mem _ List.mem_cons_self | exact List.mem_cons_of_mem _ (List.mem_cons_of_mem _ List.mem_cons_self) | exact List.mem_cons_of_mem _ (List.mem_cons_of_mem _ (List.mem_cons_of_mem _ List.mem_cons_self)) | exact List.mem_cons_of_mem _ (List.mem_cons_of_mem _ (List.mem_cons_of_mem _ (List.mem_cons_of_mem _ List.mem_cons_self))) | exact List.mem_cons_of_mem _ (List.mem_cons_of_mem _ (List.mem_cons_of_mem _ (List.mem_cons_of_mem _ (List.mem_cons_of_mem _ List.mem_cons_self)))) | exact List.mem_cons_of_mem _ (List.mem_cons_of_mem _ (List.mem_cons_of_mem _ (List.mem_cons_of_mem _ (List.mem_cons_of_mem _ (List.mem_cons_of_mem _ List.mem_cons_self))))) | exact List.mem_cons_of_mem _ (List.mem_cons_of_mem _ (List.mem_cons_of_mem _ (List.mem_cons_of_mem _ (List.mem_cons_of_mem _ (List.mem_cons_of_mem _ (List.mem_cons_of_mem _ List.mem_cons_self)))))) | exact List.mem_cons_of_mem _ (List.mem_cons_of_mem _ (List.mem_cons_of_mem _ (List.mem_cons_of_mem _ (List.mem_cons_of_mem _ (List.mem_cons_of_mem _ (List.mem_cons_of_mem _ (List.mem_cons_of_mem _ List.mem_cons_self))))))))) (fun q => by have := congrArg Obj.data q; cases this)
  walk1
  refine m_ListComp (by with_unfolding_all rfl) rfl (by decide) ?_
  (repeat' ((fail_if_success (with_reducible show wpAny _ _ (exec (Stmt.For _ _ _ _ _) _) _ _ _)); (fail_if_success (with_reducible show wpAny _ _ (exec (Stmt.While _ _ _ _) _) _ _ _)); (fail_if_success (with_reducible show wpAny _ _ (pyIter _) _ _ _)); (fail_if_success (with_reducible show wpAny _ _ (exec (Stmt.Assign _ (Expr.ListComp _ _ _ _) _) _) _ _ _)); (fail_if_success (with_reducible show wpAny _ _ (eval (Expr.ListComp _ _ _ _) _) _ _ _)); (fail_if_success (with_reducible show wpAny _ _ (call (Value.ref _) _) _ _ _)); (fail_if_success (with_reducible show wpAny _ _ (exec (Stmt.If _ _ _ _) _) _ _ _)); first | (((with_reducible show wpAny _ _ (call (Value.ref 142) _) _ _ _); k_dflt (refine' con_use1 (con_php_soundex _ _ _ _ _ _ ?zl1) ?zF ?zN ?zX ?zT ?zhl ?zU ?zhA ?zhd ?zhu ?_; (case zF => k_asm); (case zN => k_asm); (case zX => k_asm); (case zT => k_asm); (case zl1 => omega); (case zhl => rfl); (case zU => kwd_less); (case zhA => rfl); (case zhd => (first | exact room_b (by with_reducible assumption) rfl | exact room_a (by with_reducible assumption) rfl | omega | (simp only [Around.deeper, Around.in1]; omega))); (case zhu => (first | exact room_b (by with_reducible assumption) rfl | exact room_a (by with_reducible assumption) rfl | omega | (simp only [Around.deeper, Around.in1]; omega)))); intro _ _ _ _ _ r'; obtain ⟨t', e'⟩ := r'; subst e'); (try dsimp only)) | (((with_reducible show wpAny _ _ (call (Value.ref 303) _) _ _ _); k_dflt (refine' my_least ?zF ?zN ?zX ?zT ?zl1 ?zl2 ?zf1 ?zf2 ?zf3 ?zhA ?zhd ?zhu ?_; (case zF => k_asm); (case zN => k_asm); (case zX => k_asm); (case zT => k_asm); (case zl1 => first | omega | decide +kernel); (case zl2 => first | omega | decide +kernel); (case zf1 => rfl); (case zf2 => rfl); (case zf3 => exact (by decide : ScopeKind.function ≠ ScopeKind.module)); (case zhA => rfl); (case zhd => (first | exact room_b (by with_reducible assumption) rfl | exact room_a (by with_reducible assumption) rfl | omega | (simp only [Around.deeper, Around.in1]; omega))); (case zhu => (first | exact room_b (by with_reducible assumption) rfl | exact room_a (by with_reducible assumption) rfl | omega | (simp only [Around.deeper, Around.in1]; omega)))); intro _ _ _ _); (try dsimp only)) | (((with_reducible show wpAny _ _ (call (Value.ref 259) _) _ _ _); k_dflt (refine' my_host ?zF ?zN ?zX ?zT ?zhA ?zhd ?zhu ?_; (case zF => k_asm); (case zN => k_asm); (case zX => k_asm); (case zT => k_asm); (case zhA => rfl); (case zhd => (first | exact room_b (by with_reducible assumption) rfl | exact room_a (by with_reducible assumption) rfl | omega | (simp only [Around.deeper, Around.in1]; omega))); (case zhu => (first | exact room_b (by with_reducible assumption) rfl | exact room_a (by with_reducible assumption) rfl | omega | (simp only [Around.deeper, Around.in1]; omega)))); intro _ _ _ _ _ _ _ _ _ _; (try k_sweep)); (try dsimp only)) | (((with_reducible show wpAny _ _ (call (Value.ref 277) _) _ _ _); k_dflt (refine' my_take ?zF ?zN ?zX ?zT ?zU ?zhk ?zhm ?zhA ?zhd ?zhu ?_; (case zF => k_asm); (case zN => k_asm); (case zX => k_asm); (case zT => k_asm); (case zU => (intro _; tb_start)); (case zhk => ((try dsimp only); omega)); (case zhm => ((try dsimp only); omega)); (case zhA => rfl); (case zhd => (first | exact room_b (by with_reducible assumption) rfl | exact room_a (by with_reducible assumption) rfl | omega | (simp only [Around.deeper, Around.in1]; omega))); (case zhu => (first | exact room_b (by with_reducible assumption) rfl | exact room_a (by with_reducible assumption) rfl | omega | (simp only [Around.deeper, Around.in1]; omega)))); intro _ _ _ _ _ _ _ _ _ _ _ _; (try k_sweep)); (try dsimp only)) | ((with_reducible show wpAny _ _ (call (Value.ref _) _) _ _ _); k_dflt (refine' con_useI ?zC ?zF ?zN ?zX ?zT ?zhA ?zhd ?zhu ?_); (case zC => first | (first | exact con_law_is_metric _ _ _ _ _ _ _ (by omega) (by omega) (by omega) (metricAt _ _ _) | exact con_law_is_similar _ _ _ _ _ _ (by omega) (by first | omega | decide +kernel) (similarAt _ _)) | exact con_law_sound _ _ _ (by with_reducible assumption) | exact con_distance _ _ _ _ _ _ _ _ _ _ _ (by omega) (by omega)); (case zF => k_asm); (case zN => k_asm); (case zX => k_asm); (case zT => k_asm); (case zhA => rfl); (case zhd => first | exact room_b (by with_reducible assumption) rfl | exact room_a (by with_reducible assumption) rfl | omega | (simp only [Around.deeper, Around.in1]; omega)); (case zhu => first | exact room_b (by with_reducible assumption) rfl | exact room_a (by with_reducible assumption) rfl | omega | (simp only [Around.deeper, Around.in1]; omega)); intro _ _ _ _ _; (try k_sweep); (try dsimp only)) | ((with_reducible show wpAny _ _ (call (Value.ref _) _) _ _ _); k_dflt (refine' con_useS ?zC ?zF ?zN ?zX ?zT ?zhA ?zhd ?zhu ?_); (case zC => first | (first | exact con_law_is_metric _ _ _ _ _ _ _ (by omega) (by omega) (by omega) (metricAt _ _ _) | exact con_law_is_similar _ _ _ _ _ _ (by omega) (by first | omega | decide +kernel) (similarAt _ _)) | exact con_law_sound _ _ _ (by with_reducible assumption) | exact con_distance _ _ _ _ _ _ _ _ _ _ _ (by omega) (by omega)); (case zF => k_asm); (case zN => k_asm); (case zX => k_asm); (case zT => k_asm); (case zhA => rfl); (case zhd => first | exact room_b (by with_reducible assumption) rfl | exact room_a (by with_reducible assumption) rfl | omega | (simp only [Around.deeper, Around.in1]; omega)); (case zhu => first | exact room_b (by with_reducible assumption) rfl | exact room_a (by with_reducible assumption) rfl | omega | (simp only [Around.deeper, Around.in1]; omega)); intro _ _ _ _ _; (try k_sweep); (try dsimp only)) | ((with_reducible show wpAny _ _ (call (Value.ref _) _) _ _ _); k_dflt (refine' con_useB ?zC ?zF ?zN ?zX ?zT ?zhA ?zhd ?zhu ?_); (case zC => first | (first | exact con_law_is_metric _ _ _ _ _ _ _ (by omega) (by omega) (by omega) (metricAt _ _ _) | exact con_law_is_similar _ _ _ _ _ _ (by omega) (by first | omega | decide +kernel) (similarAt _ _)) | exact con_law_sound _ _ _ (by with_reducible assumption) | exact con_distance _ _ _ _ _ _ _ _ _ _ _ (by omega) (by omega)); (case zF => k_asm); (case zN => k_asm); (case zX => k_asm); (case zT => k_asm); (case zhA => rfl); (case zhd => first | exact room_b (by with_reducible assumption) rfl | exact room_a (by with_reducible assumption) rfl | omega | (simp only [Around.deeper, Around.in1]; omega)); (case zhu => first | exact room_b (by with_reducible assumption) rfl | exact room_a (by with_reducible assumption) rfl | omega | (simp only [Around.deeper, Around.in1]; omega)); intro _ _ _ _; (try k_sweep); (try dsimp only)) | (k_unfold; (try dsimp only)) | (walk1; (try dsimp only)) | (dsimp only; walk1) | fail "no step"))
  rename Fr _ _ _ _ => F1
  rename News _ _ _ _ => N1
  rename IsRange _ _ _ _ _ _ _ _ => R1
  refine m_comp_range (σ := PenAt) PenAt.led [(L + 1, o2)] [(x, instObj 259 dx), (l, listOf #[] 0), (dx, dictOf es n), (D, listOf ws.toArray 0), (L + 1, o2)] [P] (fun i acc c => c.p = P ∧ c.k = 17 * 0 + i ∧ ∃ ns, IntsAre acc.toList ns ∧ ns.length = i ∧ ∀ n ∈ ns, -2 ≤ n ∧ n ≤ 5) 3 rfl R1 (by decide) (by decide) (by decide) (by decide) rfl (by rw [PySem.sizeLine_eq]; decide) F1 N1 X T (by decide) rfl rfl ?vis ⟨⟨P, k, 17 * 0, t, u, 0⟩, sub_cons (by (first | exact List.mem_cons_self | exact List.mem_cons_of_mem _ List.mem_cons_self | exact List.mem_cons_of_mem _ (List.mem_cons_of_mem _ List.mem_cons_self) | exact List.mem_cons_of_mem _ (List.mem_cons_of_mem _ (List.mem_cons_of_mem _ List.mem_cons_self)) | exact List.mem_cons_of_mem _ (List.mem_cons_of_mem _ (List.mem_cons_of_mem _ (List.mem_cons_of_mem _ List.mem_cons_self))) | exact List.mem_cons_of_mem _ (List.mem_cons_of_mem _ (List.mem_cons_of_mem _ (List.mem_cons_of_mem _ (List.mem_cons_of_mem _ List.mem_cons_self)))) | exact List.mem_cons_of_mem _ (List.mem_cons_of_mem _ (List.mem_cons_of_mem _ (List.mem_cons_of_mem _ (List.mem_cons_of_mem _ (List.mem_cons_of_mem _ List.mem_cons_self))))) | exact List.mem_cons_of_mem _ (List.mem_cons_of_mem _ (List.mem_cons_of_mem _ (List.mem_cons_of_mem _ (List.mem_cons_of_mem _ (List.mem_cons_of_mem _ (List.mem_cons_of_mem _ List.mem_cons_self)))))) | exact List.mem_cons_of_mem _ (List.mem_cons_of_mem _ (List.mem_cons_of_mem _ (List.mem_cons_of_mem _ (List.mem_cons_of_mem _ (List.mem_cons_of_mem _ (List.mem_cons_of_mem _ (List.mem_cons_of_mem _ List.mem_cons_self))))))))) sub_nil, rfl, by simp, [], .nil, rfl, fun _ h => nomatch h⟩ ?adr ?rest ?acc ?turn ?done
  case vis => (repeat' (first | exact sub_nil | refine sub_cons (by (first | exact List.mem_cons_self | exact List.mem_cons_of_mem _ List.mem_cons_self | exact List.mem_cons_of_mem _ (List.mem_cons_of_mem _ List.mem_cons_self) | exact List.mem_cons_of_mem _ (List.mem_cons_of_mem _ (List.mem_cons_of_mem _ List.mem_cons_self)) | exact List.mem_cons_of_mem _ (List.mem_cons_of_mem _ (List.mem_cons_of_mem _ (List.mem_cons_of_mem _ List.mem_cons_self))) | exact List.mem_cons_of_mem _ (List.mem_cons_of_mem _ (List.mem_cons_of_mem _ (List.mem_cons_of_mem _ (List.mem_cons_of_mem _ List.mem_cons_self)))) | exact List.mem_cons_of_mem _ (List.mem_cons_of_mem _ (List.mem_cons_of_mem _ (List.mem_cons_of_mem _ (List.mem_cons_of_mem _ (List.mem_cons_of_mem _ List.mem_cons_self))))) | exact List.mem_cons_of_mem _ (List.mem_cons_of_mem _ (List.mem_cons_of_mem _ (List.mem_cons_of_mem _ (List.mem_cons_of_mem _ (List.mem_cons_of_mem _ (List.mem_cons_of_mem _ List.mem_cons_self)))))) | exact List.mem_cons_of_mem _ (List.mem_cons_of_mem _ (List.mem_cons_of_mem _ (List.mem_cons_of_mem _ (List.mem_cons_of_mem _ (List.mem_cons_of_mem _ (List.mem_cons_of_mem _ (List.mem_cons_of_mem _ List.mem_cons_self))))))))) ?_))
  case adr => rintro i acc ⟨p, n2, k2, t2, u2, e2⟩ ⟨e1, -⟩; simp only [PenAt.led, List.map_cons, List.map_nil]; dsimp only at e1; rw [e1]
  case rest => repeat' (first | exact rest_nil | refine rest_cons (by (first | exact List.mem_cons_self | exact List.mem_cons_of_mem _ List.mem_cons_self | exact List.mem_cons_of_mem _ (List.mem_cons_of_mem _ List.mem_cons_self) | exact List.mem_cons_of_mem _ (List.mem_cons_of_mem _ (List.mem_cons_of_mem _ List.mem_cons_self)) | exact List.mem_cons_of_mem _ (List.mem_cons_of_mem _ (List.mem_cons_of_mem _ (List.mem_cons_of_mem _ List.mem_cons_self))) | exact List.mem_cons_of_mem _ (List.mem_cons_of_mem _ (List.mem_cons_of_mem _ (List.mem_cons_of_mem _ (List.mem_cons_of_mem _ List.mem_cons_self)))) | exact List.mem_cons_of_mem _ (List.mem_cons_of_mem _ (List.mem_cons_of_mem _ (List.mem_cons_of_mem _ (List.mem_cons_of_mem _ (List.mem_cons_of_mem _ List.mem_cons_self))))) | exact List.mem_cons_of_mem _ (List.mem_cons_of_mem _ (List.mem_cons_of_mem _ (List.mem_cons_of_mem _ (List.mem_cons_of_mem _ (List.mem_cons_of_mem _ (List.mem_cons_of_mem _ List.mem_cons_self)))))) | exact List.mem_cons_of_mem _ (List.mem_cons_of_mem _ (List.mem_cons_of_mem _ (List.mem_cons_of_mem _ (List.mem_cons_of_mem _ (List.mem_cons_of_mem _ (List.mem_cons_of_mem _ (List.mem_cons_of_mem _ List.mem_cons_self))))))))) (fun q => absurd (List.mem_singleton.mp q) (by assumption)) ?_)
  case acc =>
    rintro i acc c ⟨-, -, ns, h, hl, -⟩
    have := h.length
    simp only [Array.length_toList] at this
    omega
  case turn =>
    rintro g' C i t' ⟨P', n2, k2, t2, u2, e2⟩ acc u' h tk own hi ⟨e1, e2, ys, hJ, hy, hys⟩ hs X' T' F' N'
    dsimp only at e1 e2
    subst e1 e2
    have hoff : Off P' own := Off.of fun q hq => hs q hq _ List.mem_cons_self
    clear F1 N1 R1
    simp only [PenAt.led, List.nil_append, List.cons_append] at N'
    (try k_fold)
    (repeat' ((fail_if_success (with_reducible show wpAny _ _ (exec (Stmt.For _ _ _ _ _) _) _ _ _)); (fail_if_success (with_reducible show wpAny _ _ (exec (Stmt.While _ _ _ _) _) _ _ _)); (fail_if_success (with_reducible show wpAny _ _ (pyIter _) _ _ _)); (fail_if_success (with_reducible show wpAny _ _ (exec (Stmt.Assign _ (Expr.ListComp _ _ _ _) _) _) _ _ _)); (fail_if_success (with_reducible show wpAny _ _ (eval (Expr.ListComp _ _ _ _) _) _ _ _)); first | (((with_reducible show wpAny _ _ (call (Value.ref 142) _) _ _ _); k_dflt (refine' con_use1 (con_php_soundex _ _ _ _ _ _ ?zl1) ?zF ?zN ?zX ?zT ?zhl ?zU ?zhA ?zhd ?zhu ?_; (case zF => k_asm); (case zN => k_asm); (case zX => k_asm); (case zT => k_asm); (case zl1 => omega); (case zhl => rfl); (case zU => kwd_less); (case zhA => rfl); (case zhd => (first | exact room_b (by with_reducible assumption) rfl | exact room_a (by with_reducible assumption) rfl | omega | (simp only [Around.deeper, Around.in1]; omega))); (case zhu => (first | exact room_b (by with_reducible assumption) rfl | exact room_a (by with_reducible assumption) rfl | omega | (simp only [Around.deeper, Around.in1]; omega)))); intro _ _ _ _ _ r'; obtain ⟨t', e'⟩ := r'; subst e'); (try dsimp only)) | (((with_reducible show wpAny _ _ (call (Value.ref 303) _) _ _ _); k_dflt (refine' my_least ?zF ?zN ?zX ?zT ?zl1 ?zl2 ?zf1 ?zf2 ?zf3 ?zhA ?zhd ?zhu ?_; (case zF => k_asm); (case zN => k_asm); (case zX => k_asm); (case zT => k_asm); (case zl1 => first | omega | decide +kernel); (case zl2 => first | omega | decide +kernel); (case zf1 => rfl); (case zf2 => rfl); (case zf3 => exact (by decide : ScopeKind.function ≠ ScopeKind.module)); (case zhA => rfl); (case zhd => (first | exact room_b (by with_reducible assumption) rfl | exact room_a (by with_reducible assumption) rfl | omega | (simp only [Around.deeper, Around.in1]; omega))); (case zhu => (first | exact room_b (by with_reducible assumption) rfl | exact room_a (by with_reducible assumption) rfl | omega | (simp only [Around.deeper, Around.in1]; omega)))); intro _ _ _ _); (try dsimp only)) | (((with_reducible show wpAny _ _ (call (Value.ref 259) _) _ _ _); k_dflt (refine' my_host ?zF ?zN ?zX ?zT ?zhA ?zhd ?zhu ?_; (case zF => k_asm); (case zN => k_asm); (case zX => k_asm); (case zT => k_asm); (case zhA => rfl); (case zhd => (first | exact room_b (by with_reducible assumption) rfl | exact room_a (by with_reducible assumption) rfl | omega | (simp only [Around.deeper, Around.in1]; omega))); (case zhu => (first | exact room_b (by with_reducible assumption) rfl | exact room_a (by with_reducible assumption) rfl | omega | (simp only [Around.deeper, Around.in1]; omega)))); intro _ _ _ _ _ _ _ _ _ _; (try k_sweep)); (try dsimp only)) | (((with_reducible show wpAny _ _ (call (Value.ref 277) _) _ _ _); k_dflt (refine' my_take ?zF ?zN ?zX ?zT ?zU ?zhk ?zhm ?zhA ?zhd ?zhu ?_; (case zF => k_asm); (case zN => k_asm); (case zX => k_asm); (case zT => k_asm); (case zU => (intro _; tb_start)); (case zhk => ((try dsimp only); omega)); (case zhm => ((try dsimp only); omega)); (case zhA => rfl); (case zhd => (first | exact room_b (by with_reducible assumption) rfl | exact room_a (by with_reducible assumption) rfl | omega | (simp only [Around.deeper, Around.in1]; omega))); (case zhu => (first | exact room_b (by with_reducible assumption) rfl | exact room_a (by with_reducible assumption) rfl | omega | (simp only [Around.deeper, Around.in1]; omega)))); intro _ _ _ _ _ _ _ _ _ _ _ _; (try k_sweep)); (try dsimp only)) | ((with_reducible show wpAny _ _ (call (Value.ref _) _) _ _ _); k_dflt (refine' con_useI ?zC ?zF ?zN ?zX ?zT ?zhA ?zhd ?zhu ?_); (case zC => first | (first | exact con_law_is_metric _ _ _ _ _ _ _ (by omega) (by omega) (by omega) (metricAt _ _ _) | exact con_law_is_similar _ _ _ _ _ _ (by omega) (by first | omega | decide +kernel) (similarAt _ _)) | exact con_law_sound _ _ _ (by with_reducible assumption) | exact con_distance _ _ _ _ _ _ _ _ _ _ _ (by omega) (by omega)); (case zF => k_asm); (case zN => k_asm); (case zX => k_asm); (case zT => k_asm); (case zhA => rfl); (case zhd => first | exact room_b (by with_reducible assumption) rfl | exact room_a (by with_reducible assumption) rfl | omega | (simp only [Around.deeper, Around.in1]; omega)); (case zhu => first | exact room_b (by with_reducible assumption) rfl | exact room_a (by with_reducible assumption) rfl | omega | (simp only [Around.deeper, Around.in1]; omega)); intro _ _ _ _ _; (try k_sweep); (try dsimp only)) | ((with_reducible show wpAny _ _ (call (Value.ref _) _) _ _ _); k_dflt (refine' con_useS ?zC ?zF ?zN ?zX ?zT ?zhA ?zhd ?zhu ?_); (case zC => first | (first | exact con_law_is_metric _ _ _ _ _ _ _ (by omega) (by omega) (by omega) (metricAt _ _ _) | exact con_law_is_similar _ _ _ _ _ _ (by omega) (by first | omega | decide +kernel) (similarAt _ _)) | exact con_law_sound _ _ _ (by with_reducible assumption) | exact con_distance _ _ _ _ _ _ _ _ _ _ _ (by omega) (by omega)); (case zF => k_asm); (case zN => k_asm); (case zX => k_asm); (case zT => k_asm); (case zhA => rfl); (case zhd => first | exact room_b (by with_reducible assumption) rfl | exact room_a (by with_reducible assumption) rfl | omega | (simp only [Around.deeper, Around.in1]; omega)); (case zhu => first | exact room_b (by with_reducible assumption) rfl | exact room_a (by with_reducible assumption) rfl | omega | (simp only [Around.deeper, Around.in1]; omega)); intro _ _ _ _ _; (try k_sweep); (try dsimp only)) | ((with_reducible show wpAny _ _ (call (Value.ref _) _) _ _ _); k_dflt (refine' con_useB ?zC ?zF ?zN ?zX ?zT ?zhA ?zhd ?zhu ?_); (case zC => first | (first | exact con_law_is_metric _ _ _ _ _ _ _ (by omega) (by omega) (by omega) (metricAt _ _ _) | exact con_law_is_similar _ _ _ _ _ _ (by omega) (by first | omega | decide +kernel) (similarAt _ _)) | exact con_law_sound _ _ _ (by with_reducible assumption) | exact con_distance _ _ _ _ _ _ _ _ _ _ _ (by omega) (by omega)); (case zF => k_asm); (case zN => k_asm); (case zX => k_asm); (case zT => k_asm); (case zhA => rfl); (case zhd => first | exact room_b (by with_reducible assumption) rfl | exact room_a (by with_reducible assumption) rfl | omega | (simp only [Around.deeper, Around.in1]; omega)); (case zhu => first | exact room_b (by with_reducible assumption) rfl | exact room_a (by with_reducible assumption) rfl | omega | (simp only [Around.deeper, Around.in1]; omega)); intro _ _ _ _; (try k_sweep); (try dsimp only)) | (k_unfold; (try dsimp only)) | (walk1; (try dsimp only)) | (dsimp only; walk1) | fail "no step"))
    rename 0 ≤ _ => q1
    rename _ < 8 => q2
    rename Fr _ _ _ _ => F2
    rename News _ _ _ _ => N2
    rename_i rr _ _ _ _ _ _ _
    refine CompEnd.intro ⟨P', _, 17 * 0 + i + 1, _, _, _⟩ F2 N2 (sub_cons (List.Mem.head _) sub_nil) (sub_tl sub_rfl) ⟨rfl, by dsimp only; omega, ys ++ [rr - 2], ?_, by simp [hy], ?_⟩
    · rw [Array.toList_push]
      exact hJ.append (.cons _ _ .nil)
    · intro y hy
      rcases List.mem_append.mp hy with hy | hy
      · exact hys y hy
      · rw [List.mem_singleton.mp hy]; omega
  case done =>
    rintro E1 C ⟨P', n2, k2, t2, u2, e2⟩ acc nn h' tk' hCL hled h0 hn ⟨F', N', ⟨e1, e2, ys, hJ, hy, hys⟩, hlt⟩
    dsimp only at e1 e2
    subst e1 e2
    refine compPost_none hCL hled h0 hn F' N' ?_
    clear F' N' F1 N1 R1 hled hn h0 hlt
    intro h' F' N'
    simp only [PenAt.led, List.nil_append, List.cons_append] at N'
    obtain ⟨ci, cr, cd, ti, tr, td, rfl, hbi, hbr, hbd⟩ := ints_three hJ hy hys
    clear hJ hy hys ys
    dsimp only
    (repeat' ((fail_if_success (with_reducible show wpAny _ _ (exec (Stmt.For _ _ _ _ _) _) _ _ _)); (fail_if_success (with_reducible show wpAny _ _ (exec (Stmt.While _ _ _ _) _) _ _ _)); (fail_if_success (with_reducible show wpAny _ _ (pyIter _) _ _ _)); (fail_if_success (with_reducible show wpAny _ _ (exec (Stmt.Assign _ (Expr.ListComp _ _ _ _) _) _) _ _ _)); (fail_if_success (with_reducible show wpAny _ _ (eval (Expr.ListComp _ _ _ _) _) _ _ _)); (fail_if_success (with_reducible show wpAny _ _ (call (Value.ref _) _) _ _ _)); (fail_if_success (with_reducible show wpAny _ _ (exec (Stmt.If _ _ _ _) _) _ _ _)); first | (((with_reducible show wpAny _ _ (call (Value.ref 142) _) _ _ _); k_dflt (refine' con_use1 (con_php_soundex _ _ _ _ _ _ ?zl1) ?zF ?zN ?zX ?zT ?zhl ?zU ?zhA ?zhd ?zhu ?_; (case zF => k_asm); (case zN => k_asm); (case zX => k_asm); (case zT => k_asm); (case zl1 => omega); (case zhl => rfl); (case zU => kwd_less); (case zhA => rfl); (case zhd => (first | exact room_b (by with_reducible assumption) rfl | exact room_a (by with_reducible assumption) rfl | omega | (simp only [Around.deeper, Around.in1]; omega))); (case zhu => (first | exact room_b (by with_reducible assumption) rfl | exact room_a (by with_reducible assumption) rfl | omega | (simp only [Around.deeper, Around.in1]; omega)))); intro _ _ _ _ _ r'; obtain ⟨t', e'⟩ := r'; subst e'); (try dsimp only)) | (((with_reducible show wpAny _ _ (call (Value.ref 303) _) _ _ _); k_dflt (refine' my_least ?zF ?zN ?zX ?zT ?zl1 ?zl2 ?zf1 ?zf2 ?zf3 ?zhA ?zhd ?zhu ?_; (case zF => k_asm); (case zN => k_asm); (case zX => k_asm); (case zT => k_asm); (case zl1 => first | omega | decide +kernel); (case zl2 => first | omega | decide +kernel); (case zf1 => rfl); (case zf2 => rfl); (case zf3 => exact (by decide : ScopeKind.function ≠ ScopeKind.module)); (case zhA => rfl); (case zhd => (first | exact room_b (by with_reducible assumption) rfl | exact room_a (by with_reducible assumption) rfl | omega | (simp only [Around.deeper, Around.in1]; omega))); (case zhu => (first | exact room_b (by with_reducible assumption) rfl | exact room_a (by with_reducible assumption) rfl | omega | (simp only [Around.deeper, Around.in1]; omega)))); intro _ _ _ _); (try dsimp only)) | (((with_reducible show wpAny _ _ (call (Value.ref 259) _) _ _ _); k_dflt (refine' my_host ?zF ?zN ?zX ?zT ?zhA ?zhd ?zhu ?_; (case zF => k_asm); (case zN => k_asm); (case zX => k_asm); (case zT => k_asm); (case zhA => rfl); (case zhd => (first | exact room_b (by with_reducible assumption) rfl | exact room_a (by with_reducible assumption) rfl | omega | (simp only [Around.deeper, Around.in1]; omega))); (case zhu => (first | exact room_b (by with_reducible assumption) rfl | exact room_a (by with_reducible assumption) rfl | omega | (simp only [Around.deeper, Around.in1]; omega)))); intro _ _ _ _ _ _ _ _ _ _; (try k_sweep)); (try dsimp only)) | (((with_reducible show wpAny _ _ (call (Value.ref 277) _) _ _ _); k_dflt (refine' my_take ?zF ?zN ?zX ?zT ?zU ?zhk ?zhm ?zhA ?zhd ?zhu ?_; (case zF => k_asm); (case zN => k_asm); (case zX => k_asm); (case zT => k_asm); (case zU => (intro _; tb_start)); (case zhk => ((try dsimp only); omega)); (case zhm => ((try dsimp only); omega)); (case zhA => rfl); (case zhd => (first | exact room_b (by with_reducible assumption) rfl | exact room_a (by with_reducible assumption) rfl | omega | (simp only [Around.deeper, Around.in1]; omega))); (case zhu => (first | exact room_b (by with_reducible assumption) rfl | exact room_a (by with_reducible assumption) rfl | omega | (simp only [Around.deeper, Around.in1]; omega)))); intro _ _ _ _ _ _ _ _ _ _ _ _; (try k_sweep)); (try dsimp only)) | ((with_reducible show wpAny _ _ (call (Value.ref _) _) _ _ _); k_dflt (refine' con_useI ?zC ?zF ?zN ?zX ?zT ?zhA ?zhd ?zhu ?_); (case zC => first | (first | exact con_law_is_metric _ _ _ _ _ _ _ (by omega) (by omega) (by omega) (metricAt _ _ _) | exact con_law_is_similar _ _ _ _ _ _ (by omega) (by first | omega | decide +kernel) (similarAt _ _)) | exact con_law_sound _ _ _ (by with_reducible assumption) | exact con_distance _ _ _ _ _ _ _ _ _ _ _ (by omega) (by omega)); (case zF => k_asm); (case zN => k_asm); (case zX => k_asm); (case zT => k_asm); (case zhA => rfl); (case zhd => first | exact room_b (by with_reducible assumption) rfl | exact room_a (by with_reducible assumption) rfl | omega | (simp only [Around.deeper, Around.in1]; omega)); (case zhu => first | exact room_b (by with_reducible assumption) rfl | exact room_a (by with_reducible assumption) rfl | omega | (simp only [Around.deeper, Around.in1]; omega)); intro _ _ _ _ _; (try k_sweep); (try dsimp only)) | ((with_reducible show wpAny _ _ (call (Value.ref _) _) _ _ _); k_dflt (refine' con_useS ?zC ?zF ?zN ?zX ?zT ?zhA ?zhd ?zhu ?_); (case zC => first | (first | exact con_law_is_metric _ _ _ _ _ _ _ (by omega) (by omega) (by omega) (metricAt _ _ _) | exact con_law_is_similar _ _ _ _ _ _ (by omega) (by first | omega | decide +kernel) (similarAt _ _)) | exact con_law_sound _ _ _ (by with_reducible assumption) | exact con_distance _ _ _ _ _ _ _ _ _ _ _ (by omega) (by omega)); (case zF => k_asm); (case zN => k_asm); (case zX => k_asm); (case zT => k_asm); (case zhA => rfl); (case zhd => first | exact room_b (by with_reducible assumption) rfl | exact room_a (by with_reducible assumption) rfl | omega | (simp only [Around.deeper, Around.in1]; omega)); (case zhu => first | exact room_b (by with_reducible assumption) rfl | exact room_a (by with_reducible assumption) rfl | omega | (simp only [Around.deeper, Around.in1]; omega)); intro _ _ _ _ _; (try k_sweep); (try dsimp only)) | ((with_reducible show wpAny _ _ (call (Value.ref _) _) _ _ _); k_dflt (refine' con_useB ?zC ?zF ?zN ?zX ?zT ?zhA ?zhd ?zhu ?_); (case zC => first | (first | exact con_law_is_metric _ _ _ _ _ _ _ (by omega) (by omega) (by omega) (metricAt _ _ _) | exact con_law_is_similar _ _ _ _ _ _ (by omega) (by first | omega | decide +kernel) (similarAt _ _)) | exact con_law_sound _ _ _ (by with_reducible assumption) | exact con_distance _ _ _ _ _ _ _ _ _ _ _ (by omega) (by omega)); (case zF => k_asm); (case zN => k_asm); (case zX => k_asm); (case zT => k_asm); (case zhA => rfl); (case zhd => first | exact room_b (by with_reducible assumption) rfl | exact room_a (by with_reducible assumption) rfl | omega | (simp only [Around.deeper, Around.in1]; omega)); (case zhu => first | exact room_b (by with_reducible assumption) rfl | exact room_a (by with_reducible assumption) rfl | omega | (simp only [Around.deeper, Around.in1]; omega)); intro _ _ _ _; (try k_sweep); (try dsimp only)) | (k_unfold; (try dsimp only)) | (walk1; (try dsimp only)) | (dsimp only; walk1) | fail "no step"))
    rename Fr _ _ _ _ => F1
    rename News _ _ _ _ => N0
    have N1 := News.sub N0 (news' := [(P', penO n2 (17 * 0 + ((3 : Nat) : Int)) t2 u2 e2), (x, instObj 259 dx), (l, listOf #[] 0), (dx, dictOf es n), (D, listOf ws.toArray 0), (L + 1, o2)]) (fun p hp => List.mem_cons_of_mem _ hp)
    clear N0
    refine wpAny_mono (Q := LawIf g L s ci ti x D P' [(x, instObj 259 dx), (l, listOf #[] 0), (dx, dictOf es n), (D, listOf ws.toArray 0), (L + 1, o2)]) (E := fun _ _ => False) ?ifs ?rest (fun _ _ z => z)
    case ifs =>
      (repeat' ((fail_if_success (with_reducible show wpAny _ _ (exec (Stmt.For _ _ _ _ _) _) _ _ _)); (fail_if_success (with_reducible show wpAny _ _ (exec (Stmt.While _ _ _ _) _) _ _ _)); (fail_if_success (with_reducible show wpAny _ _ (pyIter _) _ _ _)); (fail_if_success (with_reducible show wpAny _ _ (exec (Stmt.Assign _ (Expr.ListComp _ _ _ _) _) _) _ _ _)); (fail_if_success (with_reducible show wpAny _ _ (eval (Expr.ListComp _ _ _ _) _) _ _ _)); first | (((with_reducible show wpAny _ _ (call (Value.ref 142) _) _ _ _); k_dflt (refine' con_use1 (con_php_soundex _ _ _ _ _ _ ?zl1) ?zF ?zN ?zX ?zT ?zhl ?zU ?zhA ?zhd ?zhu ?_; (case zF => k_asm); (case zN => k_asm); (case zX => k_asm); (case zT => k_asm); (case zl1 => omega); (case zhl => rfl); (case zU => kwd_less); (case zhA => rfl); (case zhd => (first | exact room_b (by with_reducible assumption) rfl | exact room_a (by with_reducible assumption) rfl | omega | (simp only [Around.deeper, Around.in1]; omega))); (case zhu => (first | exact room_b (by with_reducible assumption) rfl | exact room_a (by with_reducible assumption) rfl | omega | (simp only [Around.deeper, Around.in1]; omega)))); intro _ _ _ _ _ r'; obtain ⟨t', e'⟩ := r'; subst e'); (try dsimp only)) | (((with_reducible show wpAny _ _ (call (Value.ref 303) _) _ _ _); k_dflt (refine' my_least ?zF ?zN ?zX ?zT ?zl1 ?zl2 ?zf1 ?zf2 ?zf3 ?zhA ?zhd ?zhu ?_; (case zF => k_asm); (case zN => k_asm); (case zX => k_asm); (case zT => k_asm); (case zl1 => first | omega | decide +kernel); (case zl2 => first | omega | decide +kernel); (case zf1 => rfl); (case zf2 => rfl); (case zf3 => exact (by decide : ScopeKind.function ≠ ScopeKind.module)); (case zhA => rfl); (case zhd => (first | exact room_b (by with_reducible assumption) rfl | exact room_a (by with_reducible assumption) rfl | omega | (simp only [Around.deeper, Around.in1]; omega))); (case zhu => (first | exact room_b (by with_reducible assumption) rfl | exact room_a (by with_reducible assumption) rfl | omega | (simp only [Around.deeper, Around.in1]; omega)))); intro _ _ _ _); (try dsimp only)) | (((with_reducible show wpAny _ _ (call (Value.ref 259) _) _ _ _); k_dflt (refine' my_host ?zF ?zN ?zX ?zT ?zhA ?zhd ?zhu ?_; (case zF => k_asm); (case zN => k_asm); (case zX => k_asm); (case zT => k_asm); (case zhA => rfl); (case zhd => (first | exact room_b (by with_reducible assumption) rfl | exact room_a (by with_reducible assumption) rfl | omega | (simp only [Around.deeper, Around.in1]; omega))); (case zhu => (first | exact room_b (by with_reducible assumption) rfl | exact room_a (by with_reducible assumption) rfl | omega | (simp only [Around.deeper, Around.in1]; omega)))); intro _ _ _ _ _ _ _ _ _ _; (try k_sweep)); (try dsimp only)) | (((with_reducible show wpAny _ _ (call (Value.ref 277) _) _ _ _); k_dflt (refine' my_take ?zF ?zN ?zX ?zT ?zU ?zhk ?zhm ?zhA ?zhd ?zhu ?_; (case zF => k_asm); (case zN => k_asm); (case zX => k_asm); (case zT => k_asm); (case zU => (intro _; tb_start)); (case zhk => ((try dsimp only); omega)); (case zhm => ((try dsimp only); omega)); (case zhA => rfl); (case zhd => (first | exact room_b (by with_reducible assumption) rfl | exact room_a (by with_reducible assumption) rfl | omega | (simp only [Around.deeper, Around.in1]; omega))); (case zhu => (first | exact room_b (by with_reducible assumption) rfl | exact room_a (by with_reducible assumption) rfl | omega | (simp only [Around.deeper, Around.in1]; omega)))); intro _ _ _ _ _ _ _ _ _ _ _ _; (try k_sweep)); (try dsimp only)) | ((with_reducible show wpAny _ _ (call (Value.ref _) _) _ _ _); k_dflt (refine' con_useI ?zC ?zF ?zN ?zX ?zT ?zhA ?zhd ?zhu ?_); (case zC => first | (first | exact con_law_is_metric _ _ _ _ _ _ _ (by omega) (by omega) (by omega) (metricAt _ _ _) | exact con_law_is_similar _ _ _ _ _ _ (by omega) (by first | omega | decide +kernel) (similarAt _ _)) | exact con_law_sound _ _ _ (by with_reducible assumption) | exact con_distance _ _ _ _ _ _ _ _ _ _ _ (by omega) (by omega)); (case zF => k_asm); (case zN => k_asm); (case zX => k_asm); (case zT => k_asm); (case zhA => rfl); (case zhd => first | exact room_b (by with_reducible assumption) rfl | exact room_a (by with_reducible assumption) rfl | omega | (simp only [Around.deeper, Around.in1]; omega)); (case zhu => first | exact room_b (by with_reducible assumption) rfl | exact room_a (by with_reducible assumption) rfl | omega | (simp only [Around.deeper, Around.in1]; omega)); intro _ _ _ _ _; (try k_sweep); (try dsimp only)) | ((with_reducible show wpAny _ _ (call (Value.ref _) _) _ _ _); k_dflt (refine' con_useS ?zC ?zF ?zN ?zX ?zT ?zhA ?zhd ?zhu ?_); (case zC => first | (first | exact con_law_is_metric _ _ _ _ _ _ _ (by omega) (by omega) (by omega) (metricAt _ _ _) | exact con_law_is_similar _ _ _ _ _ _ (by omega) (by first | omega | decide +kernel) (similarAt _ _)) | exact con_law_sound _ _ _ (by with_reducible assumption) | exact con_distance _ _ _ _ _ _ _ _ _ _ _ (by omega) (by omega)); (case zF => k_asm); (case zN => k_asm); (case zX => k_asm); (case zT => k_asm); (case zhA => rfl); (case zhd => first | exact room_b (by with_reducible assumption) rfl | exact room_a (by with_reducible assumption) rfl | omega | (simp only [Around.deeper, Around.in1]; omega)); (case zhu => first | exact room_b (by with_reducible assumption) rfl | exact room_a (by with_reducible assumption) rfl | omega | (simp only [Around.deeper, Around.in1]; omega)); intro _ _ _ _ _; (try k_sweep); (try dsimp only)) | ((with_reducible show wpAny _ _ (call (Value.ref _) _) _ _ _); k_dflt (refine' con_useB ?zC ?zF ?zN ?zX ?zT ?zhA ?zhd ?zhu ?_); (case zC => first | (first | exact con_law_is_metric _ _ _ _ _ _ _ (by omega) (by omega) (by omega) (metricAt _ _ _) | exact con_law_is_similar _ _ _ _ _ _ (by omega) (by first | omega | decide +kernel) (similarAt _ _)) | exact con_law_sound _ _ _ (by with_reducible assumption) | exact con_distance _ _ _ _ _ _ _ _ _ _ _ (by omega) (by omega)); (case zF => k_asm); (case zN => k_asm); (case zX => k_asm); (case zT => k_asm); (case zhA => rfl); (case zhd => first | exact room_b (by with_reducible assumption) rfl | exact room_a (by with_reducible assumption) rfl | omega | (simp only [Around.deeper, Around.in1]; omega)); (case zhu => first | exact room_b (by with_reducible assumption) rfl | exact room_a (by with_reducible assumption) rfl | omega | (simp only [Around.deeper, Around.in1]; omega)); intro _ _ _ _; (try k_sweep); (try dsimp only)) | (k_unfold; (try dsimp only)) | (walk1; (try dsimp only)) | (dsimp only; walk1) | fail "no step"))
      all_goals rename Fr _ _ _ _ => F2
      all_goals rename News _ _ _ _ => N2
      · exact LawIf.intro (ro := cr * 2 ^ Int.toNat 61) (ad := cd) (Fr.cong F2 fun y => names_o (r := fun y => if y = Str.ofString "into" then some (.int ci ti) else if y = Str.ofString "host" then some (.ref x) else if y = Str.ofString "script" then some (.ref D) else none) y) N2 (by omega) (by omega)
      · exact LawIf.intro (ro := cr) (ad := cd * 2 ^ Int.toNat 61) (Fr.cong F2 fun y => names_a (r := fun y => if y = Str.ofString "other" then some (.int cr tr) else if y = Str.ofString "into" then some (.int ci ti) else if y = Str.ofString "host" then some (.ref x) else if y = Str.ofString "script" then some (.ref D) else none) y) N2 (by omega) (by omega)
      · exact LawIf.intro F2 N2 (by omega) (by omega)
    case rest =>
      rintro f s' ⟨rfl, h', tk', ro, ad, to, ta, n3, k3, t3, u3, e3, rfl, F', N', hk1, hk2⟩
      clear F1 N1
      dsimp only
      (repeat' ((fail_if_success (with_reducible show wpAny _ _ (exec (Stmt.For _ _ _ _ _) _) _ _ _)); (fail_if_success (with_reducible show wpAny _ _ (exec (Stmt.While _ _ _ _) _) _ _ _)); (fail_if_success (with_reducible show wpAny _ _ (pyIter _) _ _ _)); (fail_if_success (with_reducible show wpAny _ _ (exec (Stmt.Assign _ (Expr.ListComp _ _ _ _) _) _) _ _ _)); (fail_if_success (with_reducible show wpAny _ _ (eval (Expr.ListComp _ _ _ _) _) _ _ _)); (fail_if_success (with_reducible show wpAny _ _ (call (Value.ref _) _) _ _ _)); (fail_if_success (with_reducible show wpAny _ _ (exec (Stmt.If _ _ _ _) _) _ _ _)); first | (((with_reducible show wpAny _ _ (call (Value.ref 142) _) _ _ _); k_dflt (refine' con_use1 (con_php_soundex _ _ _ _ _ _ ?zl1) ?zF ?zN ?zX ?zT ?zhl ?zU ?zhA ?zhd ?zhu ?_; (case zF => k_asm); (case zN => k_asm); (case zX => k_asm); (case zT => k_asm); (case zl1 => omega); (case zhl => rfl); (case zU => kwd_less); (case zhA => rfl); (case zhd => (first | exact room_b (by with_reducible assumption) rfl | exact room_a (by with_reducible assumption) rfl | omega | (simp only [Around.deeper, Around.in1]; omega))); (case zhu => (first | exact room_b (by with_reducible assumption) rfl | exact room_a (by with_reducible assumption) rfl | omega | (simp only [Around.deeper, Around.in1]; omega)))); intro _ _ _ _ _ r'; obtain ⟨t', e'⟩ := r'; subst e'); (try dsimp only)) | (((with_reducible show wpAny _ _ (call (Value.ref 303) _) _ _ _); k_dflt (refine' my_least ?zF ?zN ?zX ?zT ?zl1 ?zl2 ?zf1 ?zf2 ?zf3 ?zhA ?zhd ?zhu ?_; (case zF => k_asm); (case zN => k_asm); (case zX => k_asm); (case zT => k_asm); (case zl1 => first | omega | decide +kernel); (case zl2 => first | omega | decide +kernel); (case zf1 => rfl); (case zf2 => rfl); (case zf3 => exact (by decide : ScopeKind.function ≠ ScopeKind.module)); (case zhA => rfl); (case zhd => (first | exact room_b (by with_reducible assumption) rfl | exact room_a (by with_reducible assumption) rfl | omega | (simp only [Around.deeper, Around.in1]; omega))); (case zhu => (first | exact room_b (by with_reducible assumption) rfl | exact room_a (by with_reducible assumption) rfl | omega | (simp only [Around.deeper, Around.in1]; omega)))); intro _ _ _ _); (try dsimp only)) | (((with_reducible show wpAny _ _ (call (Value.ref 259) _) _ _ _); k_dflt (refine' my_host ?zF ?zN ?zX ?zT ?zhA ?zhd ?zhu ?_; (case zF => k_asm); (case zN => k_asm); (case zX => k_asm); (case zT => k_asm); (case zhA => rfl); (case zhd => (first | exact room_b (by with_reducible assumption) rfl | exact room_a (by with_reducible assumption) rfl | omega | (simp only [Around.deeper, Around.in1]; omega))); (case zhu => (first | exact room_b (by with_reducible assumption) rfl | exact room_a (by with_reducible assumption) rfl | omega | (simp only [Around.deeper, Around.in1]; omega)))); intro _ _ _ _ _ _ _ _ _ _; (try k_sweep)); (try dsimp only)) | (((with_reducible show wpAny _ _ (call (Value.ref 277) _) _ _ _); k_dflt (refine' my_take ?zF ?zN ?zX ?zT ?zU ?zhk ?zhm ?zhA ?zhd ?zhu ?_; (case zF => k_asm); (case zN => k_asm); (case zX => k_asm); (case zT => k_asm); (case zU => (intro _; tb_start)); (case zhk => ((try dsimp only); omega)); (case zhm => ((try dsimp only); omega)); (case zhA => rfl); (case zhd => (first | exact room_b (by with_reducible assumption) rfl | exact room_a (by with_reducible assumption) rfl | omega | (simp only [Around.deeper, Around.in1]; omega))); (case zhu => (first | exact room_b (by with_reducible assumption) rfl | exact room_a (by with_reducible assumption) rfl | omega | (simp only [Around.deeper, Around.in1]; omega)))); intro _ _ _ _ _ _ _ _ _ _ _ _; (try k_sweep)); (try dsimp only)) | ((with_reducible show wpAny _ _ (call (Value.ref _) _) _ _ _); k_dflt (refine' con_useI ?zC ?zF ?zN ?zX ?zT ?zhA ?zhd ?zhu ?_); (case zC => first | (first | exact con_law_is_metric _ _ _ _ _ _ _ (by omega) (by omega) (by omega) (metricAt _ _ _) | exact con_law_is_similar _ _ _ _ _ _ (by omega) (by first | omega | decide +kernel) (similarAt _ _)) | exact con_law_sound _ _ _ (by with_reducible assumption) | exact con_distance _ _ _ _ _ _ _ _ _ _ _ (by omega) (by omega)); (case zF => k_asm); (case zN => k_asm); (case zX => k_asm); (case zT => k_asm); (case zhA => rfl); (case zhd => first | exact room_b (by with_reducible assumption) rfl | exact room_a (by with_reducible assumption) rfl | omega | (simp only [Around.deeper, Around.in1]; omega)); (case zhu => first | exact room_b (by with_reducible assumption) rfl | exact room_a (by with_reducible assumption) rfl | omega | (simp only [Around.deeper, Around.in1]; omega)); intro _ _ _ _ _; (try k_sweep); (try dsimp only)) | ((with_reducible show wpAny _ _ (call (Value.ref _) _) _ _ _); k_dflt (refine' con_useS ?zC ?zF ?zN ?zX ?zT ?zhA ?zhd ?zhu ?_); (case zC => first | (first | exact con_law_is_metric _ _ _ _ _ _ _ (by omega) (by omega) (by omega) (metricAt _ _ _) | exact con_law_is_similar _ _ _ _ _ _ (by omega) (by first | omega | decide +kernel) (similarAt _ _)) | exact con_law_sound _ _ _ (by with_reducible assumption) | exact con_distance _ _ _ _ _ _ _ _ _ _ _ (by omega) (by omega)); (case zF => k_asm); (case zN => k_asm); (case zX => k_asm); (case zT => k_asm); (case zhA => rfl); (case zhd => first | exact room_b (by with_reducible assumption) rfl | exact room_a (by with_reducible assumption) rfl | omega | (simp only [Around.deeper, Around.in1]; omega)); (case zhu => first | exact room_b (by with_reducible assumption) rfl | exact room_a (by with_reducible assumption) rfl | omega | (simp only [Around.deeper, Around.in1]; omega)); intro _ _ _ _ _; (try k_sweep); (try dsimp only)) | ((with_reducible show wpAny _ _ (call (Value.ref _) _) _ _ _); k_dflt (refine' con_useB ?zC ?zF ?zN ?zX ?zT ?zhA ?zhd ?zhu ?_); (case zC => first | (first | exact con_law_is_metric _ _ _ _ _ _ _ (by omega) (by omega) (by omega) (metricAt _ _ _) | exact con_law_is_similar _ _ _ _ _ _ (by omega) (by first | omega | decide +kernel) (similarAt _ _)) | exact con_law_sound _ _ _ (by with_reducible assumption) | exact con_distance _ _ _ _ _ _ _ _ _ _ _ (by omega) (by omega)); (case zF => k_asm); (case zN => k_asm); (case zX => k_asm); (case zT => k_asm); (case zhA => rfl); (case zhd => first | exact room_b (by with_reducible assumption) rfl | exact room_a (by with_reducible assumption) rfl | omega | (simp only [Around.deeper, Around.in1]; omega)); (case zhu => first | exact room_b (by with_reducible assumption) rfl | exact room_a (by with_reducible assumption) rfl | omega | (simp only [Around.deeper, Around.in1]; omega)); intro _ _ _ _; (try k_sweep); (try dsimp only)) | (k_unfold; (try dsimp only)) | (walk1; (try dsimp only)) | (dsimp only; walk1) | fail "no step"))
      refine my_text (by k_asm) (by k_asm) X T (fun o' => by tb_start) (by omega) (by decide) (by decide +kernel) rfl (by (first | exact room_b (by with_reducible assumption) rfl | exact room_a (by with_reducible assumption) rfl | omega | (simp only [Around.deeper, Around.in1]; omega))) (by (first | exact room_b (by with_reducible assumption) rfl | exact room_a (by with_reducible assumption) rfl | omega | (simp only [Around.deeper, Around.in1]; omega))) (fun xa t' n' k' t' u' e' h' tk F1 N1 hxa hk1' hk2' => ?_)
      clear F' N'
      (repeat' ((fail_if_success (with_reducible show wpAny _ _ (exec (Stmt.For _ _ _ _ _) _) _ _ _)); (fail_if_success (with_reducible show wpAny _ _ (exec (Stmt.While _ _ _ _) _) _ _ _)); (fail_if_success (with_reducible show wpAny _ _ (pyIter _) _ _ _)); (fail_if_success (with_reducible show wpAny _ _ (exec (Stmt.Assign _ (Expr.ListComp _ _ _ _) _) _) _ _ _)); (fail_if_success (with_reducible show wpAny _ _ (eval (Expr.ListComp _ _ _ _) _) _ _ _)); (fail_if_success (with_reducible show wpAny _ _ (call (Value.ref _) _) _ _ _)); (fail_if_success (with_reducible show wpAny _ _ (exec (Stmt.If _ _ _ _) _) _ _ _)); first | (((with_reducible show wpAny _ _ (call (Value.ref 142) _) _ _ _); k_dflt (refine' con_use1 (con_php_soundex _ _ _ _ _ _ ?zl1) ?zF ?zN ?zX ?zT ?zhl ?zU ?zhA ?zhd ?zhu ?_; (case zF => k_asm); (case zN => k_asm); (case zX => k_asm); (case zT => k_asm); (case zl1 => omega); (case zhl => rfl); (case zU => kwd_less); (case zhA => rfl); (case zhd => (first | exact room_b (by with_reducible assumption) rfl | exact room_a (by with_reducible assumption) rfl | omega | (simp only [Around.deeper, Around.in1]; omega))); (case zhu => (first | exact room_b (by with_reducible assumption) rfl | exact room_a (by with_reducible assumption) rfl | omega | (simp only [Around.deeper, Around.in1]; omega)))); intro _ _ _ _ _ r'; obtain ⟨t', e'⟩ := r'; subst e'); (try dsimp only)) | (((with_reducible show wpAny _ _ (call (Value.ref 303) _) _ _ _); k_dflt (refine' my_least ?zF ?zN ?zX ?zT ?zl1 ?zl2 ?zf1 ?zf2 ?zf3 ?zhA ?zhd ?zhu ?_; (case zF => k_asm); (case zN => k_asm); (case zX => k_asm); (case zT => k_asm); (case zl1 => first | omega | decide +kernel); (case zl2 => first | omega | decide +kernel); (case zf1 => rfl); (case zf2 => rfl); (case zf3 => exact (by decide : ScopeKind.function ≠ ScopeKind.module)); (case zhA => rfl); (case zhd => (first | exact room_b (by with_reducible assumption) rfl | exact room_a (by with_reducible assumption) rfl | omega | (simp only [Around.deeper, Around.in1]; omega))); (case zhu => (first | exact room_b (by with_reducible assumption) rfl | exact room_a (by with_reducible assumption) rfl | omega | (simp only [Around.deeper, Around.in1]; omega)))); intro _ _ _ _); (try dsimp only)) | (((with_reducible show wpAny _ _ (call (Value.ref 259) _) _ _ _); k_dflt (refine' my_host ?zF ?zN ?zX ?zT ?zhA ?zhd ?zhu ?_; (case zF => k_asm); (case zN => k_asm); (case zX => k_asm); (case zT => k_asm); (case zhA => rfl); (case zhd => (first | exact room_b (by with_reducible assumption) rfl | exact room_a (by with_reducible assumption) rfl | omega | (simp only [Around.deeper, Around.in1]; omega))); (case zhu => (first | exact room_b (by with_reducible assumption) rfl | exact room_a (by with_reducible assumption) rfl | omega | (simp only [Around.deeper, Around.in1]; omega)))); intro _ _ _ _ _ _ _ _ _ _; (try k_sweep)); (try dsimp only)) | (((with_reducible show wpAny _ _ (call (Value.ref 277) _) _ _ _); k_dflt (refine' my_take ?zF ?zN ?zX ?zT ?zU ?zhk ?zhm ?zhA ?zhd ?zhu ?_; (case zF => k_asm); (case zN => k_asm); (case zX => k_asm); (case zT => k_asm); (case zU => (intro _; tb_start)); (case zhk => ((try dsimp only); omega)); (case zhm => ((try dsimp only); omega)); (case zhA => rfl); (case zhd => (first | exact room_b (by with_reducible assumption) rfl | exact room_a (by with_reducible assumption) rfl | omega | (simp only [Around.deeper, Around.in1]; omega))); (case zhu => (first | exact room_b (by with_reducible assumption) rfl | exact room_a (by with_reducible assumption) rfl | omega | (simp only [Around.deeper, Around.in1]; omega)))); intro _ _ _ _ _ _ _ _ _ _ _ _; (try k_sweep)); (try dsimp only)) | ((with_reducible show wpAny _ _ (call (Value.ref _) _) _ _ _); k_dflt (refine' con_useI ?zC ?zF ?zN ?zX ?zT ?zhA ?zhd ?zhu ?_); (case zC => first | (first | exact con_law_is_metric _ _ _ _ _ _ _ (by omega) (by omega) (by omega) (metricAt _ _ _) | exact con_law_is_similar _ _ _ _ _ _ (by omega) (by first | omega | decide +kernel) (similarAt _ _)) | exact con_law_sound _ _ _ (by with_reducible assumption) | exact con_distance _ _ _ _ _ _ _ _ _ _ _ (by omega) (by omega)); (case zF => k_asm); (case zN => k_asm); (case zX => k_asm); (case zT => k_asm); (case zhA => rfl); (case zhd => first | exact room_b (by with_reducible assumption) rfl | exact room_a (by with_reducible assumption) rfl | omega | (simp only [Around.deeper, Around.in1]; omega)); (case zhu => first | exact room_b (by with_reducible assumption) rfl | exact room_a (by with_reducible assumption) rfl | omega | (simp only [Around.deeper, Around.in1]; omega)); intro _ _ _ _ _; (try k_sweep); (try dsimp only)) | ((with_reducible show wpAny _ _ (call (Value.ref _) _) _ _ _); k_dflt (refine' con_useS ?zC ?zF ?zN ?zX ?zT ?zhA ?zhd ?zhu ?_); (case zC => first | (first | exact con_law_is_metric _ _ _ _ _ _ _ (by omega) (by omega) (by omega) (metricAt _ _ _) | exact con_law_is_similar _ _ _ _ _ _ (by omega) (by first | omega | decide +kernel) (similarAt _ _)) | exact con_law_sound _ _ _ (by with_reducible assumption) | exact con_distance _ _ _ _ _ _ _ _ _ _ _ (by omega) (by omega)); (case zF => k_asm); (case zN => k_asm); (case zX => k_asm); (case zT => k_asm); (case zhA => rfl); (case zhd => first | exact room_b (by with_reducible assumption) rfl | exact room_a (by with_reducible assumption) rfl | omega | (simp only [Around.deeper, Around.in1]; omega)); (case zhu => first | exact room_b (by with_reducible assumption) rfl | exact room_a (by with_reducible assumption) rfl | omega | (simp only [Around.deeper, Around.in1]; omega)); intro _ _ _ _ _; (try k_sweep); (try dsimp only)) | ((with_reducible show wpAny _ _ (call (Value.ref _) _) _ _ _); k_dflt (refine' con_useB ?zC ?zF ?zN ?zX ?zT ?zhA ?zhd ?zhu ?_); (case zC => first | (first | exact con_law_is_metric _ _ _ _ _ _ _ (by omega) (by omega) (by omega) (metricAt _ _ _) | exact con_law_is_similar _ _ _ _ _ _ (by omega) (by first | omega | decide +kernel) (similarAt _ _)) | exact con_law_sound _ _ _ (by with_reducible assumption) | exact con_distance _ _ _ _ _ _ _ _ _ _ _ (by omega) (by omega)); (case zF => k_asm); (case zN => k_asm); (case zX => k_asm); (case zT => k_asm); (case zhA => rfl); (case zhd => first | exact room_b (by with_reducible assumption) rfl | exact room_a (by with_reducible assumption) rfl | omega | (simp only [Around.deeper, Around.in1]; omega)); (case zhu => first | exact room_b (by with_reducible assumption) rfl | exact room_a (by with_reducible assumption) rfl | omega | (simp only [Around.deeper, Around.in1]; omega)); intro _ _ _ _; (try k_sweep); (try dsimp only)) | (k_unfold; (try dsimp only)) | (walk1; (try dsimp only)) | (dsimp only; walk1) | fail "no step"))
      try clear F1 N1
      rename Fr _ _ _ _ => F2
      rename News _ _ _ _ => N2
      refine my_pen (vs := ws) (ns := ms) (n := 0) (S := D) F2 (News.sub N2 fun p hp => List.mem_cons_of_mem _ hp) (by (first | exact List.mem_cons_self | exact List.mem_cons_of_mem _ List.mem_cons_self | exact List.mem_cons_of_mem _ (List.mem_cons_of_mem _ List.mem_cons_self) | exact List.mem_cons_of_mem _ (List.mem_cons_of_mem _ (List.mem_cons_of_mem _ List.mem_cons_self)) | exact List.mem_cons_of_mem _ (List.mem_cons_of_mem _ (List.mem_cons_of_mem _ (List.mem_cons_of_mem _ List.mem_cons_self))) | exact List.mem_cons_of_mem _ (List.mem_cons_of_mem _ (List.mem_cons_of_mem _ (List.mem_cons_of_mem _ (List.mem_cons_of_mem _ List.mem_cons_self)))) | exact List.mem_cons_of_mem _ (List.mem_cons_of_mem _ (List.mem_cons_of_mem _ (List.mem_cons_of_mem _ (List.mem_cons_of_mem _ (List.mem_cons_of_mem _ List.mem_cons_self))))) | exact List.mem_cons_of_mem _ (List.mem_cons_of_mem _ (List.mem_cons_of_mem _ (List.mem_cons_of_mem _ (List.mem_cons_of_mem _ (List.mem_cons_of_mem _ (List.mem_cons_of_mem _ List.mem_cons_self)))))) | exact List.mem_cons_of_mem _ (List.mem_cons_of_mem _ (List.mem_cons_of_mem _ (List.mem_cons_of_mem _ (List.mem_cons_of_mem _ (List.mem_cons_of_mem _ (List.mem_cons_of_mem _ (List.mem_cons_of_mem _ List.mem_cons_self))))))))) i1 (by omega) X T rfl (by (first | exact room_b (by with_reducible assumption) rfl | exact room_a (by with_reducible assumption) rfl | omega | (simp only [Around.deeper, Around.in1]; omega))) (by (first | exact room_b (by with_reducible assumption) rfl | exact room_a (by with_reducible assumption) rfl | omega | (simp only [Around.deeper, Around.in1]; omega))) (fun P2 kp tp up h' tk' F1 N1 hDP2 => ?_)
      clear F2 N2 hDP hlP hcP hxP hdP
      have hlP : l ≠ P2 := ne_of_obj N1 (o := listOf #[] 0) (o' := penO kp (17 * 1) tp up 0) (by (first | exact List.mem_cons_self | exact List.mem_cons_of_mem _ List.mem_cons_self | exact List.mem_cons_of_mem _ (List.mem_cons_of_mem _ List.mem_cons_self) | exact List.mem_cons_of_mem _ (List.mem_cons_of_mem _ (List.mem_cons_of_mem _ List.mem_cons_self)) | exact List.mem_cons_of_mem _ (List.mem_cons_of_mem _ (List.mem_cons_of_mem _ (List.mem_cons_of_mem _ List.mem_cons_self))) | exact List.mem_cons_of_mem _ (List.mem_cons_of_mem _ (List.mem_cons_of_mem _ (List.mem_cons_of_mem _ (List.mem_cons_of_mem _ List.mem_cons_self)))) | exact List.mem_cons_of_mem _ (List.mem_cons_of_mem _ (List.mem_cons_of_mem _ (List.mem_cons_of_mem _ (List.mem_cons_of_mem _ (List.mem_cons_of_mem _ List.mem_cons_self))))) | exact List.mem_cons_of_mem _ (List.mem_cons_of_mem _ (List.mem_cons_of_mem _ (List.mem_cons_of_mem _ (List.mem_cons_of_mem _ (List.mem_cons_of_mem _ (List.mem_cons_of_mem _ List.mem_cons_self)))))) | exact List.mem_cons_of_mem _ (List.mem_cons_of_mem _ (List.mem_cons_of_mem _ (List.mem_cons_of_mem _ (List.mem_cons_of_mem _ (List.mem_cons_of_mem _ (List.mem_cons_of_mem _ (List.mem_cons_of_mem _ List.mem_cons_self))))))))) (by (first | exact List.mem_cons_self | exact List.mem_cons_of_mem _ List.mem_cons_self | exact List.mem_cons_of_mem _ (List.mem_cons_of_mem _ List.mem_cons_self) | exact List.mem_cons_of_mem _ (List.mem_cons_of_mem _ (List.mem_cons_of_mem _ List.mem_cons_self)) | exact List.mem_cons_of_mem _ (List.mem_cons_of_mem _ (List.mem_cons_of_mem _ (List.mem_cons_of_mem _ List.mem_cons_self))) | exact List.mem_cons_of_mem _ (List.mem_cons_of_mem _ (List.mem_cons_of_mem _ (List.mem_cons_of_mem _ (List.mem_cons_of_mem _ List.mem_cons_self)))) | exact List.mem_cons_of_mem _ (List.mem_cons_of_mem _ (List.mem_cons_of_mem _ (List.mem_cons_of_mem _ (List.mem_cons_of_mem _ (List.mem_cons_of_mem _ List.mem_cons_self))))) | exact List.mem_cons_of_mem _ (List.mem_cons_of_mem _ (List.mem_cons_of_mem _ (List.mem_cons_of_mem _ (List.mem_cons_of_mem _ (List.mem_cons_of_mem _ (List.mem_cons_of_mem _ List.mem_cons_self)))))) | exact List.mem_cons_of_mem _ (List.mem_cons_of_mem _ (List.mem_cons_of_mem _ (List.mem_cons_of_mem _ (List.mem_cons_of_mem _ (List.mem_cons_of_mem _ (List.mem_cons_of_mem _ (List.mem_cons_of_mem _ List.mem_cons_self))))))))) (fun q => by have := congrArg Obj.data q; simp at this)
      (repeat' ((fail_if_success (with_reducible show wpAny _ _ (exec (Stmt.For _ _ _ _ _) _) _ _ _)); (fail_if_success (with_reducible show wpAny _ _ (exec (Stmt.While _ _ _ _) _) _ _ _)); (fail_if_success (with_reducible show wpAny _ _ (pyIter _) _ _ _)); (fail_if_success (with_reducible show wpAny _ _ (exec (Stmt.Assign _ (Expr.ListComp _ _ _ _) _) _) _ _ _)); (fail_if_success (with_reducible show wpAny _ _ (eval (Expr.ListComp _ _ _ _) _) _ _ _)); (fail_if_success (with_reducible show wpAny _ _ (call (Value.ref _) _) _ _ _)); (fail_if_success (with_reducible show wpAny _ _ (exec (Stmt.If _ _ _ _) _) _ _ _)); first | (((with_reducible show wpAny _ _ (call (Value.ref 142) _) _ _ _); k_dflt (refine' con_use1 (con_php_soundex _ _ _ _ _ _ ?zl1) ?zF ?zN ?zX ?zT ?zhl ?zU ?zhA ?zhd ?zhu ?_; (case zF => k_asm); (case zN => k_asm); (case zX => k_asm); (case zT => k_asm); (case zl1 => omega); (case zhl => rfl); (case zU => kwd_less); (case zhA => rfl); (case zhd => (first | exact room_b (by with_reducible assumption) rfl | exact room_a (by with_reducible assumption) rfl | omega | (simp only [Around.deeper, Around.in1]; omega))); (case zhu => (first | exact room_b (by with_reducible assumption) rfl | exact room_a (by with_reducible assumption) rfl | omega | (simp only [Around.deeper, Around.in1]; omega)))); intro _ _ _ _ _ r'; obtain ⟨t', e'⟩ := r'; subst e'); (try dsimp only)) | (((with_reducible show wpAny _ _ (call (Value.ref 303) _) _ _ _); k_dflt (refine' my_least ?zF ?zN ?zX ?zT ?zl1 ?zl2 ?zf1 ?zf2 ?zf3 ?zhA ?zhd ?zhu ?_; (case zF => k_asm); (case zN => k_asm); (case zX => k_asm); (case zT => k_asm); (case zl1 => first | omega | decide +kernel); (case zl2 => first | omega | decide +kernel); (case zf1 => rfl); (case zf2 => rfl); (case zf3 => exact (by decide : ScopeKind.function ≠ ScopeKind.module)); (case zhA => rfl); (case zhd => (first | exact room_b (by with_reducible assumption) rfl | exact room_a (by with_reducible assumption) rfl | omega | (simp only [Around.deeper, Around.in1]; omega))); (case zhu => (first | exact room_b (by with_reducible assumption) rfl | exact room_a (by with_reducible assumption) rfl | omega | (simp only [Around.deeper, Around.in1]; omega)))); intro _ _ _ _); (try dsimp only)) | (((with_reducible show wpAny _ _ (call (Value.ref 259) _) _ _ _); k_dflt (refine' my_host ?zF ?zN ?zX ?zT ?zhA ?zhd ?zhu ?_; (case zF => k_asm); (case zN => k_asm); (case zX => k_asm); (case zT => k_asm); (case zhA => rfl); (case zhd => (first | exact room_b (by with_reducible assumption) rfl | exact room_a (by with_reducible assumption) rfl | omega | (simp only [Around.deeper, Around.in1]; omega))); (case zhu => (first | exact room_b (by with_reducible assumption) rfl | exact room_a (by with_reducible assumption) rfl | omega | (simp only [Around.deeper, Around.in1]; omega)))); intro _ _ _ _ _ _ _ _ _ _; (try k_sweep)); (try dsimp only)) | (((with_reducible show wpAny _ _ (call (Value.ref 277) _) _ _ _); k_dflt (refine' my_take ?zF ?zN ?zX ?zT ?zU ?zhk ?zhm ?zhA ?zhd ?zhu ?_; (case zF => k_asm); (case zN => k_asm); (case zX => k_asm); (case zT => k_asm); (case zU => (intro _; tb_start)); (case zhk => ((try dsimp only); omega)); (case zhm => ((try dsimp only); omega)); (case zhA => rfl); (case zhd => (first | exact room_b (by with_reducible assumption) rfl | exact room_a (by with_reducible assumption) rfl | omega | (simp only [Around.deeper, Around.in1]; omega))); (case zhu => (first | exact room_b (by with_reducible assumption) rfl | exact room_a (by with_reducible assumption) rfl | omega | (simp only [Around.deeper, Around.in1]; omega)))); intro _ _ _ _ _ _ _ _ _ _ _ _; (try k_sweep)); (try dsimp only)) | ((with_reducible show wpAny _ _ (call (Value.ref _) _) _ _ _); k_dflt (refine' con_useI ?zC ?zF ?zN ?zX ?zT ?zhA ?zhd ?zhu ?_); (case zC => first | (first | exact con_law_is_metric _ _ _ _ _ _ _ (by omega) (by omega) (by omega) (metricAt _ _ _) | exact con_law_is_similar _ _ _ _ _ _ (by omega) (by first | omega | decide +kernel) (similarAt _ _)) | exact con_law_sound _ _ _ (by with_reducible assumption) | exact con_distance _ _ _ _ _ _ _ _ _ _ _ (by omega) (by omega)); (case zF => k_asm); (case zN => k_asm); (case zX => k_asm); (case zT => k_asm); (case zhA => rfl); (case zhd => first | exact room_b (by with_reducible assumption) rfl | exact room_a (by with_reducible assumption) rfl | omega | (simp only [Around.deeper, Around.in1]; omega)); (case zhu => first | exact room_b (by with_reducible assumption) rfl | exact room_a (by with_reducible assumption) rfl | omega | (simp only [Around.deeper, Around.in1]; omega)); intro _ _ _ _ _; (try k_sweep); (try dsimp only)) | ((with_reducible show wpAny _ _ (call (Value.ref _) _) _ _ _); k_dflt (refine' con_useS ?zC ?zF ?zN ?zX ?zT ?zhA ?zhd ?zhu ?_); (case zC => first | (first | exact con_law_is_metric _ _ _ _ _ _ _ (by omega) (by omega) (by omega) (metricAt _ _ _) | exact con_law_is_similar _ _ _ _ _ _ (by omega) (by first | omega | decide +kernel) (similarAt _ _)) | exact con_law_sound _ _ _ (by with_reducible assumption) | exact con_distance _ _ _ _ _ _ _ _ _ _ _ (by omega) (by omega)); (case zF => k_asm); (case zN => k_asm); (case zX => k_asm); (case zT => k_asm); (case zhA => rfl); (case zhd => first | exact room_b (by with_reducible assumption) rfl | exact room_a (by with_reducible assumption) rfl | omega | (simp only [Around.deeper, Around.in1]; omega)); (case zhu => first | exact room_b (by with_reducible assumption) rfl | exact room_a (by with_reducible assumption) rfl | omega | (simp only [Around.deeper, Around.in1]; omega)); intro _ _ _ _ _; (try k_sweep); (try dsimp only)) | ((with_reducible show wpAny _ _ (call (Value.ref _) _) _ _ _); k_dflt (refine' con_useB ?zC ?zF ?zN ?zX ?zT ?zhA ?zhd ?zhu ?_); (case zC => first | (first | exact con_law_is_metric _ _ _ _ _ _ _ (by omega) (by omega) (by omega) (metricAt _ _ _) | exact con_law_is_similar _ _ _ _ _ _ (by omega) (by first | omega | decide +kernel) (similarAt _ _)) | exact con_law_sound _ _ _ (by with_reducible assumption) | exact con_distance _ _ _ _ _ _ _ _ _ _ _ (by omega) (by omega)); (case zF => k_asm); (case zN => k_asm); (case zX => k_asm); (case zT => k_asm); (case zhA => rfl); (case zhd => first | exact room_b (by with_reducible assumption) rfl | exact room_a (by with_reducible assumption) rfl | omega | (simp only [Around.deeper, Around.in1]; omega)); (case zhu => first | exact room_b (by with_reducible assumption) rfl | exact room_a (by with_reducible assumption) rfl | omega | (simp only [Around.deeper, Around.in1]; omega)); intro _ _ _ _; (try k_sweep); (try dsimp only)) | (k_unfold; (try dsimp only)) | (walk1; (try dsimp only)) | (dsimp only; walk1) | fail "no step"))
      rename Fr _ _ _ _ => F2
      rename News _ _ _ _ => N2
      refine my_storeC (c := L + 1) (o := o2) F2 (News.sub N2 (news' := [(P2, penO kp (17 * 1) tp up 0), (x, instObj 259 dx), (l, listOf #[] 0), (dx, dictOf es n), (D, listOf ws.toArray 0)] ++ (L + 1, o2) :: []) ?hsub2) rfl h2 ?ap2 trivial rfl rfl (fun h' o3 F' N' h3 => ?_)
      case hsub2 => (repeat' (first | exact sub_nil | refine sub_cons (by (first | exact List.mem_cons_self | exact List.mem_cons_of_mem _ List.mem_cons_self | exact List.mem_cons_of_mem _ (List.mem_cons_of_mem _ List.mem_cons_self) | exact List.mem_cons_of_mem _ (List.mem_cons_of_mem _ (List.mem_cons_of_mem _ List.mem_cons_self)) | exact List.mem_cons_of_mem _ (List.mem_cons_of_mem _ (List.mem_cons_of_mem _ (List.mem_cons_of_mem _ List.mem_cons_self))) | exact List.mem_cons_of_mem _ (List.mem_cons_of_mem _ (List.mem_cons_of_mem _ (List.mem_cons_of_mem _ (List.mem_cons_of_mem _ List.mem_cons_self)))) | exact List.mem_cons_of_mem _ (List.mem_cons_of_mem _ (List.mem_cons_of_mem _ (List.mem_cons_of_mem _ (List.mem_cons_of_mem _ (List.mem_cons_of_mem _ List.mem_cons_self))))) | exact List.mem_cons_of_mem _ (List.mem_cons_of_mem _ (List.mem_cons_of_mem _ (List.mem_cons_of_mem _ (List.mem_cons_of_mem _ (List.mem_cons_of_mem _ (List.mem_cons_of_mem _ List.mem_cons_self)))))) | exact List.mem_cons_of_mem _ (List.mem_cons_of_mem _ (List.mem_cons_of_mem _ (List.mem_cons_of_mem _ (List.mem_cons_of_mem _ (List.mem_cons_of_mem _ (List.mem_cons_of_mem _ (List.mem_cons_of_mem _ List.mem_cons_self))))))))) ?_))
      case ap2 => exact ⟨.inr nofun, .inr nofun, .inr nofun, .inr nofun, .inr nofun, trivial⟩
      simp only [List.cons_append, List.nil_append] at N'
      clear F2 N2 h2
      have hcP : L + 1 ≠ P2 := ne_of_obj N' (o := o3) (o' := penO kp (17 * 1) tp up 0) (by (first | exact List.mem_cons_self | exact List.mem_cons_of_mem _ List.mem_cons_self | exact List.mem_cons_of_mem _ (List.mem_cons_of_mem _ List.mem_cons_self) | exact List.mem_cons_of_mem _ (List.mem_cons_of_mem _ (List.mem_cons_of_mem _ List.mem_cons_self)) | exact List.mem_cons_of_mem _ (List.mem_cons_of_mem _ (List.mem_cons_of_mem _ (List.mem_cons_of_mem _ List.mem_cons_self))) | exact List.mem_cons_of_mem _ (List.mem_cons_of_mem _ (List.mem_cons_of_mem _ (List.mem_cons_of_mem _ (List.mem_cons_of_mem _ List.mem_cons_self)))) | exact List.mem_cons_of_mem _ (List.mem_cons_of_mem _ (List.mem_cons_of_mem _ (List.mem_cons_of_mem _ (List.mem_cons_of_mem _ (List.mem_cons_of_mem _ List.mem_cons_self))))) | exact List.mem_cons_of_mem _ (List.mem_cons_of_mem _ (List.mem_cons_of_mem _ (List.mem_cons_of_mem _ (List.mem_cons_of_mem _ (List.mem_cons_of_mem _ (List.mem_cons_of_mem _ List.mem_cons_self)))))) | exact List.mem_cons_of_mem _ (List.mem_cons_of_mem _ (List.mem_cons_of_mem _ (List.mem_cons_of_mem _ (List.mem_cons_of_mem _ (List.mem_cons_of_mem _ (List.mem_cons_of_mem _ (List.mem_cons_of_mem _ List.mem_cons_self))))))))) (by (first | exact List.mem_cons_self | exact List.mem_cons_of_mem _ List.mem_cons_self | exact List.mem_cons_of_mem _ (List.mem_cons_of_mem _ List.mem_cons_self) | exact List.mem_cons_of_mem _ (List.mem_cons_of_mem _ (List.mem_cons_of_mem _ List.mem_cons_self)) | exact List.mem_cons_of_mem _ (List.mem_cons_of_mem _ (List.mem_cons_of_mem _ (List.mem_cons_of_mem _ List.mem_cons_self))) | exact List.mem_cons_of_mem _ (List.mem_cons_of_mem _ (List.mem_cons_of_mem _ (List.mem_cons_of_mem _ (List.mem_cons_of_mem _ List.mem_cons_self)))) | exact List.mem_cons_of_mem _ (List.mem_cons_of_mem _ (List.mem_cons_of_mem _ (List.mem_cons_of_mem _ (List.mem_cons_of_mem _ (List.mem_cons_of_mem _ List.mem_cons_self))))) | exact List.mem_cons_of_mem _ (List.mem_cons_of_mem _ (List.mem_cons_of_mem _ (List.mem_cons_of_mem _ (List.mem_cons_of_mem _ (List.mem_cons_of_mem _ (List.mem_cons_of_mem _ List.mem_cons_self)))))) | exact List.mem_cons_of_mem _ (List.mem_cons_of_mem _ (List.mem_cons_of_mem _ (List.mem_cons_of_mem _ (List.mem_cons_of_mem _ (List.mem_cons_of_mem _ (List.mem_cons_of_mem _ (List.mem_cons_of_mem _ List.mem_cons_self))))))))) (fun q => by rw [q] at h3; cases h3)
      have hxP : x ≠ P2 := ne_of_obj N' (o := instObj 259 dx) (o' := penO kp (17 * 1) tp up 0) (by (first | exact List.mem_cons_self | exact List.mem_cons_of_mem _ List.mem_cons_self | exact List.mem_cons_of_mem _ (List.mem_cons_of_mem _ List.mem_cons_self) | exact List.mem_cons_of_mem _ (List.mem_cons_of_mem _ (List.mem_cons_of_mem _ List.mem_cons_self)) | exact List.mem_cons_of_mem _ (List.mem_cons_of_mem _ (List.mem_cons_of_mem _ (List.mem_cons_of_mem _ List.mem_cons_self))) | exact List.mem_cons_of_mem _ (List.mem_cons_of_mem _ (List.mem_cons_of_mem _ (List.mem_cons_of_mem _ (List.mem_cons_of_mem _ List.mem_cons_self)))) | exact List.mem_cons_of_mem _ (List.mem_cons_of_mem _ (List.mem_cons_of_mem _ (List.mem_cons_of_mem _ (List.mem_cons_of_mem _ (List.mem_cons_of_mem _ List.mem_cons_self))))) | exact List.mem_cons_of_mem _ (List.mem_cons_of_mem _ (List.mem_cons_of_mem _ (List.mem_cons_of_mem _ (List.mem_cons_of_mem _ (List.mem_cons_of_mem _ (List.mem_cons_of_mem _ List.mem_cons_self)))))) | exact List.mem_cons_of_mem _ (List.mem_cons_of_mem _ (List.mem_cons_of_mem _ (List.mem_cons_of_mem _ (List.mem_cons_of_mem _ (List.mem_cons_of_mem _ (List.mem_cons_of_mem _ (List.mem_cons_of_mem _ List.mem_cons_self))))))))) (by (first | exact List.mem_cons_self | exact List.mem_cons_of_mem _ List.mem_cons_self | exact List.mem_cons_of_mem _ (List.mem_cons_of_mem _ List.mem_cons_self) | exact List.mem_cons_of_mem _ (List.mem_cons_of_mem _ (List.mem_cons_of_mem _ List.mem_cons_self)) | exact List.mem_cons_of_mem _ (List.mem_cons_of_mem _ (List.mem_cons_of_mem _ (List.mem_cons_of_mem _ List.mem_cons_self))) | exact List.mem_cons_of_mem _ (List.mem_cons_of_mem _ (List.mem_cons_of_mem _ (List.mem_cons_of_mem _ (List.mem_cons_of_mem _ List.mem_cons_self)))) | exact List.mem_cons_of_mem _ (List.mem_cons_of_mem _ (List.mem_cons_of_mem _ (List.mem_cons_of_mem _ (List.mem_cons_of_mem _ (List.mem_cons_of_mem _ List.mem_cons_self))))) | exact List.mem_cons_of_mem _ (List.mem_cons_of_mem _ (List.mem_cons_of_mem _ (List.mem_cons_of_mem _ (List.mem_cons_of_mem _ (List.mem_cons_of_mem _ (List.mem_cons_of_mem _ List.mem_cons_self)))))) | exact List.mem_cons_of_mem _ (List.mem_cons_of_mem _ (List.mem_cons_of_mem _ (List.mem_cons_of_mem _ (List.mem_cons_of_mem _ (List.mem_cons_of_mem _ (List.mem_cons_of_mem _ (List.mem_cons_of_mem _ List.mem_cons_self))))))))) (fun q => by cases q)
      have hdP : dx ≠ P2 := ne_of_obj N' (o := dictOf es n) (o' := penO kp (17 * 1) tp up 0) (by (first | exact List.mem_cons_self | exact List.mem_cons_of_mem _ List.mem_cons_self | exact List.mem_cons_of_mem _ (List.mem_cons_of_mem _ List.mem_cons_self) | exact List.mem_cons_of_mem _ (List.mem_cons_of_mem _ (List.mem_cons_of_mem _ List.mem_cons_self)) | exact List.mem_cons_of_mem _ (List.mem_cons_of_mem _ (List.mem_cons_of_mem _ (List.mem_cons_of_mem _ List.mem_cons_self))) | exact List.mem_cons_of_mem _ (List.mem_cons_of_mem _ (List.mem_cons_of_mem _ (List.mem_cons_of_mem _ (List.mem_cons_of_mem _ List.mem_cons_self)))) | exact List.mem_cons_of_mem _ (List.mem_cons_of_mem _ (List.mem_cons_of_mem _ (List.mem_cons_of_mem _ (List.mem_cons_of_mem _ (List.mem_cons_of_mem _ List.mem_cons_self))))) | exact List.mem_cons_of_mem _ (List.mem_cons_of_mem _ (List.mem_cons_of_mem _ (List.mem_cons_of_mem _ (List.mem_cons_of_mem _ (List.mem_cons_of_mem _ (List.mem_cons_of_mem _ List.mem_cons_self)))))) | exact List.mem_cons_of_mem _ (List.mem_cons_of_mem _ (List.mem_cons_of_mem _ (List.mem_cons_of_mem _ (List.mem_cons_of_mem _ (List.mem_cons_of_mem _ (List.mem_cons_of_mem _ (List.mem_cons_of_mem _ List.mem_cons_self))))))))) (by (first | exact List.mem_cons_self | exact List.mem_cons_of_mem _ List.mem_cons_self | exact List.mem_cons_of_mem _ (List.mem_cons_of_mem _ List.mem_cons_self) | exact List.mem_cons_of_mem _ (List.mem_cons_of_mem _ (List.mem_cons_of_mem _ List.mem_cons_self)) | exact List.mem_cons_of_mem _ (List.mem_cons_of_mem _ (List.mem_cons_of_mem _ (List.mem_cons_of_mem _ List.mem_cons_self))) | exact List.mem_cons_of_mem _ (List.mem_cons_of_mem _ (List.mem_cons_of_mem _ (List.mem_cons_of_mem _ (List.mem_cons_of_mem _ List.mem_cons_self)))) | exact List.mem_cons_of_mem _ (List.mem_cons_of_mem _ (List.mem_cons_of_mem _ (List.mem_cons_of_mem _ (List.mem_cons_of_mem _ (List.mem_cons_of_mem _ List.mem_cons_self))))) | exact List.mem_cons_of_mem _ (List.mem_cons_of_mem _ (List.mem_cons_of_mem _ (List.mem_cons_of_mem _ (List.mem_cons_of_mem _ (List.mem_cons_of_mem _ (List.mem_cons_of_mem _ List.mem_cons_self)))))) | exact List.mem_cons_of_mem _ (List.mem_cons_of_mem _ (List.mem_cons_of_mem _ (List.mem_cons_of_mem _ (List.mem_cons_of_mem _ (List.mem_cons_of_mem _ (List.mem_cons_of_mem _ (List.mem_cons_of_mem _ List.mem_cons_self))))))))) (fun q => by have := congrArg Obj.data q; cases this)
      (repeat' ((fail_if_success (with_reducible show wpAny _ _ (exec (Stmt.For _ _ _ _ _) _) _ _ _)); (fail_if_success (with_reducible show wpAny _ _ (exec (Stmt.While _ _ _ _) _) _ _ _)); (fail_if_success (with_reducible show wpAny _ _ (pyIter _) _ _ _)); (fail_if_success (with_reducible show wpAny _ _ (exec (Stmt.Assign _ (Expr.ListComp _ _ _ _) _) _) _ _ _)); (fail_if_success (with_reducible show wpAny _ _ (eval (Expr.ListComp _ _ _ _) _) _ _ _)); (fail_if_success (with_reducible show wpAny _ _ (call (Value.ref _) _) _ _ _)); (fail_if_success (with_reducible show wpAny _ _ (exec (Stmt.If _ _ _ _) _) _ _ _)); first | (((with_reducible show wpAny _ _ (call (Value.ref 142) _) _ _ _); k_dflt (refine' con_use1 (con_php_soundex _ _ _ _ _ _ ?zl1) ?zF ?zN ?zX ?zT ?zhl ?zU ?zhA ?zhd ?zhu ?_; (case zF => k_asm); (case zN => k_asm); (case zX => k_asm); (case zT => k_asm); (case zl1 => omega); (case zhl => rfl); (case zU => kwd_less); (case zhA => rfl); (case zhd => (first | exact room_b (by with_reducible assumption) rfl | exact room_a (by with_reducible assumption) rfl | omega | (simp only [Around.deeper, Around.in1]; omega))); (case zhu => (first | exact room_b (by with_reducible assumption) rfl | exact room_a (by with_reducible assumption) rfl | omega | (simp only [Around.deeper, Around.in1]; omega)))); intro _ _ _ _ _ r'; obtain ⟨t', e'⟩ := r'; subst e'); (try dsimp only)) | (((with_reducible show wpAny _ _ (call (Value.ref 303) _) _ _ _); k_dflt (refine' my_least ?zF ?zN ?zX ?zT ?zl1 ?zl2 ?zf1 ?zf2 ?zf3 ?zhA ?zhd ?zhu ?_; (case zF => k_asm); (case zN => k_asm); (case zX => k_asm); (case zT => k_asm); (case zl1 => first | omega | decide +kernel); (case zl2 => first | omega | decide +kernel); (case zf1 => rfl); (case zf2 => rfl); (case zf3 => exact (by decide : ScopeKind.function ≠ ScopeKind.module)); (case zhA => rfl); (case zhd => (first | exact room_b (by with_reducible assumption) rfl | exact room_a (by with_reducible assumption) rfl | omega | (simp only [Around.deeper, Around.in1]; omega))); (case zhu => (first | exact room_b (by with_reducible assumption) rfl | exact room_a (by with_reducible assumption) rfl | omega | (simp only [Around.deeper, Around.in1]; omega)))); intro _ _ _ _); (try dsimp only)) | (((with_reducible show wpAny _ _ (call (Value.ref 259) _) _ _ _); k_dflt (refine' my_host ?zF ?zN ?zX ?zT ?zhA ?zhd ?zhu ?_; (case zF => k_asm); (case zN => k_asm); (case zX => k_asm); (case zT => k_asm); (case zhA => rfl); (case zhd => (first | exact room_b (by with_reducible assumption) rfl | exact room_a (by with_reducible assumption) rfl | omega | (simp only [Around.deeper, Around.in1]; omega))); (case zhu => (first | exact room_b (by with_reducible assumption) rfl | exact room_a (by with_reducible assumption) rfl | omega | (simp only [Around.deeper, Around.in1]; omega)))); intro _ _ _ _ _ _ _ _ _ _; (try k_sweep)); (try dsimp only)) | (((with_reducible show wpAny _ _ (call (Value.ref 277) _) _ _ _); k_dflt (refine' my_take ?zF ?zN ?zX ?zT ?zU ?zhk ?zhm ?zhA ?zhd ?zhu ?_; (case zF => k_asm); (case zN => k_asm); (case zX => k_asm); (case zT => k_asm); (case zU => (intro _; tb_start)); (case zhk => ((try dsimp only); omega)); (case zhm => ((try dsimp only); omega)); (case zhA => rfl); (case zhd => (first | exact room_b (by with_reducible assumption) rfl | exact room_a (by with_reducible assumption) rfl | omega | (simp only [Around.deeper, Around.in1]; omega))); (case zhu => (first | exact room_b (by with_reducible assumption) rfl | exact room_a (by with_reducible assumption) rfl | omega | (simp only [Around.deeper, Around.in1]; omega)))); intro _ _ _ _ _ _ _ _ _ _ _ _; (try k_sweep)); (try dsimp only)) | ((with_reducible show wpAny _ _ (call (Value.ref _) _) _ _ _); k_dflt (refine' con_useI ?zC ?zF ?zN ?zX ?zT ?zhA ?zhd ?zhu ?_); (case zC => first | (first | exact con_law_is_metric _ _ _ _ _ _ _ (by omega) (by omega) (by omega) (metricAt _ _ _) | exact con_law_is_similar _ _ _ _ _ _ (by omega) (by first | omega | decide +kernel) (similarAt _ _)) | exact con_law_sound _ _ _ (by with_reducible assumption) | exact con_distance _ _ _ _ _ _ _ _ _ _ _ (by omega) (by omega)); (case zF => k_asm); (case zN => k_asm); (case zX => k_asm); (case zT => k_asm); (case zhA => rfl); (case zhd => first | exact room_b (by with_reducible assumption) rfl | exact room_a (by with_reducible assumption) rfl | omega | (simp only [Around.deeper, Around.in1]; omega)); (case zhu => first | exact room_b (by with_reducible assumption) rfl | exact room_a (by with_reducible assumption) rfl | omega | (simp only [Around.deeper, Around.in1]; omega)); intro _ _ _ _ _; (try k_sweep); (try dsimp only)) | ((with_reducible show wpAny _ _ (call (Value.ref _) _) _ _ _); k_dflt (refine' con_useS ?zC ?zF ?zN ?zX ?zT ?zhA ?zhd ?zhu ?_); (case zC => first | (first | exact con_law_is_metric _ _ _ _ _ _ _ (by omega) (by omega) (by omega) (metricAt _ _ _) | exact con_law_is_similar _ _ _ _ _ _ (by omega) (by first | omega | decide +kernel) (similarAt _ _)) | exact con_law_sound _ _ _ (by with_reducible assumption) | exact con_distance _ _ _ _ _ _ _ _ _ _ _ (by omega) (by omega)); (case zF => k_asm); (case zN => k_asm); (case zX => k_asm); (case zT => k_asm); (case zhA => rfl); (case zhd => first | exact room_b (by with_reducible assumption) rfl | exact room_a (by with_reducible assumption) rfl | omega | (simp only [Around.deeper, Around.in1]; omega)); (case zhu => first | exact room_b (by with_reducible assumption) rfl | exact room_a (by with_reducible assumption) rfl | omega | (simp only [Around.deeper, Around.in1]; omega)); intro _ _ _ _ _; (try k_sweep); (try dsimp only)) | ((with_reducible show wpAny _ _ (call (Value.ref _) _) _ _ _); k_dflt (refine' con_useB ?zC ?zF ?zN ?zX ?zT ?zhA ?zhd ?zhu ?_); (case zC => first | (first | exact con_law_is_metric _ _ _ _ _ _ _ (by omega) (by omega) (by omega) (metricAt _ _ _) | exact con_law_is_similar _ _ _ _ _ _ (by omega) (by first | omega | decide +kernel) (similarAt _ _)) | exact con_law_sound _ _ _ (by with_reducible assumption) | exact con_distance _ _ _ _ _ _ _ _ _ _ _ (by omega) (by omega)); (case zF => k_asm); (case zN => k_asm); (case zX => k_asm); (case zT => k_asm); (case zhA => rfl); (case zhd => first | exact room_b (by with_reducible assumption) rfl | exact room_a (by with_reducible assumption) rfl | omega | (simp only [Around.deeper, Around.in1]; omega)); (case zhu => first | exact room_b (by with_reducible assumption) rfl | exact room_a (by with_reducible assumption) rfl | omega | (simp only [Around.deeper, Around.in1]; omega)); intro _ _ _ _; (try k_sweep); (try dsimp only)) | (k_unfold; (try dsimp only)) | (walk1; (try dsimp only)) | (dsimp only; walk1) | fail "no step"))
      rename Fr _ _ _ _ => F2
      rename News _ _ _ _ => N2
      refine my_edited F2 N2 X T (fun o' => by tb_start) (by omega) (by omega) rfl (by (first | exact room_b (by with_reducible assumption) rfl | exact room_a (by with_reducible assumption) rfl | omega | (simp only [Around.deeper, Around.in1]; omega))) (by (first | exact room_b (by with_reducible assumption) rfl | exact room_a (by with_reducible assumption) rfl | omega | (simp only [Around.deeper, Around.in1]; omega))) (fun xb tb2 c tc T' n2' k2' t2' u2' e2' h' tk F1 N1 hed hbl hk3 hk4 => ?_)
      clear F2 N2 F'
      (repeat' ((fail_if_success (with_reducible show wpAny _ _ (exec (Stmt.For _ _ _ _ _) _) _ _ _)); (fail_if_success (with_reducible show wpAny _ _ (exec (Stmt.While _ _ _ _) _) _ _ _)); (fail_if_success (with_reducible show wpAny _ _ (pyIter _) _ _ _)); (fail_if_success (with_reducible show wpAny _ _ (exec (Stmt.Assign _ (Expr.ListComp _ _ _ _) _) _) _ _ _)); (fail_if_success (with_reducible show wpAny _ _ (eval (Expr.ListComp _ _ _ _) _) _ _ _)); (fail_if_success (with_reducible show wpAny _ _ (call (Value.ref _) _) _ _ _)); (fail_if_success (with_reducible show wpAny _ _ (exec (Stmt.If _ _ _ _) _) _ _ _)); first | (((with_reducible show wpAny _ _ (call (Value.ref 142) _) _ _ _); k_dflt (refine' con_use1 (con_php_soundex _ _ _ _ _ _ ?zl1) ?zF ?zN ?zX ?zT ?zhl ?zU ?zhA ?zhd ?zhu ?_; (case zF => k_asm); (case zN => k_asm); (case zX => k_asm); (case zT => k_asm); (case zl1 => omega); (case zhl => rfl); (case zU => kwd_less); (case zhA => rfl); (case zhd => (first | exact room_b (by with_reducible assumption) rfl | exact room_a (by with_reducible assumption) rfl | omega | (simp only [Around.deeper, Around.in1]; omega))); (case zhu => (first | exact room_b (by with_reducible assumption) rfl | exact room_a (by with_reducible assumption) rfl | omega | (simp only [Around.deeper, Around.in1]; omega)))); intro _ _ _ _ _ r'; obtain ⟨t', e'⟩ := r'; subst e'); (try dsimp only)) | (((with_reducible show wpAny _ _ (call (Value.ref 303) _) _ _ _); k_dflt (refine' my_least ?zF ?zN ?zX ?zT ?zl1 ?zl2 ?zf1 ?zf2 ?zf3 ?zhA ?zhd ?zhu ?_; (case zF => k_asm); (case zN => k_asm); (case zX => k_asm); (case zT => k_asm); (case zl1 => first | omega | decide +kernel); (case zl2 => first | omega | decide +kernel); (case zf1 => rfl); (case zf2 => rfl); (case zf3 => exact (by decide : ScopeKind.function ≠ ScopeKind.module)); (case zhA => rfl); (case zhd => (first | exact room_b (by with_reducible assumption) rfl | exact room_a (by with_reducible assumption) rfl | omega | (simp only [Around.deeper, Around.in1]; omega))); (case zhu => (first | exact room_b (by with_reducible assumption) rfl | exact room_a (by with_reducible assumption) rfl | omega | (simp only [Around.deeper, Around.in1]; omega)))); intro _ _ _ _); (try dsimp only)) | (((with_reducible show wpAny _ _ (call (Value.ref 259) _) _ _ _); k_dflt (refine' my_host ?zF ?zN ?zX ?zT ?zhA ?zhd ?zhu ?_; (case zF => k_asm); (case zN => k_asm); (case zX => k_asm); (case zT => k_asm); (case zhA => rfl); (case zhd => (first | exact room_b (by with_reducible assumption) rfl | exact room_a (by with_reducible assumption) rfl | omega | (simp only [Around.deeper, Around.in1]; omega))); (case zhu => (first | exact room_b (by with_reducible assumption) rfl | exact room_a (by with_reducible assumption) rfl | omega | (simp only [Around.deeper, Around.in1]; omega)))); intro _ _ _ _ _ _ _ _ _ _; (try k_sweep)); (try dsimp only)) | (((with_reducible show wpAny _ _ (call (Value.ref 277) _) _ _ _); k_dflt (refine' my_take ?zF ?zN ?zX ?zT ?zU ?zhk ?zhm ?zhA ?zhd ?zhu ?_; (case zF => k_asm); (case zN => k_asm); (case zX => k_asm); (case zT => k_asm); (case zU => (intro _; tb_start)); (case zhk => ((try dsimp only); omega)); (case zhm => ((try dsimp only); omega)); (case zhA => rfl); (case zhd => (first | exact room_b (by with_reducible assumption) rfl | exact room_a (by with_reducible assumption) rfl | omega | (simp only [Around.deeper, Around.in1]; omega))); (case zhu => (first | exact room_b (by with_reducible assumption) rfl | exact room_a (by with_reducible assumption) rfl | omega | (simp only [Around.deeper, Around.in1]; omega)))); intro _ _ _ _ _ _ _ _ _ _ _ _; (try k_sweep)); (try dsimp only)) | ((with_reducible show wpAny _ _ (call (Value.ref _) _) _ _ _); k_dflt (refine' con_useI ?zC ?zF ?zN ?zX ?zT ?zhA ?zhd ?zhu ?_); (case zC => first | (first | exact con_law_is_metric _ _ _ _ _ _ _ (by omega) (by omega) (by omega) (metricAt _ _ _) | exact con_law_is_similar _ _ _ _ _ _ (by omega) (by first | omega | decide +kernel) (similarAt _ _)) | exact con_law_sound _ _ _ (by with_reducible assumption) | exact con_distance _ _ _ _ _ _ _ _ _ _ _ (by omega) (by omega)); (case zF => k_asm); (case zN => k_asm); (case zX => k_asm); (case zT => k_asm); (case zhA => rfl); (case zhd => first | exact room_b (by with_reducible assumption) rfl | exact room_a (by with_reducible assumption) rfl | omega | (simp only [Around.deeper, Around.in1]; omega)); (case zhu => first | exact room_b (by with_reducible assumption) rfl | exact room_a (by with_reducible assumption) rfl | omega | (simp only [Around.deeper, Around.in1]; omega)); intro _ _ _ _ _; (try k_sweep); (try dsimp only)) | ((with_reducible show wpAny _ _ (call (Value.ref _) _) _ _ _); k_dflt (refine' con_useS ?zC ?zF ?zN ?zX ?zT ?zhA ?zhd ?zhu ?_); (case zC => first | (first | exact con_law_is_metric _ _ _ _ _ _ _ (by omega) (by omega) (by omega) (metricAt _ _ _) | exact con_law_is_similar _ _ _ _ _ _ (by omega) (by first | omega | decide +kernel) (similarAt _ _)) | exact con_law_sound _ _ _ (by with_reducible assumption) | exact con_distance _ _ _ _ _ _ _ _ _ _ _ (by omega) (by omega)); (case zF => k_asm); (case zN => k_asm); (case zX => k_asm); (case zT => k_asm); (case zhA => rfl); (case zhd => first | exact room_b (by with_reducible assumption) rfl | exact room_a (by with_reducible assumption) rfl | omega | (simp only [Around.deeper, Around.in1]; omega)); (case zhu => first | exact room_b (by with_reducible assumption) rfl | exact room_a (by with_reducible assumption) rfl | omega | (simp only [Around.deeper, Around.in1]; omega)); intro _ _ _ _ _; (try k_sweep); (try dsimp only)) | ((with_reducible show wpAny _ _ (call (Value.ref _) _) _ _ _); k_dflt (refine' con_useB ?zC ?zF ?zN ?zX ?zT ?zhA ?zhd ?zhu ?_); (case zC => first | (first | exact con_law_is_metric _ _ _ _ _ _ _ (by omega) (by omega) (by omega) (metricAt _ _ _) | exact con_law_is_similar _ _ _ _ _ _ (by omega) (by first | omega | decide +kernel) (similarAt _ _)) | exact con_law_sound _ _ _ (by with_reducible assumption) | exact con_distance _ _ _ _ _ _ _ _ _ _ _ (by omega) (by omega)); (case zF => k_asm); (case zN => k_asm); (case zX => k_asm); (case zT => k_asm); (case zhA => rfl); (case zhd => first | exact room_b (by with_reducible assumption) rfl | exact room_a (by with_reducible assumption) rfl | omega | (simp only [Around.deeper, Around.in1]; omega)); (case zhu => first | exact room_b (by with_reducible assumption) rfl | exact room_a (by with_reducible assumption) rfl | omega | (simp only [Around.deeper, Around.in1]; omega)); intro _ _ _ _; (try k_sweep); (try dsimp only)) | (k_unfold; (try dsimp only)) | (walk1; (try dsimp only)) | (dsimp only; walk1) | fail "no step"))
      rename Fr _ _ _ _ => F2
      rename News _ _ _ _ => N2
      refine my_text F2 (News.sub N2 fun p hp => List.mem_cons_of_mem _ hp) X T (fun o' => by tb_start) (by omega) (by decide) (by decide +kernel) rfl (by (first | exact room_b (by with_reducible assumption) rfl | exact room_a (by with_reducible assumption) rfl | omega | (simp only [Around.deeper, Around.in1]; omega))) (by (first | exact room_b (by with_reducible assumption) rfl | exact room_a (by with_reducible assumption) rfl | omega | (simp only [Around.deeper, Around.in1]; omega))) (fun xc tc' n4 k4 t4 u4 e4 h' tk F1 N1 hxc hk5 hk6 => ?_)
      clear F2 N2
      (repeat' ((fail_if_success (with_reducible show wpAny _ _ (exec (Stmt.For _ _ _ _ _) _) _ _ _)); (fail_if_success (with_reducible show wpAny _ _ (exec (Stmt.While _ _ _ _) _) _ _ _)); (fail_if_success (with_reducible show wpAny _ _ (pyIter _) _ _ _)); (fail_if_success (with_reducible show wpAny _ _ (exec (Stmt.Assign _ (Expr.ListComp _ _ _ _) _) _) _ _ _)); (fail_if_success (with_reducible show wpAny _ _ (eval (Expr.ListComp _ _ _ _) _) _ _ _)); (fail_if_success (with_reducible show wpAny _ _ (call (Value.ref _) _) _ _ _)); (fail_if_success (with_reducible show wpAny _ _ (exec (Stmt.If _ _ _ _) _) _ _ _)); first | (((with_reducible show wpAny _ _ (call (Value.ref 142) _) _ _ _); k_dflt (refine' con_use1 (con_php_soundex _ _ _ _ _ _ ?zl1) ?zF ?zN ?zX ?zT ?zhl ?zU ?zhA ?zhd ?zhu ?_; (case zF => k_asm); (case zN => k_asm); (case zX => k_asm); (case zT => k_asm); (case zl1 => omega); (case zhl => rfl); (case zU => kwd_less); (case zhA => rfl); (case zhd => (first | exact room_b (by with_reducible assumption) rfl | exact room_a (by with_reducible assumption) rfl | omega | (simp only [Around.deeper, Around.in1]; omega))); (case zhu => (first | exact room_b (by with_reducible assumption) rfl | exact room_a (by with_reducible assumption) rfl | omega | (simp only [Around.deeper, Around.in1]; omega)))); intro _ _ _ _ _ r'; obtain ⟨t', e'⟩ := r'; subst e'); (try dsimp only)) | (((with_reducible show wpAny _ _ (call (Value.ref 303) _) _ _ _); k_dflt (refine' my_least ?zF ?zN ?zX ?zT ?zl1 ?zl2 ?zf1 ?zf2 ?zf3 ?zhA ?zhd ?zhu ?_; (case zF => k_asm); (case zN => k_asm); (case zX => k_asm); (case zT => k_asm); (case zl1 => first | omega | decide +kernel); (case zl2 => first | omega | decide +kernel); (case zf1 => rfl); (case zf2 => rfl); (case zf3 => exact (by decide : ScopeKind.function ≠ ScopeKind.module)); (case zhA => rfl); (case zhd => (first | exact room_b (by with_reducible assumption) rfl | exact room_a (by with_reducible assumption) rfl | omega | (simp only [Around.deeper, Around.in1]; omega))); (case zhu => (first | exact room_b (by with_reducible assumption) rfl | exact room_a (by with_reducible assumption) rfl | omega | (simp only [Around.deeper, Around.in1]; omega)))); intro _ _ _ _); (try dsimp only)) | (((with_reducible show wpAny _ _ (call (Value.ref 259) _) _ _ _); k_dflt (refine' my_host ?zF ?zN ?zX ?zT ?zhA ?zhd ?zhu ?_; (case zF => k_asm); (case zN => k_asm); (case zX => k_asm); (case zT => k_asm); (case zhA => rfl); (case zhd => (first | exact room_b (by with_reducible assumption) rfl | exact room_a (by with_reducible assumption) rfl | omega | (simp only [Around.deeper, Around.in1]; omega))); (case zhu => (first | exact room_b (by with_reducible assumption) rfl | exact room_a (by with_reducible assumption) rfl | omega | (simp only [Around.deeper, Around.in1]; omega)))); intro _ _ _ _ _ _ _ _ _ _; (try k_sweep)); (try dsimp only)) | (((with_reducible show wpAny _ _ (call (Value.ref 277) _) _ _ _); k_dflt (refine' my_take ?zF ?zN ?zX ?zT ?zU ?zhk ?zhm ?zhA ?zhd ?zhu ?_; (case zF => k_asm); (case zN => k_asm); (case zX => k_asm); (case zT => k_asm); (case zU => (intro _; tb_start)); (case zhk => ((try dsimp only); omega)); (case zhm => ((try dsimp only); omega)); (case zhA => rfl); (case zhd => (first | exact room_b (by with_reducible assumption) rfl | exact room_a (by with_reducible assumption) rfl | omega | (simp only [Around.deeper, Around.in1]; omega))); (case zhu => (first | exact room_b (by with_reducible assumption) rfl | exact room_a (by with_reducible assumption) rfl | omega | (simp only [Around.deeper, Around.in1]; omega)))); intro _ _ _ _ _ _ _ _ _ _ _ _; (try k_sweep)); (try dsimp only)) | ((with_reducible show wpAny _ _ (call (Value.ref _) _) _ _ _); k_dflt (refine' con_useI ?zC ?zF ?zN ?zX ?zT ?zhA ?zhd ?zhu ?_); (case zC => first | (first | exact con_law_is_metric _ _ _ _ _ _ _ (by omega) (by omega) (by omega) (metricAt _ _ _) | exact con_law_is_similar _ _ _ _ _ _ (by omega) (by first | omega | decide +kernel) (similarAt _ _)) | exact con_law_sound _ _ _ (by with_reducible assumption) | exact con_distance _ _ _ _ _ _ _ _ _ _ _ (by omega) (by omega)); (case zF => k_asm); (case zN => k_asm); (case zX => k_asm); (case zT => k_asm); (case zhA => rfl); (case zhd => first | exact room_b (by with_reducible assumption) rfl | exact room_a (by with_reducible assumption) rfl | omega | (simp only [Around.deeper, Around.in1]; omega)); (case zhu => first | exact room_b (by with_reducible assumption) rfl | exact room_a (by with_reducible assumption) rfl | omega | (simp only [Around.deeper, Around.in1]; omega)); intro _ _ _ _ _; (try k_sweep); (try dsimp only)) | ((with_reducible show wpAny _ _ (call (Value.ref _) _) _ _ _); k_dflt (refine' con_useS ?zC ?zF ?zN ?zX ?zT ?zhA ?zhd ?zhu ?_); (case zC => first | (first | exact con_law_is_metric _ _ _ _ _ _ _ (by omega) (by omega) (by omega) (metricAt _ _ _) | exact con_law_is_similar _ _ _ _ _ _ (by omega) (by first | omega | decide +kernel) (similarAt _ _)) | exact con_law_sound _ _ _ (by with_reducible assumption) | exact con_distance _ _ _ _ _ _ _ _ _ _ _ (by omega) (by omega)); (case zF => k_asm); (case zN => k_asm); (case zX => k_asm); (case zT => k_asm); (case zhA => rfl); (case zhd => first | exact room_b (by with_reducible assumption) rfl | exact room_a (by with_reducible assumption) rfl | omega | (simp only [Around.deeper, Around.in1]; omega)); (case zhu => first | exact room_b (by with_reducible assumption) rfl | exact room_a (by with_reducible assumption) rfl | omega | (simp only [Around.deeper, Around.in1]; omega)); intro _ _ _ _ _; (try k_sweep); (try dsimp only)) | ((with_reducible show wpAny _ _ (call (Value.ref _) _) _ _ _); k_dflt (refine' con_useB ?zC ?zF ?zN ?zX ?zT ?zhA ?zhd ?zhu ?_); (case zC => first | (first | exact con_law_is_metric _ _ _ _ _ _ _ (by omega) (by omega) (by omega) (metricAt _ _ _) | exact con_law_is_similar _ _ _ _ _ _ (by omega) (by first | omega | decide +kernel) (similarAt _ _)) | exact con_law_sound _ _ _ (by with_reducible assumption) | exact con_distance _ _ _ _ _ _ _ _ _ _ _ (by omega) (by omega)); (case zF => k_asm); (case zN => k_asm); (case zX => k_asm); (case zT => k_asm); (case zhA => rfl); (case zhd => first | exact room_b (by with_reducible assumption) rfl | exact room_a (by with_reducible assumption) rfl | omega | (simp only [Around.deeper, Around.in1]; omega)); (case zhu => first | exact room_b (by with_reducible assumption) rfl | exact room_a (by with_reducible assumption) rfl | omega | (simp only [Around.deeper, Around.in1]; omega)); intro _ _ _ _; (try k_sweep); (try dsimp only)) | (k_unfold; (try dsimp only)) | (walk1; (try dsimp only)) | (dsimp only; walk1) | fail "no step"))
      have hmi : (0 : Int) ≤ if 0 > ci then 0 else ci := by split <;> omega
      have hmr : (0 : Int) ≤ if 0 > ro then 0 else ro := by split <;> omega
      have hma : (0 : Int) ≤ if 0 > ad then 0 else ad := by split <;> omega
      have hdc := ed_dist hmi hmr hma hed
      walk1
      (repeat' ((fail_if_success (with_reducible show wpAny _ _ (exec (Stmt.For _ _ _ _ _) _) _ _ _)); (fail_if_success (with_reducible show wpAny _ _ (exec (Stmt.While _ _ _ _) _) _ _ _)); (fail_if_success (with_reducible show wpAny _ _ (pyIter _) _ _ _)); (fail_if_success (with_reducible show wpAny _ _ (exec (Stmt.Assign _ (Expr.ListComp _ _ _ _) _) _) _ _ _)); (fail_if_success (with_reducible show wpAny _ _ (eval (Expr.ListComp _ _ _ _) _) _ _ _)); (fail_if_success (with_reducible show wpAny _ _ (exec (Stmt.If _ _ _ _) _) _ _ _)); first | (((with_reducible show wpAny _ _ (call (Value.ref 142) _) _ _ _); k_dflt (refine' con_use1 (con_php_soundex _ _ _ _ _ _ ?zl1) ?zF ?zN ?zX ?zT ?zhl ?zU ?zhA ?zhd ?zhu ?_; (case zF => k_asm); (case zN => k_asm); (case zX => k_asm); (case zT => k_asm); (case zl1 => omega); (case zhl => rfl); (case zU => kwd_less); (case zhA => rfl); (case zhd => (first | exact room_b (by with_reducible assumption) rfl | exact room_a (by with_reducible assumption) rfl | omega | (simp only [Around.deeper, Around.in1]; omega))); (case zhu => (first | exact room_b (by with_reducible assumption) rfl | exact room_a (by with_reducible assumption) rfl | omega | (simp only [Around.deeper, Around.in1]; omega)))); intro _ _ _ _ _ r'; obtain ⟨t', e'⟩ := r'; subst e'); (try dsimp only)) | (((with_reducible show wpAny _ _ (call (Value.ref 303) _) _ _ _); k_dflt (refine' my_least ?zF ?zN ?zX ?zT ?zl1 ?zl2 ?zf1 ?zf2 ?zf3 ?zhA ?zhd ?zhu ?_; (case zF => k_asm); (case zN => k_asm); (case zX => k_asm); (case zT => k_asm); (case zl1 => first | omega | decide +kernel); (case zl2 => first | omega | decide +kernel); (case zf1 => rfl); (case zf2 => rfl); (case zf3 => exact (by decide : ScopeKind.function ≠ ScopeKind.module)); (case zhA => rfl); (case zhd => (first | exact room_b (by with_reducible assumption) rfl | exact room_a (by with_reducible assumption) rfl | omega | (simp only [Around.deeper, Around.in1]; omega))); (case zhu => (first | exact room_b (by with_reducible assumption) rfl | exact room_a (by with_reducible assumption) rfl | omega | (simp only [Around.deeper, Around.in1]; omega)))); intro _ _ _ _); (try dsimp only)) | (((with_reducible show wpAny _ _ (call (Value.ref 259) _) _ _ _); k_dflt (refine' my_host ?zF ?zN ?zX ?zT ?zhA ?zhd ?zhu ?_; (case zF => k_asm); (case zN => k_asm); (case zX => k_asm); (case zT => k_asm); (case zhA => rfl); (case zhd => (first | exact room_b (by with_reducible assumption) rfl | exact room_a (by with_reducible assumption) rfl | omega | (simp only [Around.deeper, Around.in1]; omega))); (case zhu => (first | exact room_b (by with_reducible assumption) rfl | exact room_a (by with_reducible assumption) rfl | omega | (simp only [Around.deeper, Around.in1]; omega)))); intro _ _ _ _ _ _ _ _ _ _; (try k_sweep)); (try dsimp only)) | (((with_reducible show wpAny _ _ (call (Value.ref 277) _) _ _ _); k_dflt (refine' my_take ?zF ?zN ?zX ?zT ?zU ?zhk ?zhm ?zhA ?zhd ?zhu ?_; (case zF => k_asm); (case zN => k_asm); (case zX => k_asm); (case zT => k_asm); (case zU => (intro _; tb_start)); (case zhk => ((try dsimp only); omega)); (case zhm => ((try dsimp only); omega)); (case zhA => rfl); (case zhd => (first | exact room_b (by with_reducible assumption) rfl | exact room_a (by with_reducible assumption) rfl | omega | (simp only [Around.deeper, Around.in1]; omega))); (case zhu => (first | exact room_b (by with_reducible assumption) rfl | exact room_a (by with_reducible assumption) rfl | omega | (simp only [Around.deeper, Around.in1]; omega)))); intro _ _ _ _ _ _ _ _ _ _ _ _; (try k_sweep)); (try dsimp only)) | ((with_reducible show wpAny _ _ (call (Value.ref _) _) _ _ _); k_dflt (refine' con_useI ?zC ?zF ?zN ?zX ?zT ?zhA ?zhd ?zhu ?_); (case zC => first | (first | exact con_law_is_metric _ _ _ _ _ _ _ (by omega) (by omega) (by omega) (metricAt _ _ _) | exact con_law_is_similar _ _ _ _ _ _ (by omega) (by first | omega | decide +kernel) (similarAt _ _)) | exact con_law_sound _ _ _ (by with_reducible assumption) | exact con_distance _ _ _ _ _ _ _ _ _ _ _ (by omega) (by omega)); (case zF => k_asm); (case zN => k_asm); (case zX => k_asm); (case zT => k_asm); (case zhA => rfl); (case zhd => first | exact room_b (by with_reducible assumption) rfl | exact room_a (by with_reducible assumption) rfl | omega | (simp only [Around.deeper, Around.in1]; omega)); (case zhu => first | exact room_b (by with_reducible assumption) rfl | exact room_a (by with_reducible assumption) rfl | omega | (simp only [Around.deeper, Around.in1]; omega)); intro _ _ _ _ _; (try k_sweep); (try dsimp only)) | ((with_reducible show wpAny _ _ (call (Value.ref _) _) _ _ _); k_dflt (refine' con_useS ?zC ?zF ?zN ?zX ?zT ?zhA ?zhd ?zhu ?_); (case zC => first | (first | exact con_law_is_metric _ _ _ _ _ _ _ (by omega) (by omega) (by omega) (metricAt _ _ _) | exact con_law_is_similar _ _ _ _ _ _ (by omega) (by first | omega | decide +kernel) (similarAt _ _)) | exact con_law_sound _ _ _ (by with_reducible assumption) | exact con_distance _ _ _ _ _ _ _ _ _ _ _ (by omega) (by omega)); (case zF => k_asm); (case zN => k_asm); (case zX => k_asm); (case zT => k_asm); (case zhA => rfl); (case zhd => first | exact room_b (by with_reducible assumption) rfl | exact room_a (by with_reducible assumption) rfl | omega | (simp only [Around.deeper, Around.in1]; omega)); (case zhu => first | exact room_b (by with_reducible assumption) rfl | exact room_a (by with_reducible assumption) rfl | omega | (simp only [Around.deeper, Around.in1]; omega)); intro _ _ _ _ _; (try k_sweep); (try dsimp only)) | ((with_reducible show wpAny _ _ (call (Value.ref _) _) _ _ _); k_dflt (refine' con_useB ?zC ?zF ?zN ?zX ?zT ?zhA ?zhd ?zhu ?_); (case zC => first | (first | exact con_law_is_metric _ _ _ _ _ _ _ (by omega) (by omega) (by omega) (metricAt _ _ _) | exact con_law_is_similar _ _ _ _ _ _ (by omega) (by first | omega | decide +kernel) (similarAt _ _)) | exact con_law_sound _ _ _ (by with_reducible assumption) | exact con_distance _ _ _ _ _ _ _ _ _ _ _ (by omega) (by omega)); (case zF => k_asm); (case zN => k_asm); (case zX => k_asm); (case zT => k_asm); (case zhA => rfl); (case zhd => first | exact room_b (by with_reducible assumption) rfl | exact room_a (by with_reducible assumption) rfl | omega | (simp only [Around.deeper, Around.in1]; omega)); (case zhu => first | exact room_b (by with_reducible assumption) rfl | exact room_a (by with_reducible assumption) rfl | omega | (simp only [Around.deeper, Around.in1]; omega)); intro _ _ _ _; (try k_sweep); (try dsimp only)) | (k_unfold; (try dsimp only)) | (walk1; (try dsimp only)) | (dsimp only; walk1) | fail "no step"))
      walk1
      (repeat' ((fail_if_success (with_reducible show wpAny _ _ (exec (Stmt.For _ _ _ _ _) _) _ _ _)); (fail_if_success (with_reducible show wpAny _ _ (exec (Stmt.While _ _ _ _) _) _ _ _)); (fail_if_success (with_reducible show wpAny _ _ (pyIter _) _ _ _)); (fail_if_success (with_reducible show wpAny _ _ (exec (Stmt.Assign _ (Expr.ListComp _ _ _ _) _) _) _ _ _)); (fail_if_success (with_reducible show wpAny _ _ (eval (Expr.ListComp _ _ _ _) _) _ _ _)); (fail_if_success (with_reducible show wpAny _ _ (exec (Stmt.If _ _ _ _) _) _ _ _)); first | (((with_reducible show wpAny _ _ (call (Value.ref 142) _) _ _ _); k_dflt (refine' con_use1 (con_php_soundex _ _ _ _ _ _ ?zl1) ?zF ?zN ?zX ?zT ?zhl ?zU ?zhA ?zhd ?zhu ?_; (case zF => k_asm); (case zN => k_asm); (case zX => k_asm); (case zT => k_asm); (case zl1 => omega); (case zhl => rfl); (case zU => kwd_less); (case zhA => rfl); (case zhd => (first | exact room_b (by with_reducible assumption) rfl | exact room_a (by with_reducible assumption) rfl | omega | (simp only [Around.deeper, Around.in1]; omega))); (case zhu => (first | exact room_b (by with_reducible assumption) rfl | exact room_a (by with_reducible assumption) rfl | omega | (simp only [Around.deeper, Around.in1]; omega)))); intro _ _ _ _ _ r'; obtain ⟨t', e'⟩ := r'; subst e'); (try dsimp only)) | (((with_reducible show wpAny _ _ (call (Value.ref 303) _) _ _ _); k_dflt (refine' my_least ?zF ?zN ?zX ?zT ?zl1 ?zl2 ?zf1 ?zf2 ?zf3 ?zhA ?zhd ?zhu ?_; (case zF => k_asm); (case zN => k_asm); (case zX => k_asm); (case zT => k_asm); (case zl1 => first | omega | decide +kernel); (case zl2 => first | omega | decide +kernel); (case zf1 => rfl); (case zf2 => rfl); (case zf3 => exact (by decide : ScopeKind.function ≠ ScopeKind.module)); (case zhA => rfl); (case zhd => (first | exact room_b (by with_reducible assumption) rfl | exact room_a (by with_reducible assumption) rfl | omega | (simp only [Around.deeper, Around.in1]; omega))); (case zhu => (first | exact room_b (by with_reducible assumption) rfl | exact room_a (by with_reducible assumption) rfl | omega | (simp only [Around.deeper, Around.in1]; omega)))); intro _ _ _ _); (try dsimp only)) | (((with_reducible show wpAny _ _ (call (Value.ref 259) _) _ _ _); k_dflt (refine' my_host ?zF ?zN ?zX ?zT ?zhA ?zhd ?zhu ?_; (case zF => k_asm); (case zN => k_asm); (case zX => k_asm); (case zT => k_asm); (case zhA => rfl); (case zhd => (first | exact room_b (by with_reducible assumption) rfl | exact room_a (by with_reducible assumption) rfl | omega | (simp only [Around.deeper, Around.in1]; omega))); (case zhu => (first | exact room_b (by with_reducible assumption) rfl | exact room_a (by with_reducible assumption) rfl | omega | (simp only [Around.deeper, Around.in1]; omega)))); intro _ _ _ _ _ _ _ _ _ _; (try k_sweep)); (try dsimp only)) | (((with_reducible show wpAny _ _ (call (Value.ref 277) _) _ _ _); k_dflt (refine' my_take ?zF ?zN ?zX ?zT ?zU ?zhk ?zhm ?zhA ?zhd ?zhu ?_; (case zF => k_asm); (case zN => k_asm); (case zX => k_asm); (case zT => k_asm); (case zU => (intro _; tb_start)); (case zhk => ((try dsimp only); omega)); (case zhm => ((try dsimp only); omega)); (case zhA => rfl); (case zhd => (first | exact room_b (by with_reducible assumption) rfl | exact room_a (by with_reducible assumption) rfl | omega | (simp only [Around.deeper, Around.in1]; omega))); (case zhu => (first | exact room_b (by with_reducible assumption) rfl | exact room_a (by with_reducible assumption) rfl | omega | (simp only [Around.deeper, Around.in1]; omega)))); intro _ _ _ _ _ _ _ _ _ _ _ _; (try k_sweep)); (try dsimp only)) | ((with_reducible show wpAny _ _ (call (Value.ref _) _) _ _ _); k_dflt (refine' con_useI ?zC ?zF ?zN ?zX ?zT ?zhA ?zhd ?zhu ?_); (case zC => first | (first | exact con_law_is_metric _ _ _ _ _ _ _ (by omega) (by omega) (by omega) (metricAt _ _ _) | exact con_law_is_similar _ _ _ _ _ _ (by omega) (by first | omega | decide +kernel) (similarAt _ _)) | exact con_law_sound _ _ _ (by with_reducible assumption) | exact con_distance _ _ _ _ _ _ _ _ _ _ _ (by omega) (by omega)); (case zF => k_asm); (case zN => k_asm); (case zX => k_asm); (case zT => k_asm); (case zhA => rfl); (case zhd => first | exact room_b (by with_reducible assumption) rfl | exact room_a (by with_reducible assumption) rfl | omega | (simp only [Around.deeper, Around.in1]; omega)); (case zhu => first | exact room_b (by with_reducible assumption) rfl | exact room_a (by with_reducible assumption) rfl | omega | (simp only [Around.deeper, Around.in1]; omega)); intro _ _ _ _ _; (try k_sweep); (try dsimp only)) | ((with_reducible show wpAny _ _ (call (Value.ref _) _) _ _ _); k_dflt (refine' con_useS ?zC ?zF ?zN ?zX ?zT ?zhA ?zhd ?zhu ?_); (case zC => first | (first | exact con_law_is_metric _ _ _ _ _ _ _ (by omega) (by omega) (by omega) (metricAt _ _ _) | exact con_law_is_similar _ _ _ _ _ _ (by omega) (by first | omega | decide +kernel) (similarAt _ _)) | exact con_law_sound _ _ _ (by with_reducible assumption) | exact con_distance _ _ _ _ _ _ _ _ _ _ _ (by omega) (by omega)); (case zF => k_asm); (case zN => k_asm); (case zX => k_asm); (case zT => k_asm); (case zhA => rfl); (case zhd => first | exact room_b (by with_reducible assumption) rfl | exact room_a (by with_reducible assumption) rfl | omega | (simp only [Around.deeper, Around.in1]; omega)); (case zhu => first | exact room_b (by with_reducible assumption) rfl | exact room_a (by with_reducible assumption) rfl | omega | (simp only [Around.deeper, Around.in1]; omega)); intro _ _ _ _ _; (try k_sweep); (try dsimp only)) | ((with_reducible show wpAny _ _ (call (Value.ref _) _) _ _ _); k_dflt (refine' con_useB ?zC ?zF ?zN ?zX ?zT ?zhA ?zhd ?zhu ?_); (case zC => first | (first | exact con_law_is_metric _ _ _ _ _ _ _ (by omega) (by omega) (by omega) (metricAt _ _ _) | exact con_law_is_similar _ _ _ _ _ _ (by omega) (by first | omega | decide +kernel) (similarAt _ _)) | exact con_law_sound _ _ _ (by with_reducible assumption) | exact con_distance _ _ _ _ _ _ _ _ _ _ _ (by omega) (by omega)); (case zF => k_asm); (case zN => k_asm); (case zX => k_asm); (case zT => k_asm); (case zhA => rfl); (case zhd => first | exact room_b (by with_reducible assumption) rfl | exact room_a (by with_reducible assumption) rfl | omega | (simp only [Around.deeper, Around.in1]; omega)); (case zhu => first | exact room_b (by with_reducible assumption) rfl | exact room_a (by with_reducible assumption) rfl | omega | (simp only [Around.deeper, Around.in1]; omega)); intro _ _ _ _; (try k_sweep); (try dsimp only)) | (k_unfold; (try dsimp only)) | (walk1; (try dsimp only)) | (dsimp only; walk1) | fail "no step"))
      walk1
      (repeat' ((fail_if_success (with_reducible show wpAny _ _ (exec (Stmt.For _ _ _ _ _) _) _ _ _)); (fail_if_success (with_reducible show wpAny _ _ (exec (Stmt.While _ _ _ _) _) _ _ _)); (fail_if_success (with_reducible show wpAny _ _ (pyIter _) _ _ _)); (fail_if_success (with_reducible show wpAny _ _ (exec (Stmt.Assign _ (Expr.ListComp _ _ _ _) _) _) _ _ _)); (fail_if_success (with_reducible show wpAny _ _ (eval (Expr.ListComp _ _ _ _) _) _ _ _)); (fail_if_success (with_reducible show wpAny _ _ (exec (Stmt.If _ _ _ _) _) _ _ _)); first | (((with_reducible show wpAny _ _ (call (Value.ref 142) _) _ _ _); k_dflt (refine' con_use1 (con_php_soundex _ _ _ _ _ _ ?zl1) ?zF ?zN ?zX ?zT ?zhl ?zU ?zhA ?zhd ?zhu ?_; (case zF => k_asm); (case zN => k_asm); (case zX => k_asm); (case zT => k_asm); (case zl1 => omega); (case zhl => rfl); (case zU => kwd_less); (case zhA => rfl); (case zhd => (first | exact room_b (by with_reducible assumption) rfl | exact room_a (by with_reducible assumption) rfl | omega | (simp only [Around.deeper, Around.in1]; omega))); (case zhu => (first | exact room_b (by with_reducible assumption) rfl | exact room_a (by with_reducible assumption) rfl | omega | (simp only [Around.deeper, Around.in1]; omega)))); intro _ _ _ _ _ r'; obtain ⟨t', e'⟩ := r'; subst e'); (try dsimp only)) | (((with_reducible show wpAny _ _ (call (Value.ref 303) _) _ _ _); k_dflt (refine' my_least ?zF ?zN ?zX ?zT ?zl1 ?zl2 ?zf1 ?zf2 ?zf3 ?zhA ?zhd ?zhu ?_; (case zF => k_asm); (case zN => k_asm); (case zX => k_asm); (case zT => k_asm); (case zl1 => first | omega | decide +kernel); (case zl2 => first | omega | decide +kernel); (case zf1 => rfl); (case zf2 => rfl); (case zf3 => exact (by decide : ScopeKind.function ≠ ScopeKind.module)); (case zhA => rfl); (case zhd => (first | exact room_b (by with_reducible assumption) rfl | exact room_a (by with_reducible assumption) rfl | omega | (simp only [Around.deeper, Around.in1]; omega))); (case zhu => (first | exact room_b (by with_reducible assumption) rfl | exact room_a (by with_reducible assumption) rfl | omega | (simp only [Around.deeper, Around.in1]; omega)))); intro _ _ _ _); (try dsimp only)) | (((with_reducible show wpAny _ _ (call (Value.ref 259) _) _ _ _); k_dflt (refine' my_host ?zF ?zN ?zX ?zT ?zhA ?zhd ?zhu ?_; (case zF => k_asm); (case zN => k_asm); (case zX => k_asm); (case zT => k_asm); (case zhA => rfl); (case zhd => (first | exact room_b (by with_reducible assumption) rfl | exact room_a (by with_reducible assumption) rfl | omega | (simp only [Around.deeper, Around.in1]; omega))); (case zhu => (first | exact room_b (by with_reducible assumption) rfl | exact room_a (by with_reducible assumption) rfl | omega | (simp only [Around.deeper, Around.in1]; omega)))); intro _ _ _ _ _ _ _ _ _ _; (try k_sweep)); (try dsimp only)) | (((with_reducible show wpAny _ _ (call (Value.ref 277) _) _ _ _); k_dflt (refine' my_take ?zF ?zN ?zX ?zT ?zU ?zhk ?zhm ?zhA ?zhd ?zhu ?_; (case zF => k_asm); (case zN => k_asm); (case zX => k_asm); (case zT => k_asm); (case zU => (intro _; tb_start)); (case zhk => ((try dsimp only); omega)); (case zhm => ((try dsimp only); omega)); (case zhA => rfl); (case zhd => (first | exact room_b (by with_reducible assumption) rfl | exact room_a (by with_reducible assumption) rfl | omega | (simp only [Around.deeper, Around.in1]; omega))); (case zhu => (first | exact room_b (by with_reducible assumption) rfl | exact room_a (by with_reducible assumption) rfl | omega | (simp only [Around.deeper, Around.in1]; omega)))); intro _ _ _ _ _ _ _ _ _ _ _ _; (try k_sweep)); (try dsimp only)) | ((with_reducible show wpAny _ _ (call (Value.ref _) _) _ _ _); k_dflt (refine' con_useI ?zC ?zF ?zN ?zX ?zT ?zhA ?zhd ?zhu ?_); (case zC => first | (first | exact con_law_is_metric _ _ _ _ _ _ _ (by omega) (by omega) (by omega) (metricAt _ _ _) | exact con_law_is_similar _ _ _ _ _ _ (by omega) (by first | omega | decide +kernel) (similarAt _ _)) | exact con_law_sound _ _ _ (by with_reducible assumption) | exact con_distance _ _ _ _ _ _ _ _ _ _ _ (by omega) (by omega)); (case zF => k_asm); (case zN => k_asm); (case zX => k_asm); (case zT => k_asm); (case zhA => rfl); (case zhd => first | exact room_b (by with_reducible assumption) rfl | exact room_a (by with_reducible assumption) rfl | omega | (simp only [Around.deeper, Around.in1]; omega)); (case zhu => first | exact room_b (by with_reducible assumption) rfl | exact room_a (by with_reducible assumption) rfl | omega | (simp only [Around.deeper, Around.in1]; omega)); intro _ _ _ _ _; (try k_sweep); (try dsimp only)) | ((with_reducible show wpAny _ _ (call (Value.ref _) _) _ _ _); k_dflt (refine' con_useS ?zC ?zF ?zN ?zX ?zT ?zhA ?zhd ?zhu ?_); (case zC => first | (first | exact con_law_is_metric _ _ _ _ _ _ _ (by omega) (by omega) (by omega) (metricAt _ _ _) | exact con_law_is_similar _ _ _ _ _ _ (by omega) (by first | omega | decide +kernel) (similarAt _ _)) | exact con_law_sound _ _ _ (by with_reducible assumption) | exact con_distance _ _ _ _ _ _ _ _ _ _ _ (by omega) (by omega)); (case zF => k_asm); (case zN => k_asm); (case zX => k_asm); (case zT => k_asm); (case zhA => rfl); (case zhd => first | exact room_b (by with_reducible assumption) rfl | exact room_a (by with_reducible assumption) rfl | omega | (simp only [Around.deeper, Around.in1]; omega)); (case zhu => first | exact room_b (by with_reducible assumption) rfl | exact room_a (by with_reducible assumption) rfl | omega | (simp only [Around.deeper, Around.in1]; omega)); intro _ _ _ _ _; (try k_sweep); (try dsimp only)) | ((with_reducible show wpAny _ _ (call (Value.ref _) _) _ _ _); k_dflt (refine' con_useB ?zC ?zF ?zN ?zX ?zT ?zhA ?zhd ?zhu ?_); (case zC => first | (first | exact con_law_is_metric _ _ _ _ _ _ _ (by omega) (by omega) (by omega) (metricAt _ _ _) | exact con_law_is_similar _ _ _ _ _ _ (by omega) (by first | omega | decide +kernel) (similarAt _ _)) | exact con_law_sound _ _ _ (by with_reducible assumption) | exact con_distance _ _ _ _ _ _ _ _ _ _ _ (by omega) (by omega)); (case zF => k_asm); (case zN => k_asm); (case zX => k_asm); (case zT => k_asm); (case zhA => rfl); (case zhd => first | exact room_b (by with_reducible assumption) rfl | exact room_a (by with_reducible assumption) rfl | omega | (simp only [Around.deeper, Around.in1]; omega)); (case zhu => first | exact room_b (by with_reducible assumption) rfl | exact room_a (by with_reducible assumption) rfl | omega | (simp only [Around.deeper, Around.in1]; omega)); intro _ _ _ _; (try k_sweep); (try dsimp only)) | (k_unfold; (try dsimp only)) | (walk1; (try dsimp only)) | (dsimp only; walk1) | fail "no step"))
      rename Fr _ _ _ _ => F2
      rename News _ _ _ _ => N2
      refine my_pen (vs := ws) (ns := ms) (n := 0) (S := D) F2 (News.sub N2 fun p hp => List.mem_cons_of_mem _ hp) (by (first | exact List.mem_cons_self | exact List.mem_cons_of_mem _ List.mem_cons_self | exact List.mem_cons_of_mem _ (List.mem_cons_of_mem _ List.mem_cons_self) | exact List.mem_cons_of_mem _ (List.mem_cons_of_mem _ (List.mem_cons_of_mem _ List.mem_cons_self)) | exact List.mem_cons_of_mem _ (List.mem_cons_of_mem _ (List.mem_cons_of_mem _ (List.mem_cons_of_mem _ List.mem_cons_self))) | exact List.mem_cons_of_mem _ (List.mem_cons_of_mem _ (List.mem_cons_of_mem _ (List.mem_cons_of_mem _ (List.mem_cons_of_mem _ List.mem_cons_self)))) | exact List.mem_cons_of_mem _ (List.mem_cons_of_mem _ (List.mem_cons_of_mem _ (List.mem_cons_of_mem _ (List.mem_cons_of_mem _ (List.mem_cons_of_mem _ List.mem_cons_self))))) | exact List.mem_cons_of_mem _ (List.mem_cons_of_mem _ (List.mem_cons_of_mem _ (List.mem_cons_of_mem _ (List.mem_cons_of_mem _ (List.mem_cons_of_mem _ (List.mem_cons_of_mem _ List.mem_cons_self)))))) | exact List.mem_cons_of_mem _ (List.mem_cons_of_mem _ (List.mem_cons_of_mem _ (List.mem_cons_of_mem _ (List.mem_cons_of_mem _ (List.mem_cons_of_mem _ (List.mem_cons_of_mem _ (List.mem_cons_of_mem _ List.mem_cons_self))))))))) i1 (by omega) X T rfl (by (first | exact room_b (by with_reducible assumption) rfl | exact room_a (by with_reducible assumption) rfl | omega | (simp only [Around.deeper, Around.in1]; omega))) (by (first | exact room_b (by with_reducible assumption) rfl | exact room_a (by with_reducible assumption) rfl | omega | (simp only [Around.deeper, Around.in1]; omega))) (fun P3 k3' tp3 up3 h' tk' F1 N1 hDP3 => ?_)
      clear F2 N2 hDP2 hlP hcP hxP hdP
      have hlP : l ≠ P3 := ne_of_obj N1 (o := listOf #[] 0) (o' := penO k3' (17 * 2) tp3 up3 0) (by (first | exact List.mem_cons_self | exact List.mem_cons_of_mem _ List.mem_cons_self | exact List.mem_cons_of_mem _ (List.mem_cons_of_mem _ List.mem_cons_self) | exact List.mem_cons_of_mem _ (List.mem_cons_of_mem _ (List.mem_cons_of_mem _ List.mem_cons_self)) | exact List.mem_cons_of_mem _ (List.mem_cons_of_mem _ (List.mem_cons_of_mem _ (List.mem_cons_of_mem _ List.mem_cons_self))) | exact List.mem_cons_of_mem _ (List.mem_cons_of_mem _ (List.mem_cons_of_mem _ (List.mem_cons_of_mem _ (List.mem_cons_of_mem _ List.mem_cons_self)))) | exact List.mem_cons_of_mem _ (List.mem_cons_of_mem _ (List.mem_cons_of_mem _ (List.mem_cons_of_mem _ (List.mem_cons_of_mem _ (List.mem_cons_of_mem _ List.mem_cons_self))))) | exact List.mem_cons_of_mem _ (List.mem_cons_of_mem _ (List.mem_cons_of_mem _ (List.mem_cons_of_mem _ (List.mem_cons_of_mem _ (List.mem_cons_of_mem _ (List.mem_cons_of_mem _ List.mem_cons_self)))))) | exact List.mem_cons_of_mem _ (List.mem_cons_of_mem _ (List.mem_cons_of_mem _ (List.mem_cons_of_mem _ (List.mem_cons_of_mem _ (List.mem_cons_of_mem _ (List.mem_cons_of_mem _ (List.mem_cons_of_mem _ List.mem_cons_self))))))))) (by (first | exact List.mem_cons_self | exact List.mem_cons_of_mem _ List.mem_cons_self | exact List.mem_cons_of_mem _ (List.mem_cons_of_mem _ List.mem_cons_self) | exact List.mem_cons_of_mem _ (List.mem_cons_of_mem _ (List.mem_cons_of_mem _ List.mem_cons_self)) | exact List.mem_cons_of_mem _ (List.mem_cons_of_mem _ (List.mem_cons_of_mem _ (List.mem_cons_of_mem _ List.mem_cons_self))) | exact List.mem_cons_of_mem _ (List.mem_cons_of_mem _ (List.mem_cons_of_mem _ (List.mem_cons_of_mem _ (List.mem_cons_of_mem _ List.mem_cons_self)))) | exact List.mem_cons_of_mem _ (List.mem_cons_of_mem _ (List.mem_cons_of_mem _ (List.mem_cons_of_mem _ (List.mem_cons_of_mem _ (List.mem_cons_of_mem _ List.mem_cons_self))))) | exact List.mem_cons_of_mem _ (List.mem_cons_of_mem _ (List.mem_cons_of_mem _ (List.mem_cons_of_mem _ (List.mem_cons_of_mem _ (List.mem_cons_of_mem _ (List.mem_cons_of_mem _ List.mem_cons_self)))))) | exact List.mem_cons_of_mem _ (List.mem_cons_of_mem _ (List.mem_cons_of_mem _ (List.mem_cons_of_mem _ (List.mem_cons_of_mem _ (List.mem_cons_of_mem _ (List.mem_cons_of_mem _ (List.mem_cons_of_mem _ List.mem_cons_self))))))))) (fun q => by have := congrArg Obj.data q; simp at this)
      have hcP : L + 1 ≠ P3 := ne_of_obj N1 (o := o3) (o' := penO k3' (17 * 2) tp3 up3 0) (by (first | exact List.mem_cons_self | exact List.mem_cons_of_mem _ List.mem_cons_self | exact List.mem_cons_of_mem _ (List.mem_cons_of_mem _ List.mem_cons_self) | exact List.mem_cons_of_mem _ (List.mem_cons_of_mem _ (List.mem_cons_of_mem _ List.mem_cons_self)) | exact List.mem_cons_of_mem _ (List.mem_cons_of_mem _ (List.mem_cons_of_mem _ (List.mem_cons_of_mem _ List.mem_cons_self))) | exact List.mem_cons_of_mem _ (List.mem_cons_of_mem _ (List.mem_cons_of_mem _ (List.mem_cons_of_mem _ (List.mem_cons_of_mem _ List.mem_cons_self)))) | exact List.mem_cons_of_mem _ (List.mem_cons_of_mem _ (List.mem_cons_of_mem _ (List.mem_cons_of_mem _ (List.mem_cons_of_mem _ (List.mem_cons_of_mem _ List.mem_cons_self))))) | exact List.mem_cons_of_mem _ (List.mem_cons_of_mem _ (List.mem_cons_of_mem _ (List.mem_cons_of_mem _ (List.mem_cons_of_mem _ (List.mem_cons_of_mem _ (List.mem_cons_of_mem _ List.mem_cons_self)))))) | exact List.mem_cons_of_mem _ (List.mem_cons_of_mem _ (List.mem_cons_of_mem _ (List.mem_cons_of_mem _ (List.mem_cons_of_mem _ (List.mem_cons_of_mem _ (List.mem_cons_of_mem _ (List.mem_cons_of_mem _ List.mem_cons_self))))))))) (by (first | exact List.mem_cons_self | exact List.mem_cons_of_mem _ List.mem_cons_self | exact List.mem_cons_of_mem _ (List.mem_cons_of_mem _ List.mem_cons_self) | exact List.mem_cons_of_mem _ (List.mem_cons_of_mem _ (List.mem_cons_of_mem _ List.mem_cons_self)) | exact List.mem_cons_of_mem _ (List.mem_cons_of_mem _ (List.mem_cons_of_mem _ (List.mem_cons_of_mem _ List.mem_cons_self))) | exact List.mem_cons_of_mem _ (List.mem_cons_of_mem _ (List.mem_cons_of_mem _ (List.mem_cons_of_mem _ (List.mem_cons_of_mem _ List.mem_cons_self)))) | exact List.mem_cons_of_mem _ (List.mem_cons_of_mem _ (List.mem_cons_of_mem _ (List.mem_cons_of_mem _ (List.mem_cons_of_mem _ (List.mem_cons_of_mem _ List.mem_cons_self))))) | exact List.mem_cons_of_mem _ (List.mem_cons_of_mem _ (List.mem_cons_of_mem _ (List.mem_cons_of_mem _ (List.mem_cons_of_mem _ (List.mem_cons_of_mem _ (List.mem_cons_of_mem _ List.mem_cons_self)))))) | exact List.mem_cons_of_mem _ (List.mem_cons_of_mem _ (List.mem_cons_of_mem _ (List.mem_cons_of_mem _ (List.mem_cons_of_mem _ (List.mem_cons_of_mem _ (List.mem_cons_of_mem _ (List.mem_cons_of_mem _ List.mem_cons_self))))))))) (fun q => by rw [q] at h3; cases h3)
      (repeat' ((fail_if_success (with_reducible show wpAny _ _ (exec (Stmt.For _ _ _ _ _) _) _ _ _)); (fail_if_success (with_reducible show wpAny _ _ (exec (Stmt.While _ _ _ _) _) _ _ _)); (fail_if_success (with_reducible show wpAny _ _ (pyIter _) _ _ _)); (fail_if_success (with_reducible show wpAny _ _ (exec (Stmt.Assign _ (Expr.ListComp _ _ _ _) _) _) _ _ _)); (fail_if_success (with_reducible show wpAny _ _ (eval (Expr.ListComp _ _ _ _) _) _ _ _)); (fail_if_success (with_reducible show wpAny _ _ (call (Value.ref _) _) _ _ _)); (fail_if_success (with_reducible show wpAny _ _ (exec (Stmt.If _ _ _ _) _) _ _ _)); first | (((with_reducible show wpAny _ _ (call (Value.ref 142) _) _ _ _); k_dflt (refine' con_use1 (con_php_soundex _ _ _ _ _ _ ?zl1) ?zF ?zN ?zX ?zT ?zhl ?zU ?zhA ?zhd ?zhu ?_; (case zF => k_asm); (case zN => k_asm); (case zX => k_asm); (case zT => k_asm); (case zl1 => omega); (case zhl => rfl); (case zU => kwd_less); (case zhA => rfl); (case zhd => (first | exact room_b (by with_reducible assumption) rfl | exact room_a (by with_reducible assumption) rfl | omega | (simp only [Around.deeper, Around.in1]; omega))); (case zhu => (first | exact room_b (by with_reducible assumption) rfl | exact room_a (by with_reducible assumption) rfl | omega | (simp only [Around.deeper, Around.in1]; omega)))); intro _ _ _ _ _ r'; obtain ⟨t', e'⟩ := r'; subst e'); (try dsimp only)) | (((with_reducible show wpAny _ _ (call (Value.ref 303) _) _ _ _); k_dflt (refine' my_least ?zF ?zN ?zX ?zT ?zl1 ?zl2 ?zf1 ?zf2 ?zf3 ?zhA ?zhd ?zhu ?_; (case zF => k_asm); (case zN => k_asm); (case zX => k_asm); (case zT => k_asm); (case zl1 => first | omega | decide +kernel); (case zl2 => first | omega | decide +kernel); (case zf1 => rfl); (case zf2 => rfl); (case zf3 => exact (by decide : ScopeKind.function ≠ ScopeKind.module)); (case zhA => rfl); (case zhd => (first | exact room_b (by with_reducible assumption) rfl | exact room_a (by with_reducible assumption) rfl | omega | (simp only [Around.deeper, Around.in1]; omega))); (case zhu => (first | exact room_b (by with_reducible assumption) rfl | exact room_a (by with_reducible assumption) rfl | omega | (simp only [Around.deeper, Around.in1]; omega)))); intro _ _ _ _); (try dsimp only)) | (((with_reducible show wpAny _ _ (call (Value.ref 259) _) _ _ _); k_dflt (refine' my_host ?zF ?zN ?zX ?zT ?zhA ?zhd ?zhu ?_; (case zF => k_asm); (case zN => k_asm); (case zX => k_asm); (case zT => k_asm); (case zhA => rfl); (case zhd => (first | exact room_b (by with_reducible assumption) rfl | exact room_a (by with_reducible assumption) rfl | omega | (simp only [Around.deeper, Around.in1]; omega))); (case zhu => (first | exact room_b (by with_reducible assumption) rfl | exact room_a (by with_reducible assumption) rfl | omega | (simp only [Around.deeper, Around.in1]; omega)))); intro _ _ _ _ _ _ _ _ _ _; (try k_sweep)); (try dsimp only)) | (((with_reducible show wpAny _ _ (call (Value.ref 277) _) _ _ _); k_dflt (refine' my_take ?zF ?zN ?zX ?zT ?zU ?zhk ?zhm ?zhA ?zhd ?zhu ?_; (case zF => k_asm); (case zN => k_asm); (case zX => k_asm); (case zT => k_asm); (case zU => (intro _; tb_start)); (case zhk => ((try dsimp only); omega)); (case zhm => ((try dsimp only); omega)); (case zhA => rfl); (case zhd => (first | exact room_b (by with_reducible assumption) rfl | exact room_a (by with_reducible assumption) rfl | omega | (simp only [Around.deeper, Around.in1]; omega))); (case zhu => (first | exact room_b (by with_reducible assumption) rfl | exact room_a (by with_reducible assumption) rfl | omega | (simp only [Around.deeper, Around.in1]; omega)))); intro _ _ _ _ _ _ _ _ _ _ _ _; (try k_sweep)); (try dsimp only)) | ((with_reducible show wpAny _ _ (call (Value.ref _) _) _ _ _); k_dflt (refine' con_useI ?zC ?zF ?zN ?zX ?zT ?zhA ?zhd ?zhu ?_); (case zC => first | (first | exact con_law_is_metric _ _ _ _ _ _ _ (by omega) (by omega) (by omega) (metricAt _ _ _) | exact con_law_is_similar _ _ _ _ _ _ (by omega) (by first | omega | decide +kernel) (similarAt _ _)) | exact con_law_sound _ _ _ (by with_reducible assumption) | exact con_distance _ _ _ _ _ _ _ _ _ _ _ (by omega) (by omega)); (case zF => k_asm); (case zN => k_asm); (case zX => k_asm); (case zT => k_asm); (case zhA => rfl); (case zhd => first | exact room_b (by with_reducible assumption) rfl | exact room_a (by with_reducible assumption) rfl | omega | (simp only [Around.deeper, Around.in1]; omega)); (case zhu => first | exact room_b (by with_reducible assumption) rfl | exact room_a (by with_reducible assumption) rfl | omega | (simp only [Around.deeper, Around.in1]; omega)); intro _ _ _ _ _; (try k_sweep); (try dsimp only)) | ((with_reducible show wpAny _ _ (call (Value.ref _) _) _ _ _); k_dflt (refine' con_useS ?zC ?zF ?zN ?zX ?zT ?zhA ?zhd ?zhu ?_); (case zC => first | (first | exact con_law_is_metric _ _ _ _ _ _ _ (by omega) (by omega) (by omega) (metricAt _ _ _) | exact con_law_is_similar _ _ _ _ _ _ (by omega) (by first | omega | decide +kernel) (similarAt _ _)) | exact con_law_sound _ _ _ (by with_reducible assumption) | exact con_distance _ _ _ _ _ _ _ _ _ _ _ (by omega) (by omega)); (case zF => k_asm); (case zN => k_asm); (case zX => k_asm); (case zT => k_asm); (case zhA => rfl); (case zhd => first | exact room_b (by with_reducible assumption) rfl | exact room_a (by with_reducible assumption) rfl | omega | (simp only [Around.deeper, Around.in1]; omega)); (case zhu => first | exact room_b (by with_reducible assumption) rfl | exact room_a (by with_reducible assumption) rfl | omega | (simp only [Around.deeper, Around.in1]; omega)); intro _ _ _ _ _; (try k_sweep); (try dsimp only)) | ((with_reducible show wpAny _ _ (call (Value.ref _) _) _ _ _); k_dflt (refine' con_useB ?zC ?zF ?zN ?zX ?zT ?zhA ?zhd ?zhu ?_); (case zC => first | (first | exact con_law_is_metric _ _ _ _ _ _ _ (by omega) (by omega) (by omega) (metricAt _ _ _) | exact con_law_is_similar _ _ _ _ _ _ (by omega) (by first | omega | decide +kernel) (similarAt _ _)) | exact con_law_sound _ _ _ (by with_reducible assumption) | exact con_distance _ _ _ _ _ _ _ _ _ _ _ (by omega) (by omega)); (case zF => k_asm); (case zN => k_asm); (case zX => k_asm); (case zT => k_asm); (case zhA => rfl); (case zhd => first | exact room_b (by with_reducible assumption) rfl | exact room_a (by with_reducible assumption) rfl | omega | (simp only [Around.deeper, Around.in1]; omega)); (case zhu => first | exact room_b (by with_reducible assumption) rfl | exact room_a (by with_reducible assumption) rfl | omega | (simp only [Around.deeper, Around.in1]; omega)); intro _ _ _ _; (try k_sweep); (try dsimp only)) | (k_unfold; (try dsimp only)) | (walk1; (try dsimp only)) | (dsimp only; walk1) | fail "no step"))
      refine my_text F1 N1 X T (fun o' => by tb_start) (by omega) (by decide) (by decide +kernel) rfl (by (first | exact room_b (by with_reducible assumption) rfl | exact room_a (by with_reducible assumption) rfl | omega | (simp only [Around.deeper, Around.in1]; omega))) (by (first | exact room_b (by with_reducible assumption) rfl | exact room_a (by with_reducible assumption) rfl | omega | (simp only [Around.deeper, Around.in1]; omega))) (fun xw tw n6 k6 t6 u6 e6 h' tk F3 N3 hxw hk7 hk8 => ?_)
      clear F1 N1
      (repeat' ((fail_if_success (with_reducible show wpAny _ _ (exec (Stmt.For _ _ _ _ _) _) _ _ _)); (fail_if_success (with_reducible show wpAny _ _ (exec (Stmt.While _ _ _ _) _) _ _ _)); (fail_if_success (with_reducible show wpAny _ _ (pyIter _) _ _ _)); (fail_if_success (with_reducible show wpAny _ _ (exec (Stmt.Assign _ (Expr.ListComp _ _ _ _) _) _) _ _ _)); (fail_if_success (with_reducible show wpAny _ _ (eval (Expr.ListComp _ _ _ _) _) _ _ _)); (fail_if_success (with_reducible show wpAny _ _ (call (Value.ref _) _) _ _ _)); (fail_if_success (with_reducible show wpAny _ _ (exec (Stmt.If _ _ _ _) _) _ _ _)); first | (((with_reducible show wpAny _ _ (call (Value.ref 142) _) _ _ _); k_dflt (refine' con_use1 (con_php_soundex _ _ _ _ _ _ ?zl1) ?zF ?zN ?zX ?zT ?zhl ?zU ?zhA ?zhd ?zhu ?_; (case zF => k_asm); (case zN => k_asm); (case zX => k_asm); (case zT => k_asm); (case zl1 => omega); (case zhl => rfl); (case zU => kwd_less); (case zhA => rfl); (case zhd => (first | exact room_b (by with_reducible assumption) rfl | exact room_a (by with_reducible assumption) rfl | omega | (simp only [Around.deeper, Around.in1]; omega))); (case zhu => (first | exact room_b (by with_reducible assumption) rfl | exact room_a (by with_reducible assumption) rfl | omega | (simp only [Around.deeper, Around.in1]; omega)))); intro _ _ _ _ _ r'; obtain ⟨t', e'⟩ := r'; subst e'); (try dsimp only)) | (((with_reducible show wpAny _ _ (call (Value.ref 303) _) _ _ _); k_dflt (refine' my_least ?zF ?zN ?zX ?zT ?zl1 ?zl2 ?zf1 ?zf2 ?zf3 ?zhA ?zhd ?zhu ?_; (case zF => k_asm); (case zN => k_asm); (case zX => k_asm); (case zT => k_asm); (case zl1 => first | omega | decide +kernel); (case zl2 => first | omega | decide +kernel); (case zf1 => rfl); (case zf2 => rfl); (case zf3 => exact (by decide : ScopeKind.function ≠ ScopeKind.module)); (case zhA => rfl); (case zhd => (first | exact room_b (by with_reducible assumption) rfl | exact room_a (by with_reducible assumption) rfl | omega | (simp only [Around.deeper, Around.in1]; omega))); (case zhu => (first | exact room_b (by with_reducible assumption) rfl | exact room_a (by with_reducible assumption) rfl | omega | (simp only [Around.deeper, Around.in1]; omega)))); intro _ _ _ _); (try dsimp only)) | (((with_reducible show wpAny _ _ (call (Value.ref 259) _) _ _ _); k_dflt (refine' my_host ?zF ?zN ?zX ?zT ?zhA ?zhd ?zhu ?_; (case zF => k_asm); (case zN => k_asm); (case zX => k_asm); (case zT => k_asm); (case zhA => rfl); (case zhd => (first | exact room_b (by with_reducible assumption) rfl | exact room_a (by with_reducible assumption) rfl | omega | (simp only [Around.deeper, Around.in1]; omega))); (case zhu => (first | exact room_b (by with_reducible assumption) rfl | exact room_a (by with_reducible assumption) rfl | omega | (simp only [Around.deeper, Around.in1]; omega)))); intro _ _ _ _ _ _ _ _ _ _; (try k_sweep)); (try dsimp only)) | (((with_reducible show wpAny _ _ (call (Value.ref 277) _) _ _ _); k_dflt (refine' my_take ?zF ?zN ?zX ?zT ?zU ?zhk ?zhm ?zhA ?zhd ?zhu ?_; (case zF => k_asm); (case zN => k_asm); (case zX => k_asm); (case zT => k_asm); (case zU => (intro _; tb_start)); (case zhk => ((try dsimp only); omega)); (case zhm => ((try dsimp only); omega)); (case zhA => rfl); (case zhd => (first | exact room_b (by with_reducible assumption) rfl | exact room_a (by with_reducible assumption) rfl | omega | (simp only [Around.deeper, Around.in1]; omega))); (case zhu => (first | exact room_b (by with_reducible assumption) rfl | exact room_a (by with_reducible assumption) rfl | omega | (simp only [Around.deeper, Around.in1]; omega)))); intro _ _ _ _ _ _ _ _ _ _ _ _; (try k_sweep)); (try dsimp only)) | ((with_reducible show wpAny _ _ (call (Value.ref _) _) _ _ _); k_dflt (refine' con_useI ?zC ?zF ?zN ?zX ?zT ?zhA ?zhd ?zhu ?_); (case zC => first | (first | exact con_law_is_metric _ _ _ _ _ _ _ (by omega) (by omega) (by omega) (metricAt _ _ _) | exact con_law_is_similar _ _ _ _ _ _ (by omega) (by first | omega | decide +kernel) (similarAt _ _)) | exact con_law_sound _ _ _ (by with_reducible assumption) | exact con_distance _ _ _ _ _ _ _ _ _ _ _ (by omega) (by omega)); (case zF => k_asm); (case zN => k_asm); (case zX => k_asm); (case zT => k_asm); (case zhA => rfl); (case zhd => first | exact room_b (by with_reducible assumption) rfl | exact room_a (by with_reducible assumption) rfl | omega | (simp only [Around.deeper, Around.in1]; omega)); (case zhu => first | exact room_b (by with_reducible assumption) rfl | exact room_a (by with_reducible assumption) rfl | omega | (simp only [Around.deeper, Around.in1]; omega)); intro _ _ _ _ _; (try k_sweep); (try dsimp only)) | ((with_reducible show wpAny _ _ (call (Value.ref _) _) _ _ _); k_dflt (refine' con_useS ?zC ?zF ?zN ?zX ?zT ?zhA ?zhd ?zhu ?_); (case zC => first | (first | exact con_law_is_metric _ _ _ _ _ _ _ (by omega) (by omega) (by omega) (metricAt _ _ _) | exact con_law_is_similar _ _ _ _ _ _ (by omega) (by first | omega | decide +kernel) (similarAt _ _)) | exact con_law_sound _ _ _ (by with_reducible assumption) | exact con_distance _ _ _ _ _ _ _ _ _ _ _ (by omega) (by omega)); (case zF => k_asm); (case zN => k_asm); (case zX => k_asm); (case zT => k_asm); (case zhA => rfl); (case zhd => first | exact room_b (by with_reducible assumption) rfl | exact room_a (by with_reducible assumption) rfl | omega | (simp only [Around.deeper, Around.in1]; omega)); (case zhu => first | exact room_b (by with_reducible assumption) rfl | exact room_a (by with_reducible assumption) rfl | omega | (simp only [Around.deeper, Around.in1]; omega)); intro _ _ _ _ _; (try k_sweep); (try dsimp only)) | ((with_reducible show wpAny _ _ (call (Value.ref _) _) _ _ _); k_dflt (refine' con_useB ?zC ?zF ?zN ?zX ?zT ?zhA ?zhd ?zhu ?_); (case zC => first | (first | exact con_law_is_metric _ _ _ _ _ _ _ (by omega) (by omega) (by omega) (metricAt _ _ _) | exact con_law_is_similar _ _ _ _ _ _ (by omega) (by first | omega | decide +kernel) (similarAt _ _)) | exact con_law_sound _ _ _ (by with_reducible assumption) | exact con_distance _ _ _ _ _ _ _ _ _ _ _ (by omega) (by omega)); (case zF => k_asm); (case zN => k_asm); (case zX => k_asm); (case zT => k_asm); (case zhA => rfl); (case zhd => first | exact room_b (by with_reducible assumption) rfl | exact room_a (by with_reducible assumption) rfl | omega | (simp only [Around.deeper, Around.in1]; omega)); (case zhu => first | exact room_b (by with_reducible assumption) rfl | exact room_a (by with_reducible assumption) rfl | omega | (simp only [Around.deeper, Around.in1]; omega)); intro _ _ _ _; (try k_sweep); (try dsimp only)) | (k_unfold; (try dsimp only)) | (walk1; (try dsimp only)) | (dsimp only; walk1) | fail "no step"))
      try clear F3 N3
      refine For_invV g rfl rfl ?_
      (repeat' ((fail_if_success (with_reducible show wpAny _ _ (exec (Stmt.For _ _ _ _ _) _) _ _ _)); (fail_if_success (with_reducible show wpAny _ _ (exec (Stmt.While _ _ _ _) _) _ _ _)); (fail_if_success (with_reducible show wpAny _ _ (pyIter _) _ _ _)); (fail_if_success (with_reducible show wpAny _ _ (exec (Stmt.Assign _ (Expr.ListComp _ _ _ _) _) _) _ _ _)); (fail_if_success (with_reducible show wpAny _ _ (eval (Expr.ListComp _ _ _ _) _) _ _ _)); (fail_if_success (with_reducible show wpAny _ _ (call (Value.ref _) _) _ _ _)); (fail_if_success (with_reducible show wpAny _ _ (exec (Stmt.If _ _ _ _) _) _ _ _)); first | (((with_reducible show wpAny _ _ (call (Value.ref 142) _) _ _ _); k_dflt (refine' con_use1 (con_php_soundex _ _ _ _ _ _ ?zl1) ?zF ?zN ?zX ?zT ?zhl ?zU ?zhA ?zhd ?zhu ?_; (case zF => k_asm); (case zN => k_asm); (case zX => k_asm); (case zT => k_asm); (case zl1 => omega); (case zhl => rfl); (case zU => kwd_less); (case zhA => rfl); (case zhd => (first | exact room_b (by with_reducible assumption) rfl | exact room_a (by with_reducible assumption) rfl | omega | (simp only [Around.deeper, Around.in1]; omega))); (case zhu => (first | exact room_b (by with_reducible assumption) rfl | exact room_a (by with_reducible assumption) rfl | omega | (simp only [Around.deeper, Around.in1]; omega)))); intro _ _ _ _ _ r'; obtain ⟨t', e'⟩ := r'; subst e'); (try dsimp only)) | (((with_reducible show wpAny _ _ (call (Value.ref 303) _) _ _ _); k_dflt (refine' my_least ?zF ?zN ?zX ?zT ?zl1 ?zl2 ?zf1 ?zf2 ?zf3 ?zhA ?zhd ?zhu ?_; (case zF => k_asm); (case zN => k_asm); (case zX => k_asm); (case zT => k_asm); (case zl1 => first | omega | decide +kernel); (case zl2 => first | omega | decide +kernel); (case zf1 => rfl); (case zf2 => rfl); (case zf3 => exact (by decide : ScopeKind.function ≠ ScopeKind.module)); (case zhA => rfl); (case zhd => (first | exact room_b (by with_reducible assumption) rfl | exact room_a (by with_reducible assumption) rfl | omega | (simp only [Around.deeper, Around.in1]; omega))); (case zhu => (first | exact room_b (by with_reducible assumption) rfl | exact room_a (by with_reducible assumption) rfl | omega | (simp only [Around.deeper, Around.in1]; omega)))); intro _ _ _ _); (try dsimp only)) | (((with_reducible show wpAny _ _ (call (Value.ref 259) _) _ _ _); k_dflt (refine' my_host ?zF ?zN ?zX ?zT ?zhA ?zhd ?zhu ?_; (case zF => k_asm); (case zN => k_asm); (case zX => k_asm); (case zT => k_asm); (case zhA => rfl); (case zhd => (first | exact room_b (by with_reducible assumption) rfl | exact room_a (by with_reducible assumption) rfl | omega | (simp only [Around.deeper, Around.in1]; omega))); (case zhu => (first | exact room_b (by with_reducible assumption) rfl | exact room_a (by with_reducible assumption) rfl | omega | (simp only [Around.deeper, Around.in1]; omega)))); intro _ _ _ _ _ _ _ _ _ _; (try k_sweep)); (try dsimp only)) | (((with_reducible show wpAny _ _ (call (Value.ref 277) _) _ _ _); k_dflt (refine' my_take ?zF ?zN ?zX ?zT ?zU ?zhk ?zhm ?zhA ?zhd ?zhu ?_; (case zF => k_asm); (case zN => k_asm); (case zX => k_asm); (case zT => k_asm); (case zU => (intro _; tb_start)); (case zhk => ((try dsimp only); omega)); (case zhm => ((try dsimp only); omega)); (case zhA => rfl); (case zhd => (first | exact room_b (by with_reducible assumption) rfl | exact room_a (by with_reducible assumption) rfl | omega | (simp only [Around.deeper, Around.in1]; omega))); (case zhu => (first | exact room_b (by with_reducible assumption) rfl | exact room_a (by with_reducible assumption) rfl | omega | (simp only [Around.deeper, Around.in1]; omega)))); intro _ _ _ _ _ _ _ _ _ _ _ _; (try k_sweep)); (try dsimp only)) | ((with_reducible show wpAny _ _ (call (Value.ref _) _) _ _ _); k_dflt (refine' con_useI ?zC ?zF ?zN ?zX ?zT ?zhA ?zhd ?zhu ?_); (case zC => first | (first | exact con_law_is_metric _ _ _ _ _ _ _ (by omega) (by omega) (by omega) (metricAt _ _ _) | exact con_law_is_similar _ _ _ _ _ _ (by omega) (by first | omega | decide +kernel) (similarAt _ _)) | exact con_law_sound _ _ _ (by with_reducible assumption) | exact con_distance _ _ _ _ _ _ _ _ _ _ _ (by omega) (by omega)); (case zF => k_asm); (case zN => k_asm); (case zX => k_asm); (case zT => k_asm); (case zhA => rfl); (case zhd => first | exact room_b (by with_reducible assumption) rfl | exact room_a (by with_reducible assumption) rfl | omega | (simp only [Around.deeper, Around.in1]; omega)); (case zhu => first | exact room_b (by with_reducible assumption) rfl | exact room_a (by with_reducible assumption) rfl | omega | (simp only [Around.deeper, Around.in1]; omega)); intro _ _ _ _ _; (try k_sweep); (try dsimp only)) | ((with_reducible show wpAny _ _ (call (Value.ref _) _) _ _ _); k_dflt (refine' con_useS ?zC ?zF ?zN ?zX ?zT ?zhA ?zhd ?zhu ?_); (case zC => first | (first | exact con_law_is_metric _ _ _ _ _ _ _ (by omega) (by omega) (by omega) (metricAt _ _ _) | exact con_law_is_similar _ _ _ _ _ _ (by omega) (by first | omega | decide +kernel) (similarAt _ _)) | exact con_law_sound _ _ _ (by with_reducible assumption) | exact con_distance _ _ _ _ _ _ _ _ _ _ _ (by omega) (by omega)); (case zF => k_asm); (case zN => k_asm); (case zX => k_asm); (case zT => k_asm); (case zhA => rfl); (case zhd => first | exact room_b (by with_reducible assumption) rfl | exact room_a (by with_reducible assumption) rfl | omega | (simp only [Around.deeper, Around.in1]; omega)); (case zhu => first | exact room_b (by with_reducible assumption) rfl | exact room_a (by with_reducible assumption) rfl | omega | (simp only [Around.deeper, Around.in1]; omega)); intro _ _ _ _ _; (try k_sweep); (try dsimp only)) | ((with_reducible show wpAny _ _ (call (Value.ref _) _) _ _ _); k_dflt (refine' con_useB ?zC ?zF ?zN ?zX ?zT ?zhA ?zhd ?zhu ?_); (case zC => first | (first | exact con_law_is_metric _ _ _ _ _ _ _ (by omega) (by omega) (by omega) (metricAt _ _ _) | exact con_law_is_similar _ _ _ _ _ _ (by omega) (by first | omega | decide +kernel) (similarAt _ _)) | exact con_law_sound _ _ _ (by with_reducible assumption) | exact con_distance _ _ _ _ _ _ _ _ _ _ _ (by omega) (by omega)); (case zF => k_asm); (case zN => k_asm); (case zX => k_asm); (case zT => k_asm); (case zhA => rfl); (case zhd => first | exact room_b (by with_reducible assumption) rfl | exact room_a (by with_reducible assumption) rfl | omega | (simp only [Around.deeper, Around.in1]; omega)); (case zhu => first | exact room_b (by with_reducible assumption) rfl | exact room_a (by with_reducible assumption) rfl | omega | (simp only [Around.deeper, Around.in1]; omega)); intro _ _ _ _; (try k_sweep); (try dsimp only)) | (k_unfold; (try dsimp only)) | (walk1; (try dsimp only)) | (dsimp only; walk1) | fail "no step"))
      rename Fr _ _ _ _ => F1
      rename News _ _ _ _ => N1
      rename_i T6 _ _ _
      rename Heap => hh
      obtain ⟨items, N0, hit⟩ : ∃ items : Array Value, News g L hh ((T6, tupOf items 0) :: [(P3, penO n6 k6 t6 u6 e6), (x, instObj 259 dx), (l, listOf #[] 0), (dx, dictOf es n), (D, listOf ws.toArray 0), (L + 1, o3)]) ∧ ∀ v ∈ items.toList, ∃ (y : Str) (ty : Tok), v = .str y ty ∧ y.length < 50 := by
        refine ⟨_, N1, fun v hv => ?_⟩
        simp only [List.mem_cons, List.not_mem_nil, or_false] at hv
        rcases hv with h | h | h | h | h | h
        · exact ⟨_, _, h, by omega⟩
        all_goals exact ⟨_, _, h, by decide +kernel⟩
      refine m_for_tup (σ := Unit) (l := T6) (items := items) (nn := 0) (fun _ => []) (fun _ => [(Str.ofString "host", .ref x)]) (fun _ _ => True) [(T6, tupOf items 0), (x, instObj 259 dx), (l, listOf #[] 0), (dx, dictOf es n)] rfl F1 N0 ?kn List.mem_cons_self ⟨(), sub_nil, ⟨rfl, trivial⟩, trivial⟩ (fun _ _ _ => trivial) ?turn ?done
      case kn => (repeat' (first | exact sub_nil | refine sub_cons (by (first | exact List.mem_cons_self | exact List.mem_cons_of_mem _ List.mem_cons_self | exact List.mem_cons_of_mem _ (List.mem_cons_of_mem _ List.mem_cons_self) | exact List.mem_cons_of_mem _ (List.mem_cons_of_mem _ (List.mem_cons_of_mem _ List.mem_cons_self)) | exact List.mem_cons_of_mem _ (List.mem_cons_of_mem _ (List.mem_cons_of_mem _ (List.mem_cons_of_mem _ List.mem_cons_self))) | exact List.mem_cons_of_mem _ (List.mem_cons_of_mem _ (List.mem_cons_of_mem _ (List.mem_cons_of_mem _ (List.mem_cons_of_mem _ List.mem_cons_self)))) | exact List.mem_cons_of_mem _ (List.mem_cons_of_mem _ (List.mem_cons_of_mem _ (List.mem_cons_of_mem _ (List.mem_cons_of_mem _ (List.mem_cons_of_mem _ List.mem_cons_self))))) | exact List.mem_cons_of_mem _ (List.mem_cons_of_mem _ (List.mem_cons_of_mem _ (List.mem_cons_of_mem _ (List.mem_cons_of_mem _ (List.mem_cons_of_mem _ (List.mem_cons_of_mem _ List.mem_cons_self)))))) | exact List.mem_cons_of_mem _ (List.mem_cons_of_mem _ (List.mem_cons_of_mem _ (List.mem_cons_of_mem _ (List.mem_cons_of_mem _ (List.mem_cons_of_mem _ (List.mem_cons_of_mem _ (List.mem_cons_of_mem _ List.mem_cons_self))))))))) ?_))
      case turn =>
        rintro i v c0 u h tk own hv - hs hk F' N'
        obtain ⟨y, ty, rfl, hy⟩ : ∃ (y : Str) (ty : Tok), v = .str y ty ∧ y.length < 50 := by
          refine hit v ?_
          have hv' : items.toList[i]? = some v := by simpa using hv
          exact List.mem_of_getElem? hv'
        clear F1 N1 N0
        simp only [List.nil_append] at N'
        dsimp only [kstB] at F'
        (try k_fold)
        (repeat' ((fail_if_success (with_reducible show wpAny _ _ (exec (Stmt.For _ _ _ _ _) _) _ _ _)); (fail_if_success (with_reducible show wpAny _ _ (exec (Stmt.While _ _ _ _) _) _ _ _)); (fail_if_success (with_reducible show wpAny _ _ (pyIter _) _ _ _)); (fail_if_success (with_reducible show wpAny _ _ (exec (Stmt.Assign _ (Expr.ListComp _ _ _ _) _) _) _ _ _)); (fail_if_success (with_reducible show wpAny _ _ (eval (Expr.ListComp _ _ _ _) _) _ _ _)); first | (((with_reducible show wpAny _ _ (call (Value.ref 142) _) _ _ _); k_dflt (refine' con_use1 (con_php_soundex _ _ _ _ _ _ ?zl1) ?zF ?zN ?zX ?zT ?zhl ?zU ?zhA ?zhd ?zhu ?_; (case zF => k_asm); (case zN => k_asm); (case zX => k_asm); (case zT => k_asm); (case zl1 => omega); (case zhl => rfl); (case zU => kwd_less); (case zhA => rfl); (case zhd => (first | exact room_b (by with_reducible assumption) rfl | exact room_a (by with_reducible assumption) rfl | omega | (simp only [Around.deeper, Around.in1]; omega))); (case zhu => (first | exact room_b (by with_reducible assumption) rfl | exact room_a (by with_reducible assumption) rfl | omega | (simp only [Around.deeper, Around.in1]; omega)))); intro _ _ _ _ _ r'; obtain ⟨t', e'⟩ := r'; subst e'); (try dsimp only)) | (((with_reducible show wpAny _ _ (call (Value.ref 303) _) _ _ _); k_dflt (refine' my_least ?zF ?zN ?zX ?zT ?zl1 ?zl2 ?zf1 ?zf2 ?zf3 ?zhA ?zhd ?zhu ?_; (case zF => k_asm); (case zN => k_asm); (case zX => k_asm); (case zT => k_asm); (case zl1 => first | omega | decide +kernel); (case zl2 => first | omega | decide +kernel); (case zf1 => rfl); (case zf2 => rfl); (case zf3 => exact (by decide : ScopeKind.function ≠ ScopeKind.module)); (case zhA => rfl); (case zhd => (first | exact room_b (by with_reducible assumption) rfl | exact room_a (by with_reducible assumption) rfl | omega | (simp only [Around.deeper, Around.in1]; omega))); (case zhu => (first | exact room_b (by with_reducible assumption) rfl | exact room_a (by with_reducible assumption) rfl | omega | (simp only [Around.deeper, Around.in1]; omega)))); intro _ _ _ _); (try dsimp only)) | (((with_reducible show wpAny _ _ (call (Value.ref 259) _) _ _ _); k_dflt (refine' my_host ?zF ?zN ?zX ?zT ?zhA ?zhd ?zhu ?_; (case zF => k_asm); (case zN => k_asm); (case zX => k_asm); (case zT => k_asm); (case zhA => rfl); (case zhd => (first | exact room_b (by with_reducible assumption) rfl | exact room_a (by with_reducible assumption) rfl | omega | (simp only [Around.deeper, Around.in1]; omega))); (case zhu => (first | exact room_b (by with_reducible assumption) rfl | exact room_a (by with_reducible assumption) rfl | omega | (simp only [Around.deeper, Around.in1]; omega)))); intro _ _ _ _ _ _ _ _ _ _; (try k_sweep)); (try dsimp only)) | (((with_reducible show wpAny _ _ (call (Value.ref 277) _) _ _ _); k_dflt (refine' my_take ?zF ?zN ?zX ?zT ?zU ?zhk ?zhm ?zhA ?zhd ?zhu ?_; (case zF => k_asm); (case zN => k_asm); (case zX => k_asm); (case zT => k_asm); (case zU => (intro _; tb_start)); (case zhk => ((try dsimp only); omega)); (case zhm => ((try dsimp only); omega)); (case zhA => rfl); (case zhd => (first | exact room_b (by with_reducible assumption) rfl | exact room_a (by with_reducible assumption) rfl | omega | (simp only [Around.deeper, Around.in1]; omega))); (case zhu => (first | exact room_b (by with_reducible assumption) rfl | exact room_a (by with_reducible assumption) rfl | omega | (simp only [Around.deeper, Around.in1]; omega)))); intro _ _ _ _ _ _ _ _ _ _ _ _; (try k_sweep)); (try dsimp only)) | ((with_reducible show wpAny _ _ (call (Value.ref _) _) _ _ _); k_dflt (refine' con_useI ?zC ?zF ?zN ?zX ?zT ?zhA ?zhd ?zhu ?_); (case zC => first | (first | exact con_law_is_metric _ _ _ _ _ _ _ (by omega) (by omega) (by omega) (metricAt _ _ _) | exact con_law_is_similar _ _ _ _ _ _ (by omega) (by first | omega | decide +kernel) (similarAt _ _)) | exact con_law_sound _ _ _ (by with_reducible assumption) | exact con_distance _ _ _ _ _ _ _ _ _ _ _ (by omega) (by omega)); (case zF => k_asm); (case zN => k_asm); (case zX => k_asm); (case zT => k_asm); (case zhA => rfl); (case zhd => first | exact room_b (by with_reducible assumption) rfl | exact room_a (by with_reducible assumption) rfl | omega | (simp only [Around.deeper, Around.in1]; omega)); (case zhu => first | exact room_b (by with_reducible assumption) rfl | exact room_a (by with_reducible assumption) rfl | omega | (simp only [Around.deeper, Around.in1]; omega)); intro _ _ _ _ _; (try k_sweep); (try dsimp only)) | ((with_reducible show wpAny _ _ (call (Value.ref _) _) _ _ _); k_dflt (refine' con_useS ?zC ?zF ?zN ?zX ?zT ?zhA ?zhd ?zhu ?_); (case zC => first | (first | exact con_law_is_metric _ _ _ _ _ _ _ (by omega) (by omega) (by omega) (metricAt _ _ _) | exact con_law_is_similar _ _ _ _ _ _ (by omega) (by first | omega | decide +kernel) (similarAt _ _)) | exact con_law_sound _ _ _ (by with_reducible assumption) | exact con_distance _ _ _ _ _ _ _ _ _ _ _ (by omega) (by omega)); (case zF => k_asm); (case zN => k_asm); (case zX => k_asm); (case zT => k_asm); (case zhA => rfl); (case zhd => first | exact room_b (by with_reducible assumption) rfl | exact room_a (by with_reducible assumption) rfl | omega | (simp only [Around.deeper, Around.in1]; omega)); (case zhu => first | exact room_b (by with_reducible assumption) rfl | exact room_a (by with_reducible assumption) rfl | omega | (simp only [Around.deeper, Around.in1]; omega)); intro _ _ _ _ _; (try k_sweep); (try dsimp only)) | ((with_reducible show wpAny _ _ (call (Value.ref _) _) _ _ _); k_dflt (refine' con_useB ?zC ?zF ?zN ?zX ?zT ?zhA ?zhd ?zhu ?_); (case zC => first | (first | exact con_law_is_metric _ _ _ _ _ _ _ (by omega) (by omega) (by omega) (metricAt _ _ _) | exact con_law_is_similar _ _ _ _ _ _ (by omega) (by first | omega | decide +kernel) (similarAt _ _)) | exact con_law_sound _ _ _ (by with_reducible assumption) | exact con_distance _ _ _ _ _ _ _ _ _ _ _ (by omega) (by omega)); (case zF => k_asm); (case zN => k_asm); (case zX => k_asm); (case zT => k_asm); (case zhA => rfl); (case zhd => first | exact room_b (by with_reducible assumption) rfl | exact room_a (by with_reducible assumption) rfl | omega | (simp only [Around.deeper, Around.in1]; omega)); (case zhu => first | exact room_b (by with_reducible assumption) rfl | exact room_a (by with_reducible assumption) rfl | omega | (simp only [Around.deeper, Around.in1]; omega)); intro _ _ _ _; (try k_sweep); (try dsimp only)) | (k_unfold; (try dsimp only)) | (walk1; (try dsimp only)) | (dsimp only; walk1) | fail "no step"))
        · rename (_ != _) = true => eX
          rw [str_ne] at eX
          simp at eX
        · exact ForEnd.intro () (by assumption) (by assumption) sub_nil sub_rfl ⟨rfl, trivial⟩ trivial
      case done =>
        rintro c0 u h tk - F' N'
        clear F1 N1 N0
        simp only [List.nil_append] at N'
        dsimp only [kstB] at F'
        (repeat' ((fail_if_success (with_reducible show wpAny _ _ (exec (Stmt.For _ _ _ _ _) _) _ _ _)); (fail_if_success (with_reducible show wpAny _ _ (exec (Stmt.While _ _ _ _) _) _ _ _)); (fail_if_success (with_reducible show wpAny _ _ (pyIter _) _ _ _)); (fail_if_success (with_reducible show wpAny _ _ (exec (Stmt.Assign _ (Expr.ListComp _ _ _ _) _) _) _ _ _)); (fail_if_success (with_reducible show wpAny _ _ (eval (Expr.ListComp _ _ _ _) _) _ _ _)); (fail_if_success (with_reducible show wpAny _ _ (call (Value.ref _) _) _ _ _)); (fail_if_success (with_reducible show wpAny _ _ (exec (Stmt.If _ _ _ _) _) _ _ _)); first | (((with_reducible show wpAny _ _ (call (Value.ref 142) _) _ _ _); k_dflt (refine' con_use1 (con_php_soundex _ _ _ _ _ _ ?zl1) ?zF ?zN ?zX ?zT ?zhl ?zU ?zhA ?zhd ?zhu ?_; (case zF => k_asm); (case zN => k_asm); (case zX => k_asm); (case zT => k_asm); (case zl1 => omega); (case zhl => rfl); (case zU => kwd_less); (case zhA => rfl); (case zhd => (first | exact room_b (by with_reducible assumption) rfl | exact room_a (by with_reducible assumption) rfl | omega | (simp only [Around.deeper, Around.in1]; omega))); (case zhu => (first | exact room_b (by with_reducible assumption) rfl | exact room_a (by with_reducible assumption) rfl | omega | (simp only [Around.deeper, Around.in1]; omega)))); intro _ _ _ _ _ r'; obtain ⟨t', e'⟩ := r'; subst e'); (try dsimp only)) | (((with_reducible show wpAny _ _ (call (Value.ref 303) _) _ _ _); k_dflt (refine' my_least ?zF ?zN ?zX ?zT ?zl1 ?zl2 ?zf1 ?zf2 ?zf3 ?zhA ?zhd ?zhu ?_; (case zF => k_asm); (case zN => k_asm); (case zX => k_asm); (case zT => k_asm); (case zl1 => first | omega | decide +kernel); (case zl2 => first | omega | decide +kernel); (case zf1 => rfl); (case zf2 => rfl); (case zf3 => exact (by decide : ScopeKind.function ≠ ScopeKind.module)); (case zhA => rfl); (case zhd => (first | exact room_b (by with_reducible assumption) rfl | exact room_a (by with_reducible assumption) rfl | omega | (simp only [Around.deeper, Around.in1]; omega))); (case zhu => (first | exact room_b (by with_reducible assumption) rfl | exact room_a (by with_reducible assumption) rfl | omega | (simp only [Around.deeper, Around.in1]; omega)))); intro _ _ _ _); (try dsimp only)) | (((with_reducible show wpAny _ _ (call (Value.ref 259) _) _ _ _); k_dflt (refine' my_host ?zF ?zN ?zX ?zT ?zhA ?zhd ?zhu ?_; (case zF => k_asm); (case zN => k_asm); (case zX => k_asm); (case zT => k_asm); (case zhA => rfl); (case zhd => (first | exact room_b (by with_reducible assumption) rfl | exact room_a (by with_reducible assumption) rfl | omega | (simp only [Around.deeper, Around.in1]; omega))); (case zhu => (first | exact room_b (by with_reducible assumption) rfl | exact room_a (by with_reducible assumption) rfl | omega | (simp only [Around.deeper, Around.in1]; omega)))); intro _ _ _ _ _ _ _ _ _ _; (try k_sweep)); (try dsimp only)) | (((with_reducible show wpAny _ _ (call (Value.ref 277) _) _ _ _); k_dflt (refine' my_take ?zF ?zN ?zX ?zT ?zU ?zhk ?zhm ?zhA ?zhd ?zhu ?_; (case zF => k_asm); (case zN => k_asm); (case zX => k_asm); (case zT => k_asm); (case zU => (intro _; tb_start)); (case zhk => ((try dsimp only); omega)); (case zhm => ((try dsimp only); omega)); (case zhA => rfl); (case zhd => (first | exact room_b (by with_reducible assumption) rfl | exact room_a (by with_reducible assumption) rfl | omega | (simp only [Around.deeper, Around.in1]; omega))); (case zhu => (first | exact room_b (by with_reducible assumption) rfl | exact room_a (by with_reducible assumption) rfl | omega | (simp only [Around.deeper, Around.in1]; omega)))); intro _ _ _ _ _ _ _ _ _ _ _ _; (try k_sweep)); (try dsimp only)) | ((with_reducible show wpAny _ _ (call (Value.ref _) _) _ _ _); k_dflt (refine' con_useI ?zC ?zF ?zN ?zX ?zT ?zhA ?zhd ?zhu ?_); (case zC => first | (first | exact con_law_is_metric _ _ _ _ _ _ _ (by omega) (by omega) (by omega) (metricAt _ _ _) | exact con_law_is_similar _ _ _ _ _ _ (by omega) (by first | omega | decide +kernel) (similarAt _ _)) | exact con_law_sound _ _ _ (by with_reducible assumption) | exact con_distance _ _ _ _ _ _ _ _ _ _ _ (by omega) (by omega)); (case zF => k_asm); (case zN => k_asm); (case zX => k_asm); (case zT => k_asm); (case zhA => rfl); (case zhd => first | exact room_b (by with_reducible assumption) rfl | exact room_a (by with_reducible assumption) rfl | omega | (simp only [Around.deeper, Around.in1]; omega)); (case zhu => first | exact room_b (by with_reducible assumption) rfl | exact room_a (by with_reducible assumption) rfl | omega | (simp only [Around.deeper, Around.in1]; omega)); intro _ _ _ _ _; (try k_sweep); (try dsimp only)) | ((with_reducible show wpAny _ _ (call (Value.ref _) _) _ _ _); k_dflt (refine' con_useS ?zC ?zF ?zN ?zX ?zT ?zhA ?zhd ?zhu ?_); (case zC => first | (first | exact con_law_is_metric _ _ _ _ _ _ _ (by omega) (by omega) (by omega) (metricAt _ _ _) | exact con_law_is_similar _ _ _ _ _ _ (by omega) (by first | omega | decide +kernel) (similarAt _ _)) | exact con_law_sound _ _ _ (by with_reducible assumption) | exact con_distance _ _ _ _ _ _ _ _ _ _ _ (by omega) (by omega)); (case zF => k_asm); (case zN => k_asm); (case zX => k_asm); (case zT => k_asm); (case zhA => rfl); (case zhd => first | exact room_b (by with_reducible assumption) rfl | exact room_a (by with_reducible assumption) rfl | omega | (simp only [Around.deeper, Around.in1]; omega)); (case zhu => first | exact room_b (by with_reducible assumption) rfl | exact room_a (by with_reducible assumption) rfl | omega | (simp only [Around.deeper, Around.in1]; omega)); intro _ _ _ _ _; (try k_sweep); (try dsimp only)) | ((with_reducible show wpAny _ _ (call (Value.ref _) _) _ _ _); k_dflt (refine' con_useB ?zC ?zF ?zN ?zX ?zT ?zhA ?zhd ?zhu ?_); (case zC => first | (first | exact con_law_is_metric _ _ _ _ _ _ _ (by omega) (by omega) (by omega) (metricAt _ _ _) | exact con_law_is_similar _ _ _ _ _ _ (by omega) (by first | omega | decide +kernel) (similarAt _ _)) | exact con_law_sound _ _ _ (by with_reducible assumption) | exact con_distance _ _ _ _ _ _ _ _ _ _ _ (by omega) (by omega)); (case zF => k_asm); (case zN => k_asm); (case zX => k_asm); (case zT => k_asm); (case zhA => rfl); (case zhd => first | exact room_b (by with_reducible assumption) rfl | exact room_a (by with_reducible assumption) rfl | omega | (simp only [Around.deeper, Around.in1]; omega)); (case zhu => first | exact room_b (by with_reducible assumption) rfl | exact room_a (by with_reducible assumption) rfl | omega | (simp only [Around.deeper, Around.in1]; omega)); intro _ _ _ _; (try k_sweep); (try dsimp only)) | (k_unfold; (try dsimp only)) | (walk1; (try dsimp only)) | (dsimp only; walk1) | fail "no step"))
        refine' get_own (n := n) (es := es) F' X (InstAt.of_news N' (by k_mem) (by k_mem)) ?k4 ?k5 ?k6 ?k7 hg ?k9 ?_
        case k4 => k_is
        case k5 => k_is
        case k6 => k_is
        case k7 => k_is
        case k9 => k_handed
        (repeat' ((fail_if_success (with_reducible show wpAny _ _ (exec (Stmt.For _ _ _ _ _) _) _ _ _)); (fail_if_success (with_reducible show wpAny _ _ (exec (Stmt.While _ _ _ _) _) _ _ _)); (fail_if_success (with_reducible show wpAny _ _ (pyIter _) _ _ _)); (fail_if_success (with_reducible show wpAny _ _ (exec (Stmt.Assign _ (Expr.ListComp _ _ _ _) _) _) _ _ _)); (fail_if_success (with_reducible show wpAny _ _ (eval (Expr.ListComp _ _ _ _) _) _ _ _)); (fail_if_success (with_reducible show wpAny _ _ (exec (Stmt.If _ _ _ _) _) _ _ _)); first | (((with_reducible show wpAny _ _ (call (Value.ref 142) _) _ _ _); k_dflt (refine' con_use1 (con_php_soundex _ _ _ _ _ _ ?zl1) ?zF ?zN ?zX ?zT ?zhl ?zU ?zhA ?zhd ?zhu ?_; (case zF => k_asm); (case zN => k_asm); (case zX => k_asm); (case zT => k_asm); (case zl1 => omega); (case zhl => rfl); (case zU => kwd_less); (case zhA => rfl); (case zhd => (first | exact room_b (by with_reducible assumption) rfl | exact room_a (by with_reducible assumption) rfl | omega | (simp only [Around.deeper, Around.in1]; omega))); (case zhu => (first | exact room_b (by with_reducible assumption) rfl | exact room_a (by with_reducible assumption) rfl | omega | (simp only [Around.deeper, Around.in1]; omega)))); intro _ _ _ _ _ r'; obtain ⟨t', e'⟩ := r'; subst e'); (try dsimp only)) | (((with_reducible show wpAny _ _ (call (Value.ref 303) _) _ _ _); k_dflt (refine' my_least ?zF ?zN ?zX ?zT ?zl1 ?zl2 ?zf1 ?zf2 ?zf3 ?zhA ?zhd ?zhu ?_; (case zF => k_asm); (case zN => k_asm); (case zX => k_asm); (case zT => k_asm); (case zl1 => first | omega | decide +kernel); (case zl2 => first | omega | decide +kernel); (case zf1 => rfl); (case zf2 => rfl); (case zf3 => exact (by decide : ScopeKind.function ≠ ScopeKind.module)); (case zhA => rfl); (case zhd => (first | exact room_b (by with_reducible assumption) rfl | exact room_a (by with_reducible assumption) rfl | omega | (simp only [Around.deeper, Around.in1]; omega))); (case zhu => (first | exact room_b (by with_reducible assumption) rfl | exact room_a (by with_reducible assumption) rfl | omega | (simp only [Around.deeper, Around.in1]; omega)))); intro _ _ _ _); (try dsimp only)) | (((with_reducible show wpAny _ _ (call (Value.ref 259) _) _ _ _); k_dflt (refine' my_host ?zF ?zN ?zX ?zT ?zhA ?zhd ?zhu ?_; (case zF => k_asm); (case zN => k_asm); (case zX => k_asm); (case zT => k_asm); (case zhA => rfl); (case zhd => (first | exact room_b (by with_reducible assumption) rfl | exact room_a (by with_reducible assumption) rfl | omega | (simp only [Around.deeper, Around.in1]; omega))); (case zhu => (first | exact room_b (by with_reducible assumption) rfl | exact room_a (by with_reducible assumption) rfl | omega | (simp only [Around.deeper, Around.in1]; omega)))); intro _ _ _ _ _ _ _ _ _ _; (try k_sweep)); (try dsimp only)) | (((with_reducible show wpAny _ _ (call (Value.ref 277) _) _ _ _); k_dflt (refine' my_take ?zF ?zN ?zX ?zT ?zU ?zhk ?zhm ?zhA ?zhd ?zhu ?_; (case zF => k_asm); (case zN => k_asm); (case zX => k_asm); (case zT => k_asm); (case zU => (intro _; tb_start)); (case zhk => ((try dsimp only); omega)); (case zhm => ((try dsimp only); omega)); (case zhA => rfl); (case zhd => (first | exact room_b (by with_reducible assumption) rfl | exact room_a (by with_reducible assumption) rfl | omega | (simp only [Around.deeper, Around.in1]; omega))); (case zhu => (first | exact room_b (by with_reducible assumption) rfl | exact room_a (by with_reducible assumption) rfl | omega | (simp only [Around.deeper, Around.in1]; omega)))); intro _ _ _ _ _ _ _ _ _ _ _ _; (try k_sweep)); (try dsimp only)) | ((with_reducible show wpAny _ _ (call (Value.ref _) _) _ _ _); k_dflt (refine' con_useI ?zC ?zF ?zN ?zX ?zT ?zhA ?zhd ?zhu ?_); (case zC => first | (first | exact con_law_is_metric _ _ _ _ _ _ _ (by omega) (by omega) (by omega) (metricAt _ _ _) | exact con_law_is_similar _ _ _ _ _ _ (by omega) (by first | omega | decide +kernel) (similarAt _ _)) | exact con_law_sound _ _ _ (by with_reducible assumption) | exact con_distance _ _ _ _ _ _ _ _ _ _ _ (by omega) (by omega)); (case zF => k_asm); (case zN => k_asm); (case zX => k_asm); (case zT => k_asm); (case zhA => rfl); (case zhd => first | exact room_b (by with_reducible assumption) rfl | exact room_a (by with_reducible assumption) rfl | omega | (simp only [Around.deeper, Around.in1]; omega)); (case zhu => first | exact room_b (by with_reducible assumption) rfl | exact room_a (by with_reducible assumption) rfl | omega | (simp only [Around.deeper, Around.in1]; omega)); intro _ _ _ _ _; (try k_sweep); (try dsimp only)) | ((with_reducible show wpAny _ _ (call (Value.ref _) _) _ _ _); k_dflt (refine' con_useS ?zC ?zF ?zN ?zX ?zT ?zhA ?zhd ?zhu ?_); (case zC => first | (first | exact con_law_is_metric _ _ _ _ _ _ _ (by omega) (by omega) (by omega) (metricAt _ _ _) | exact con_law_is_similar _ _ _ _ _ _ (by omega) (by first | omega | decide +kernel) (similarAt _ _)) | exact con_law_sound _ _ _ (by with_reducible assumption) | exact con_distance _ _ _ _ _ _ _ _ _ _ _ (by omega) (by omega)); (case zF => k_asm); (case zN => k_asm); (case zX => k_asm); (case zT => k_asm); (case zhA => rfl); (case zhd => first | exact room_b (by with_reducible assumption) rfl | exact room_a (by with_reducible assumption) rfl | omega | (simp only [Around.deeper, Around.in1]; omega)); (case zhu => first | exact room_b (by with_reducible assumption) rfl | exact room_a (by with_reducible assumption) rfl | omega | (simp only [Around.deeper, Around.in1]; omega)); intro _ _ _ _ _; (try k_sweep); (try dsimp only)) | ((with_reducible show wpAny _ _ (call (Value.ref _) _) _ _ _); k_dflt (refine' con_useB ?zC ?zF ?zN ?zX ?zT ?zhA ?zhd ?zhu ?_); (case zC => first | (first | exact con_law_is_metric _ _ _ _ _ _ _ (by omega) (by omega) (by omega) (metricAt _ _ _) | exact con_law_is_similar _ _ _ _ _ _ (by omega) (by first | omega | decide +kernel) (similarAt _ _)) | exact con_law_sound _ _ _ (by with_reducible assumption) | exact con_distance _ _ _ _ _ _ _ _ _ _ _ (by omega) (by omega)); (case zF => k_asm); (case zN => k_asm); (case zX => k_asm); (case zT => k_asm); (case zhA => rfl); (case zhd => first | exact room_b (by with_reducible assumption) rfl | exact room_a (by with_reducible assumption) rfl | omega | (simp only [Around.deeper, Around.in1]; omega)); (case zhu => first | exact room_b (by with_reducible assumption) rfl | exact room_a (by with_reducible assumption) rfl | omega | (simp only [Around.deeper, Around.in1]; omega)); intro _ _ _ _; (try k_sweep); (try dsimp only)) | (k_unfold; (try dsimp only)) | (walk1; (try dsimp only)) | (dsimp only; walk1) | fail "no step"))
        exact hret _ [] _ _ _ _ (by assumption) (by assumption) sub_nil ⟨rfl, rfl⟩
end
section
theorem law_global (w : World) : nsIn (hd.heap_39 w.params) mainGlobals (Str.ofString "law") = some (some (.ref 360)) := by
  ((have hfill : ∀ P : Params, PySem.Challenge.rw_pc0254_01.row.prog = PySem.Challenge.rw_pc0254_01.row.prog ∧ hd.heap_39 P = hd.heap_39 P := fun _ => ⟨rfl, rfl⟩); revert hfill; k_fill; intro hfill; clear hfill)
  refine Eq.trans ?z rfl
  case z => k_is
set_option maxHeartbeats 8000000 in
theorem main : PySem.Challenge.rw_pc0254_01.Holds := by
  w_on
  refine holds_law (l := PySem.Challenge.rw_pc0254_01) law_said fun said => ?_
  refine holds_open (q := hd.view_39) (loose := []) (Xt := fun s => xlAt hd.view_39 [] s && recOk (RowW.records (OpenRow.toRowW PySem.Challenge.rw_pc0254_01.row)) s) (XP := XL hd.view_39 []) (Yf := Hook.obs HK) (Ya := Hook.val HK) (YP := Hook.says HK) (N := 4570) ?hl (Hook.of HK) (Hook.keeps HK) (fun s e => xl_of s (Bool.and_eq_true_iff.mp e).1) XL.keeps (by rfl) (by rfl) (by rfl) (fun s e => recFacts_of (Bool.and_eq_true_iff.mp e).2) (by rfl) said (by decide +kernel) ⟨rfl, rfl, rfl, rfl, rfl, by decide +kernel⟩ ?hw ?hc
  case hw => w_witness2
  case hl => exact left_top
  case hc =>
    clear said
    k_fill
    intro w s₀ s₁ mg mb G Y fa o pm cd doc dV kV ho hdf hcd hD hmg hg args vals as hpre hlay hrd hwl hlo
    have KX := kIn_of Y
    refine Ground.open G ?_
    intro T B D TE TW
    (try (refine guard_noD D (by decide +kernel) ?_; clear D))
    wrow_args hpre hlay hrd hwl hlo
    all_goals (first | refine callC_kw (enter_call ?_) | refine enter_call ?_ | refine callC_kw (enter_callW ?_) | refine enter_callW ?_)
    have e0 : mg (Str.ofString "law") = some (.ref 360) := mg_of KX T.g (law_global w)
    have e1 : mg (Str.ofString "law") = some (.ref fa) := hmg
    obtain rfl : fa = 360 := by rw [e0] at e1; injection e1 with e1; injection e1 with e1; exact e1.symm
    clear hmg
    rename IntsAre _ _ => hI
    rename List Int => zs
    have hlen := hI.length
    refine codeAny_mono (cong_law w _ _ _ hI (by omega) (ExcName.means s₀.heap) mg mb callerA s₁ (fun v s' => GoodWG Challenge.rw_pc0254_01.row.claim (classAt s₀.heap) (ExcName.means s₀.heap) [ofPy (PyData.list (zs.map PyData.int))] s₁ (.ok (.ret v)) s') s₁.heap (by assumption) (fun _ _ e => e) (Nat.le_refl _) ⟨KX, T⟩ rfl rfl ?d ?u ?ret) ?fin
    case d => decide
    case u => decide
    case fin =>
      intro r s' z
      rcases r with e | (v | _ | _ | _) <;> first | exact z | exact z.elim
    case ret =>
      rintro v new h' tk hk - ⟨rfl, -⟩
      refine GoodW.toG ⟨.inl ⟨_, .bool true, [], rfl, raisesW_false ?_, ReadsW.bool _, ?_, fun _ => ⟨List.nodup_nil, fun _ h => (List.not_mem_nil h).elim⟩⟩, hk, rfl, hg⟩
      · wrow_none_raised
      · wrow_post
end
end Mine
theorem PySem.Challenge.cw_pc0254_01_holds : PySem.Challenge.rw_pc0254_01.Holds :=
  Mine.main
