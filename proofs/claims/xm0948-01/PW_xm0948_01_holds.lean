import PyProof.Rows.All
import Wide.All
import OpenK.AllK
import Wide.FinOn
import PySem.Challenge.RW_xm0948_01
set_option Elab.async false
set_option maxRecDepth 100000
set_option maxHeartbeats 8000000
open PySem PySem.W PyProof.Rows PySem.Calls PySem.Spec
namespace Mine
local macro_rules | `(tactic| walk_at $s:str) => `(tactic| k_extra $s)
local macro_rules | `(tactic| k_get) => `(tactic| k_extra "k_get")
local macro_rules | `(tactic| k_room) => `(tactic| k_extra "k_room")
local macro_rules | `(tactic| k_units) => `(tactic| k_extra "k_units")
local macro_rules | `(tactic| k_all) => `(tactic| k_extra "k_all")
local macro_rules | `(tactic| size_fits) => `(tactic| k_extra "size_fits")

section
def stmtAt : Nat → List Stmt → Stmt
  | 0, s :: _ => s
  | n + 1, _ :: r => stmtAt n r
  | _, [] => .Pass ⟨0, 0, 0, 0⟩
def defBody : Stmt → List Stmt
  | .FunctionDef _ _ b _ _ _ _ _ _ _ => b
  | _ => []
def classBody : Stmt → List Stmt
  | .ClassDef _ _ _ b _ _ _ _ _ _ _ => b
  | _ => []
def defParams : Stmt → Arguments
  | .FunctionDef _ p _ _ _ _ _ _ _ _ => p
  | _ => { posonlyargs := [], args := [], vararg := none, kwonlyargs := [], kw_defaults := [], kwarg := none, defaults := [] }
def defScope : Stmt → Scope
  | .FunctionDef _ _ _ _ _ _ sc _ _ _ => sc
  | _ => { kind := .function, names := [], isGenerator := false, isCoroutine := false }
abbrev body0 : List Stmt := Challenge.pw_xm0948_01.main.body
noncomputable def KK : Params → Frag := fun P => [
  (nat_lit 3, { cls := Value.type "dict", data := Data.dict #[{ hash := PyData.keyHash P (Str.ofString "__name__"), key := Value.str (Str.ofString "__name__") 165, val := Value.str (Str.ofString "law_xm0948_01") 533 }, { hash := PyData.keyHash P (Str.ofString "__doc__"), key := Value.str (Str.ofString "__doc__") 166, val := Value.none }, { hash := PyData.keyHash P (Str.ofString "__package__"), key := Value.str (Str.ofString "__package__") 167, val := Value.none }, { hash := PyData.keyHash P (Str.ofString "__loader__"), key := Value.str (Str.ofString "__loader__") 168, val := Value.builtin "__main__.__loader__#opaque" }, { hash := PyData.keyHash P (Str.ofString "__spec__"), key := Value.str (Str.ofString "__spec__") 169, val := Value.none }, { hash := PyData.keyHash P (Str.ofString "__annotations__"), key := Value.str (Str.ofString "__annotations__") 170, val := Value.ref 6 }, { hash := PyData.keyHash P (Str.ofString "__builtins__"), key := Value.str (Str.ofString "__builtins__") 171, val := Value.ref 4 }, { hash := PyData.keyHash P (Str.ofString "__file__"), key := Value.str (Str.ofString "__file__") 173, val := Value.str (Str.ofString "/claim/cut.py") 172 }, { hash := PyData.keyHash P (Str.ofString "__cached__"), key := Value.str (Str.ofString "__cached__") 174, val := Value.none }, { hash := PyData.keyHash P (Str.ofString "SnobolError"), key := Value.str (Str.ofString "SnobolError") 222, val := Value.ref 34 }, { hash := PyData.keyHash P (Str.ofString "Pattern"), key := Value.str (Str.ofString "Pattern") 251, val := Value.ref 54 }, { hash := PyData.keyHash P (Str.ofString "Delayed"), key := Value.str (Str.ofString "Delayed") 280, val := Value.ref 75 }, { hash := PyData.keyHash P (Str.ofString "is_plain"), key := Value.str (Str.ofString "is_plain") 287, val := Value.ref 86 }, { hash := PyData.keyHash P (Str.ofString "fits"), key := Value.str (Str.ofString "fits") 295, val := Value.ref 93 }, { hash := PyData.keyHash P (Str.ofString "whole_of_text"), key := Value.str (Str.ofString "whole_of_text") 306, val := Value.ref 100 }, { hash := PyData.keyHash P (Str.ofString "text_of_whole"), key := Value.str (Str.ofString "text_of_whole") 315, val := Value.ref 107 }, { hash := PyData.keyHash P (Str.ofString "to_whole"), key := Value.str (Str.ofString "to_whole") 323, val := Value.ref 114 }, { hash := PyData.keyHash P (Str.ofString "to_text"), key := Value.str (Str.ofString "to_text") 330, val := Value.ref 121 }, { hash := PyData.keyHash P (Str.ofString "need_whole"), key := Value.str (Str.ofString "need_whole") 339, val := Value.ref 128 }, { hash := PyData.keyHash P (Str.ofString "checked_whole"), key := Value.str (Str.ofString "checked_whole") 347, val := Value.ref 135 }, { hash := PyData.keyHash P (Str.ofString "MOST_PARTS"), key := Value.str (Str.ofString "MOST_PARTS") 351, val := Value.int 600 350 }, { hash := PyData.keyHash P (Str.ofString "MOST_DEPTH"), key := Value.str (Str.ofString "MOST_DEPTH") 353, val := Value.int 100 352 }, { hash := PyData.keyHash P (Str.ofString "MOST_SIGNS"), key := Value.str (Str.ofString "MOST_SIGNS") 355, val := Value.int 20000 354 }, { hash := PyData.keyHash P (Str.ofString "TOO_GREAT"), key := Value.str (Str.ofString "TOO_GREAT") 357, val := Value.int 23 356 }, { hash := PyData.keyHash P (Str.ofString "either"), key := Value.str (Str.ofString "either") 365, val := Value.ref 142 }, { hash := PyData.keyHash P (Str.ofString "pattern_of"), key := Value.str (Str.ofString "pattern_of") 373, val := Value.ref 149 }, { hash := PyData.keyHash P (Str.ofString "parts_of"), key := Value.str (Str.ofString "parts_of") 380, val := Value.ref 156 }, { hash := PyData.keyHash P (Str.ofString "checked_node"), key := Value.str (Str.ofString "checked_node") 392, val := Value.ref 163 }, { hash := PyData.keyHash P (Str.ofString "divided"), key := Value.str (Str.ofString "divided") 403, val := Value.ref 170 }, { hash := PyData.keyHash P (Str.ofString "remainder"), key := Value.str (Str.ofString "remainder") 411, val := Value.ref 177 }, { hash := PyData.keyHash P (Str.ofString "raised_to"), key := Value.str (Str.ofString "raised_to") 422, val := Value.ref 184 }, { hash := PyData.keyHash P (Str.ofString "reckoned"), key := Value.str (Str.ofString "reckoned") 432, val := Value.ref 191 }, { hash := PyData.keyHash P (Str.ofString "is_part"), key := Value.str (Str.ofString "is_part") 439, val := Value.ref 198 }, { hash := PyData.keyHash P (Str.ofString "either_value"), key := Value.str (Str.ofString "either_value") 447, val := Value.ref 205 }, { hash := PyData.keyHash P (Str.ofString "binary_value"), key := Value.str (Str.ofString "binary_value") 458, val := Value.ref 212 }, { hash := PyData.keyHash P (Str.ofString "whole_remdr"), key := Value.str (Str.ofString "whole_remdr") 469, val := Value.ref 219 }, { hash := PyData.keyHash P (Str.ofString "World"), key := Value.str (Str.ofString "World") 532, val := Value.ref 237 }, { hash := PyData.keyHash P (Str.ofString "_law_turned"), key := Value.str (Str.ofString "_law_turned") 548, val := Value.ref 248 }, { hash := PyData.keyHash P (Str.ofString "law"), key := Value.str (Str.ofString "law") 554, val := Value.ref 253 }] 39 }),
  (nat_lit 92, { cls := Value.type "code", data := Data.fields #[Value.str (Str.ofString "fits") 288, Value.str (Str.ofString "fits") 289, Value.str (Str.ofString "/claim/cut.py") 290, Value.int 18 0, Value.int 2 0, Value.int 0 0, Value.int 0 0, Value.int 3 0, Value.ref 87, Value.bool true, Value.int 181 0, Value.ref 88, Value.none, Value.ref 89, Value.ref 90, Value.ref 91, Value.int 293 0, Value.int 18 0, Value.str (Str.ofString "/claim/cut.py") 294] }),
  (nat_lit 93, (by refine' (?f : (x : Obj) → (x = { cls := Value.type "function", data := Data.func { name := Str.ofString "fits", qualname := Str.ofString "fits", params := defParams (stmtAt 5 body0), body := FuncBody.stmts (defBody (stmtAt 5 body0)), scope := defScope (stmtAt 5 body0), globals := 3, closure := [], defaults := Value.none, kwdefaults := Value.none, pyModule := Value.str (Str.ofString "snobol.values") 187, code := Value.ref 92 } }) → Obj) _ ?h; (case h => (dsimp only [body0, Challenge.pw_xm0948_01, stmtAt, defBody, defParams, defScope, classBody]; rfl)); (case f => exact fun x _ => x))),
  (nat_lit 113, { cls := Value.type "code", data := Data.fields #[Value.str (Str.ofString "to_whole") 316, Value.str (Str.ofString "to_whole") 317, Value.str (Str.ofString "/claim/cut.py") 318, Value.int 39 0, Value.int 2 0, Value.int 0 0, Value.int 0 0, Value.int 3 0, Value.ref 108, Value.bool true, Value.int 181 0, Value.ref 109, Value.none, Value.ref 110, Value.ref 111, Value.ref 112, Value.int 321 0, Value.int 39 0, Value.str (Str.ofString "/claim/cut.py") 322] }),
  (nat_lit 114, (by refine' (?f : (x : Obj) → (x = { cls := Value.type "function", data := Data.func { name := Str.ofString "to_whole", qualname := Str.ofString "to_whole", params := defParams (stmtAt 8 body0), body := FuncBody.stmts (defBody (stmtAt 8 body0)), scope := defScope (stmtAt 8 body0), globals := 3, closure := [], defaults := Value.none, kwdefaults := Value.none, pyModule := Value.str (Str.ofString "snobol.values") 187, code := Value.ref 113 } }) → Obj) _ ?h; (case h => (dsimp only [body0, Challenge.pw_xm0948_01, stmtAt, defBody, defParams, defScope, classBody]; rfl)); (case f => exact fun x _ => x))),
  (nat_lit 127, { cls := Value.type "code", data := Data.fields #[Value.str (Str.ofString "need_whole") 331, Value.str (Str.ofString "need_whole") 332, Value.str (Str.ofString "/claim/cut.py") 333, Value.int 47 0, Value.int 2 0, Value.int 0 0, Value.int 0 0, Value.int 3 0, Value.ref 122, Value.bool true, Value.int 181 0, Value.ref 123, Value.none, Value.ref 124, Value.ref 125, Value.ref 126, Value.int 337 0, Value.int 47 0, Value.str (Str.ofString "/claim/cut.py") 338] }),
  (nat_lit 128, (by refine' (?f : (x : Obj) → (x = { cls := Value.type "function", data := Data.func { name := Str.ofString "need_whole", qualname := Str.ofString "need_whole", params := defParams (stmtAt 10 body0), body := FuncBody.stmts (defBody (stmtAt 10 body0)), scope := defScope (stmtAt 10 body0), globals := 3, closure := [], defaults := Value.none, kwdefaults := Value.none, pyModule := Value.str (Str.ofString "snobol.values") 187, code := Value.ref 127 } }) → Obj) _ ?h; (case h => (dsimp only [body0, Challenge.pw_xm0948_01, stmtAt, defBody, defParams, defScope, classBody]; rfl)); (case f => exact fun x _ => x))),
  (nat_lit 134, { cls := Value.type "code", data := Data.fields #[Value.str (Str.ofString "checked_whole") 340, Value.str (Str.ofString "checked_whole") 341, Value.str (Str.ofString "/claim/cut.py") 342, Value.int 52 0, Value.int 2 0, Value.int 0 0, Value.int 0 0, Value.int 3 0, Value.ref 129, Value.bool true, Value.int 181 0, Value.ref 130, Value.none, Value.ref 131, Value.ref 132, Value.ref 133, Value.int 345 0, Value.int 52 0, Value.str (Str.ofString "/claim/cut.py") 346] }),
  (nat_lit 135, (by refine' (?f : (x : Obj) → (x = { cls := Value.type "function", data := Data.func { name := Str.ofString "checked_whole", qualname := Str.ofString "checked_whole", params := defParams (stmtAt 11 body0), body := FuncBody.stmts (defBody (stmtAt 11 body0)), scope := defScope (stmtAt 11 body0), globals := 3, closure := [], defaults := Value.none, kwdefaults := Value.none, pyModule := Value.str (Str.ofString "snobol.values") 187, code := Value.ref 134 } }) → Obj) _ ?h; (case h => (dsimp only [body0, Challenge.pw_xm0948_01, stmtAt, defBody, defParams, defScope, classBody]; rfl)); (case f => exact fun x _ => x))),
  (nat_lit 169, { cls := Value.type "code", data := Data.fields #[Value.str (Str.ofString "divided") 395, Value.str (Str.ofString "divided") 396, Value.str (Str.ofString "/claim/cut.py") 397, Value.int 87 0, Value.int 2 0, Value.int 0 0, Value.int 0 0, Value.int 3 0, Value.ref 164, Value.bool true, Value.int 181 0, Value.ref 165, Value.none, Value.ref 166, Value.ref 167, Value.ref 168, Value.int 401 0, Value.int 87 0, Value.str (Str.ofString "/claim/cut.py") 402] }),
  (nat_lit 170, (by refine' (?f : (x : Obj) → (x = { cls := Value.type "function", data := Data.func { name := Str.ofString "divided", qualname := Str.ofString "divided", params := defParams (stmtAt 22 body0), body := FuncBody.stmts (defBody (stmtAt 22 body0)), scope := defScope (stmtAt 22 body0), globals := 3, closure := [], defaults := Value.none, kwdefaults := Value.none, pyModule := Value.str (Str.ofString "snobol.operators") 393, code := Value.ref 169 } }) → Obj) _ ?h; (case h => (dsimp only [body0, Challenge.pw_xm0948_01, stmtAt, defBody, defParams, defScope, classBody]; rfl)); (case f => exact fun x _ => x))),
  (nat_lit 176, { cls := Value.type "code", data := Data.fields #[Value.str (Str.ofString "remainder") 404, Value.str (Str.ofString "remainder") 405, Value.str (Str.ofString "/claim/cut.py") 406, Value.int 92 0, Value.int 2 0, Value.int 0 0, Value.int 0 0, Value.int 3 0, Value.ref 171, Value.bool true, Value.int 181 0, Value.ref 172, Value.none, Value.ref 173, Value.ref 174, Value.ref 175, Value.int 409 0, Value.int 92 0, Value.str (Str.ofString "/claim/cut.py") 410] }),
  (nat_lit 177, (by refine' (?f : (x : Obj) → (x = { cls := Value.type "function", data := Data.func { name := Str.ofString "remainder", qualname := Str.ofString "remainder", params := defParams (stmtAt 23 body0), body := FuncBody.stmts (defBody (stmtAt 23 body0)), scope := defScope (stmtAt 23 body0), globals := 3, closure := [], defaults := Value.none, kwdefaults := Value.none, pyModule := Value.str (Str.ofString "snobol.operators") 393, code := Value.ref 176 } }) → Obj) _ ?h; (case h => (dsimp only [body0, Challenge.pw_xm0948_01, stmtAt, defBody, defParams, defScope, classBody]; rfl)); (case f => exact fun x _ => x))),
  (nat_lit 190, { cls := Value.type "code", data := Data.fields #[Value.str (Str.ofString "reckoned") 423, Value.str (Str.ofString "reckoned") 424, Value.str (Str.ofString "/claim/cut.py") 425, Value.int 107 0, Value.int 4 0, Value.int 0 0, Value.int 0 0, Value.int 3 0, Value.ref 185, Value.bool true, Value.int 181 0, Value.ref 186, Value.none, Value.ref 187, Value.ref 188, Value.ref 189, Value.int 430 0, Value.int 107 0, Value.str (Str.ofString "/claim/cut.py") 431] }),
  (nat_lit 191, (by refine' (?f : (x : Obj) → (x = { cls := Value.type "function", data := Data.func { name := Str.ofString "reckoned", qualname := Str.ofString "reckoned", params := defParams (stmtAt 25 body0), body := FuncBody.stmts (defBody (stmtAt 25 body0)), scope := defScope (stmtAt 25 body0), globals := 3, closure := [], defaults := Value.none, kwdefaults := Value.none, pyModule := Value.str (Str.ofString "snobol.operators") 393, code := Value.ref 190 } }) → Obj) _ ?h; (case h => (dsimp only [body0, Challenge.pw_xm0948_01, stmtAt, defBody, defParams, defScope, classBody]; rfl)); (case f => exact fun x _ => x))),
  (nat_lit 211, { cls := Value.type "code", data := Data.fields #[Value.str (Str.ofString "binary_value") 448, Value.str (Str.ofString "binary_value") 449, Value.str (Str.ofString "/claim/cut.py") 450, Value.int 125 0, Value.int 4 0, Value.int 0 0, Value.int 0 0, Value.int 3 0, Value.ref 206, Value.bool true, Value.int 181 0, Value.ref 207, Value.none, Value.ref 208, Value.ref 209, Value.ref 210, Value.int 456 0, Value.int 125 0, Value.str (Str.ofString "/claim/cut.py") 457] }),
  (nat_lit 212, (by refine' (?f : (x : Obj) → (x = { cls := Value.type "function", data := Data.func { name := Str.ofString "binary_value", qualname := Str.ofString "binary_value", params := defParams (stmtAt 28 body0), body := FuncBody.stmts (defBody (stmtAt 28 body0)), scope := defScope (stmtAt 28 body0), globals := 3, closure := [], defaults := Value.none, kwdefaults := Value.none, pyModule := Value.str (Str.ofString "snobol.operators") 393, code := Value.ref 211 } }) → Obj) _ ?h; (case h => (dsimp only [body0, Challenge.pw_xm0948_01, stmtAt, defBody, defParams, defScope, classBody]; rfl)); (case f => exact fun x _ => x))),
  (nat_lit 218, { cls := Value.type "code", data := Data.fields #[Value.str (Str.ofString "whole_remdr") 461, Value.str (Str.ofString "whole_remdr") 462, Value.str (Str.ofString "/claim/cut.py") 463, Value.int 133 0, Value.int 2 0, Value.int 0 0, Value.int 0 0, Value.int 3 0, Value.ref 213, Value.bool true, Value.int 181 0, Value.ref 214, Value.none, Value.ref 215, Value.ref 216, Value.ref 217, Value.int 467 0, Value.int 133 0, Value.str (Str.ofString "/claim/cut.py") 468] }),
  (nat_lit 219, (by refine' (?f : (x : Obj) → (x = { cls := Value.type "function", data := Data.func { name := Str.ofString "whole_remdr", qualname := Str.ofString "whole_remdr", params := defParams (stmtAt 30 body0), body := FuncBody.stmts (defBody (stmtAt 30 body0)), scope := defScope (stmtAt 30 body0), globals := 3, closure := [], defaults := Value.none, kwdefaults := Value.none, pyModule := Value.str (Str.ofString "snobol.strings") 459, code := Value.ref 218 } }) → Obj) _ ?h; (case h => (dsimp only [body0, Challenge.pw_xm0948_01, stmtAt, defBody, defParams, defScope, classBody]; rfl)); (case f => exact fun x _ => x))),
  (nat_lit 227, { cls := Value.type "tuple", data := Data.seq #[Value.int 32 484, Value.int 5000 485, Value.int 30 486, Value.int 5000 487] }),
  (nat_lit 233, { cls := Value.type "code", data := Data.fields #[Value.str (Str.ofString "__init__") 488, Value.str (Str.ofString "World.__init__") 489, Value.str (Str.ofString "/claim/cut.py") 490, Value.int 139 0, Value.int 5 0, Value.int 0 0, Value.int 0 0, Value.int 3 0, Value.ref 228, Value.bool true, Value.int 181 0, Value.ref 229, Value.none, Value.ref 230, Value.ref 231, Value.ref 232, Value.int 496 0, Value.int 139 0, Value.str (Str.ofString "/claim/cut.py") 497] }),
  (nat_lit 234, (by refine' (?f : (x : Obj) → (x = { cls := Value.type "function", data := Data.func { name := Str.ofString "__init__", qualname := Str.ofString "World.__init__", params := defParams (stmtAt 0 (classBody (stmtAt 32 body0))), body := FuncBody.stmts (defBody (stmtAt 0 (classBody (stmtAt 32 body0)))), scope := defScope (stmtAt 0 (classBody (stmtAt 32 body0))), globals := 3, closure := [], defaults := Value.ref 227, kwdefaults := Value.none, pyModule := Value.str (Str.ofString "snobol.world") 470, code := Value.ref 233 } }) → Obj) _ ?h; (case h => (dsimp only [body0, Challenge.pw_xm0948_01, stmtAt, defBody, defParams, defScope, classBody]; rfl)); (case f => exact fun x _ => x))),
  (nat_lit 236, { cls := Value.type "dict", data := Data.dict #[{ hash := PyData.keyHash P (Str.ofString "__module__"), key := Value.str (Str.ofString "__module__") 479, val := Value.str (Str.ofString "snobol.world") 470 }, { hash := PyData.keyHash P (Str.ofString "__firstlineno__"), key := Value.str (Str.ofString "__firstlineno__") 483, val := Value.int 137 482 }, { hash := PyData.keyHash P (Str.ofString "__init__"), key := Value.str (Str.ofString "__init__") 498, val := Value.ref 234 }, { hash := PyData.keyHash P (Str.ofString "__static_attributes__"), key := Value.str (Str.ofString "__static_attributes__") 525, val := Value.ref 235 }, { hash := PyData.keyHash P (Str.ofString "__dict__"), key := Value.str (Str.ofString "__dict__") 527, val := Value.ref 238 }, { hash := PyData.keyHash P (Str.ofString "__weakref__"), key := Value.str (Str.ofString "__weakref__") 529, val := Value.ref 239 }, { hash := PyData.keyHash P (Str.ofString "__doc__"), key := Value.str (Str.ofString "__doc__") 530, val := Value.none }] 4 }),
  (nat_lit 237, { cls := Value.type "type", data := Data.cls { name := Str.ofString "World", bases := [Value.type "object"], mro := [Value.ref 237, Value.type "object"], ns := 236, qualname := Str.ofString "World" }, slots := #[none, none, some (Value.str (Str.ofString "World") 472), some (Value.str (Str.ofString "World") 480), some (Value.builtin "object.__new__"), some (Value.bool true)] }),
  (nat_lit 247, { cls := Value.type "code", data := Data.fields #[Value.str (Str.ofString "_law_turned") 535, Value.str (Str.ofString "_law_turned") 536, Value.str (Str.ofString "/claim/cut.py") 537, Value.int 167 0, Value.int 2 0, Value.int 0 0, Value.int 0 0, Value.int 3 0, Value.ref 242, Value.bool true, Value.int 181 0, Value.ref 243, Value.none, Value.ref 244, Value.ref 245, Value.ref 246, Value.int 546 0, Value.int 167 0, Value.str (Str.ofString "/claim/cut.py") 547] }),
  (nat_lit 248, (by refine' (?f : (x : Obj) → (x = { cls := Value.type "function", data := Data.func { name := Str.ofString "_law_turned", qualname := Str.ofString "_law_turned", params := defParams (stmtAt 34 body0), body := FuncBody.stmts (defBody (stmtAt 34 body0)), scope := defScope (stmtAt 34 body0), globals := 3, closure := [], defaults := Value.none, kwdefaults := Value.none, pyModule := Value.str (Str.ofString "law_xm0948_01") 533, code := Value.ref 247 } }) → Obj) _ ?h; (case h => (dsimp only [body0, Challenge.pw_xm0948_01, stmtAt, defBody, defParams, defScope, classBody]; rfl)); (case f => exact fun x _ => x)))]
theorem lt_up {d n k L : Nat} (h : d + n < L) (hk : k ≤ n) : d + k < L := Nat.lt_of_le_of_lt (Nat.add_le_add_left hk d) h
theorem lt_up0 {d n L : Nat} (h : d + n < L) : d < L := Nat.lt_of_le_of_lt (Nat.le_add_right d n) h
theorem lt_up2 {d a n k L : Nat} (h : d + n < L) (hk : a + k ≤ n) : d + a + k < L := (Nat.add_assoc d a k).symm ▸ lt_up h hk
theorem lt_up3 {d a b n k L : Nat} (h : d + n < L) (hk : a + (b + k) ≤ n) : d + a + b + k < L := (Nat.add_assoc (d + a) b k).symm ▸ lt_up2 h hk
end

section
section
variable {prog : Program} {w : World} {A : Around} {E : Value → Shared → Prop} {s : Shared} {env : Env} {h₀ : Heap} {x : Str} {body : List Stmt} {Q : Flow → Shared → Prop}

abbrev Turn (prog : Program) (w : World) (A : Around) (E : Value → Shared → Prop) (s : Shared) (env : Env) (h₀ : Heap) (x : Str) (body : List Stmt) (Q : Flow → Shared → Prop)
    (J J' : (Str → Option Value) → List (Addr × Obj) → Prop) (v : Value) : Prop :=
  ∀ m₁ nx h tk own, OwnOff own (nx.map (·.1)) → (∀ p ∈ own, p.2.cls ≠ .type "tuple") → J m₁ nx → Fr h₀ env.locals h (fun y => if y = x then some v else m₁ y) → News h₀ env.locals h (nx ++ own) →
    wpAny (model prog w) A (execs body env) (InvPostG h₀ env.locals J' own { s with heap := h, toks := tk } Q) E { s with heap := h, toks := tk }

theorem loop_range {r : Addr} {a₀ b₀ c : Int} {t₀ u₀ v₀ : Tok} {n : Nat} {m₀ : Str → Option Value} {news : List (Addr × Obj)} (J : Nat → (Str → Option Value) → List (Addr × Obj) → Prop)
    (hh : A.handled = none) (hr : IsRange s.heap r a₀ b₀ c t₀ u₀ v₀) (hsmall : Builtin.Range.small a₀ b₀ c = true) (hn : Builtin.Range.rangeSize a₀ b₀ c = (n : Int))
    (F : Fr h₀ env.locals s.heap m₀) (N : News h₀ env.locals s.heap news) (hj : J 0 m₀ news)
    (turn : ∀ i t, i < n → Turn prog w A E s env h₀ x body Q (J i) (J (i + 1)) (.int (a₀ + (i : Int) * c) t))
    (done : ∀ m₁ nx h tk, J n m₁ nx → Fr h₀ env.locals h m₁ → News h₀ env.locals h nx → Q .next { s with heap := h, toks := tk }) :
    wpAny (model prog w) A (pyIter (.ref r)) (fun it s₂ => LoopAtV prog w A h₀ env x body Q E it s₂) E s := by
  refine wpAny_pyIter_range hr hsmall ?_
  have W := Walks.range (prog := prog) (w := w) hh s.heap.objs.size a₀ c n
  have hnew : h₀.get? s.heap.objs.size = none := next_is_new F
  have hlt := F.ns.lt
  have hst : IsRangeIter (s.heap.push { cls := .type "range_iterator", data := .fields #[rawInt a₀, rawInt (Builtin.Range.rangeSize a₀ b₀ c), rawInt c] }) s.heap.objs.size (a₀ + ((0 : Nat) : Int) * c) ((n : Int) - ((0 : Nat) : Int)) c := by
    show (Heap.push _ _).get? _ = _
    rw [hn]
    simpa using Heap.get?_push_size _ rfl
  refine ⟨s.heap.objs.size, _, _, n, _, _, m₀, news, J, rfl, W, ?_, ?_, ?_, hst, F.push _, (fun p hp => ⟨Heap.get?_push_of_some _ (N p hp).1, (N p hp).2⟩), hj, ?_, ?_⟩
  · intro hmm
    exact absurd hlt ((List.mem_singleton.mp hmm) ▸ Nat.lt_irrefl _)
  · intro b hb
    rw [List.mem_singleton.mp hb]
    exact hnew
  · intro p hp hI
    exact absurd (Heap.lt_size (N p hp).1) ((List.mem_singleton.mp hI) ▸ Nat.lt_irrefl _)
  · rintro i v m₁ news₁ s₁ own ⟨hh', tk', rfl⟩ hin hP hJ hoff hown hget hall hst F₁ N₁
    obtain ⟨t, rfl⟩ := hP
    have hoI := id hst
    unfold IsRangeIter at hoI
    obtain ⟨oI, hoI, hoc⟩ : ∃ oI, hh'.get? s.heap.objs.size = some oI ∧ oI.cls ≠ .type "tuple" := ⟨_, hoI, by show (Value.type "range_iterator") ≠ Value.type "tuple"; decide⟩
    have hIown : (s.heap.objs.size, oI) ∈ own := hall _ (List.mem_singleton.mpr rfl) hnew _ hoI
    have N₂ : News h₀ env.locals hh' (news₁ ++ [(s.heap.objs.size, oI)]) := fun p hp => by
      rcases List.mem_append.mp hp with hp | hp
      · exact N₁ p (List.mem_append.mpr (.inr hp))
      · rw [List.mem_singleton.mp hp]; exact N₁ _ (List.mem_append.mpr (.inl hIown))
    have hsep : OwnOff [(s.heap.objs.size, oI)] (news₁.map (·.1)) := by
      intro p hp b hb e
      obtain ⟨q, hq, rfl⟩ := List.mem_map.mp hb
      rw [List.mem_singleton.mp hp] at e
      exact hoff q hq (List.mem_singleton.mpr e.symm)
    refine wpAny_mono (turn i t hin m₁ news₁ hh' tk' [(s.heap.objs.size, oI)] hsep (fun p hp => by rw [List.mem_singleton.mp hp]; exact hoc) hJ F₁ N₂) (fun f s₂ p => ?_) fun _ _ e => e
    have fin : InvEndG h₀ env.locals (J (i + 1)) [(s.heap.objs.size, oI)] { s with heap := hh', toks := tk' } s₂ → LoopStepU h₀ env.locals [s.heap.objs.size] own (J (i + 1)) { s with heap := hh', toks := tk' } .next s₂ := by
      rintro ⟨h', tk, m', news', nx, e, F', N', hn, ho, ha, hJ'⟩
      refine ⟨rfl, h', tk, m', nx, e, F', fun p hp => ?_, fun p hp hq => ?_, hJ'⟩
      · rcases List.mem_append.mp hp with hp | hp
        · have h1 := List.mem_singleton.mp (hown p hp)
          have h2 := hget p hp
          have h3 : p = (s.heap.objs.size, oI) := by
            rw [h1, hoI] at h2
            exact Prod.ext h1 (Option.some.inj h2).symm
          rw [h3]; exact N' _ (ho _ (List.mem_singleton.mpr rfl))
        · exact N' _ (hn _ hp)
      · exact ha _ (List.mem_singleton.mpr rfl) p.1 (List.mem_map.mpr ⟨p, hp, rfl⟩) (List.mem_singleton.mp hq).symm
    cases f with
    | ret v => exact .ret p
    | brk => exact .brk p
    | next => exact .next (fin p)
    | cont => exact .cont (fin p)
  · rintro h' tk m' news' F' N' _ hJ
    exact done m' news' h' tk hJ F' N'

theorem loop_list {l : Addr} {vs : List Value} {nn : Nat} {m₀ : Str → Option Value} {news : List (Addr × Obj)} (J : Nat → (Str → Option Value) → List (Addr × Obj) → Prop)
    (hh : A.handled = none) (F : Fr h₀ env.locals s.heap m₀) (N : News h₀ env.locals s.heap news) (hj : J 0 m₀ news)
    (hm : ∀ i m nx, J i m nx → (l, listOf vs.toArray nn) ∈ nx)
    (turn : ∀ i v, vs[i]? = some v → Turn prog w A E s env h₀ x body Q (J i) (J (i + 1)) v)
    (done : ∀ m₁ nx h tk, J vs.length m₁ nx → Fr h₀ env.locals h m₁ → News h₀ env.locals h nx → Q .next { s with heap := h, toks := tk }) :
    wpAny (model prog w) A (pyIter (.ref l)) (fun it s₂ => LoopAtV prog w A h₀ env x body Q E it s₂) E s := by
  have hl : s.heap.IsList l vs.toArray := ⟨_, (N _ (hm 0 _ _ hj)).1, rfl, nn, rfl⟩
  have hlL := (N _ (hm 0 _ _ hj)).2.1
  have hlo := (N _ (hm 0 _ _ hj)).2.2
  have hne : l ≠ s.heap.objs.size := Nat.ne_of_lt (Heap.lt_size (N _ (hm 0 _ _ hj)).1)
  have hnew : h₀.get? s.heap.objs.size = none := next_is_new F
  have hlt := F.ns.lt
  refine wpAny_pyIter_list hl ?_
  have W := Walks.list (prog := prog) (w := w) hh s.heap.objs.size l hne vs.toArray
  have hsz : vs.toArray.size = vs.length := by simp
  rw [hsz] at W
  refine ⟨s.heap.objs.size, _, _, vs.length, _, _, m₀, news, J, rfl, W, ?_, ?_, ?_, ⟨⟨_, Heap.get?_push_size _ rfl, rfl, rfl⟩, hl.at fun o e => Heap.get?_push_of_some _ e⟩, F.push _, (fun p hp => ⟨Heap.get?_push_of_some _ (N p hp).1, (N p hp).2⟩), hj, ?_, ?_⟩
  · intro hmm
    rcases List.mem_cons.mp hmm with e | hmm
    · exact absurd hlt (e ▸ Nat.lt_irrefl _)
    · exact absurd (List.mem_singleton.mp hmm).symm hlL
  · intro b hb
    rw [List.mem_singleton.mp hb]
    exact hnew
  · intro p hp hI
    exact absurd (Heap.lt_size (N p hp).1) ((List.mem_singleton.mp hI) ▸ Nat.lt_irrefl _)
  · rintro i v m₁ news₁ s₁ own ⟨hh', tk', rfl⟩ hin hP hJ hoff hown hget hall hst F₁ N₁
    obtain ⟨⟨oI, hoI, hoc, _⟩, _⟩ := id hst
    have hoc' : oI.cls ≠ .type "tuple" := by rw [hoc]; decide
    have hIown : (s.heap.objs.size, oI) ∈ own := hall _ (List.mem_cons.mpr (.inl rfl)) hnew _ hoI
    have hv : vs[i]? = some v := by simpa using hP
    have hml := hm i m₁ news₁ hJ
    have N₂ : News h₀ env.locals hh' (news₁ ++ [(s.heap.objs.size, oI)]) := fun p hp => by
      rcases List.mem_append.mp hp with hp | hp
      · exact N₁ p (List.mem_append.mpr (.inr hp))
      · rw [List.mem_singleton.mp hp]; exact N₁ _ (List.mem_append.mpr (.inl hIown))
    have hsep : OwnOff [(s.heap.objs.size, oI)] (news₁.map (·.1)) := by
      intro p hp b hb e
      obtain ⟨q, hq, rfl⟩ := List.mem_map.mp hb
      rw [List.mem_singleton.mp hp] at e
      exact hoff q hq (List.mem_singleton.mpr e.symm)
    refine wpAny_mono (turn i v hv m₁ news₁ hh' tk' [(s.heap.objs.size, oI)] hsep (fun p hp => by rw [List.mem_singleton.mp hp]; exact hoc') hJ F₁ N₂) (fun f s₂ p => ?_) fun _ _ e => e
    have fin : InvEndG h₀ env.locals (J (i + 1)) [(s.heap.objs.size, oI)] { s with heap := hh', toks := tk' } s₂ → LoopStepU h₀ env.locals [s.heap.objs.size] own (J (i + 1)) { s with heap := hh', toks := tk' } .next s₂ := by
      rintro ⟨h', tk, m', news', nx, e, F', N', hn, ho, ha, hJ'⟩
      refine ⟨rfl, h', tk, m', nx, e, F', fun p hp => ?_, fun p hp hq => ?_, hJ'⟩
      · rcases List.mem_append.mp hp with hp | hp
        · rcases List.mem_cons.mp (hown p hp) with h1 | h1
          · have h2 := hget p hp
            have h3 : p = (s.heap.objs.size, oI) := by
              rw [h1, hoI] at h2
              exact Prod.ext h1 (Option.some.inj h2).symm
            rw [h3]; exact N' _ (ho _ (List.mem_singleton.mpr rfl))
          · have h1 := List.mem_singleton.mp h1
            have h2 := hget p hp
            have h4 := (N₁ _ (List.mem_append.mpr (.inr hml))).1
            have h3 : p = (l, listOf vs.toArray nn) := by
              rw [h1] at h2
              exact Prod.ext h1 (Option.some.inj (h2.symm.trans h4))
            rw [h3]; exact N' _ (hn _ (hm _ _ _ hJ'))
        · exact N' _ (hn _ hp)
      · exact ha _ (List.mem_singleton.mpr rfl) p.1 (List.mem_map.mpr ⟨p, hp, rfl⟩) (List.mem_singleton.mp hq).symm
    cases f with
    | ret v => exact .ret p
    | brk => exact .brk p
    | next => exact .next (fin p)
    | cont => exact .cont (fin p)
  · rintro h' tk m' news' F' N' _ hJ
    exact done m' news' h' tk hJ F' N'
end
end

section
abbrev Tri := Int × Int × Int
def restOf (q x : Int) : Int := Int.fdiv (4 * q + 1 - x * x) 4
def innerOne (r x y : Int) : List Tri := if Int.fmod r y = 0 then [(x, y, Int.fdiv r y)] else []
def upTo (n : Int) : List Int := (List.range n.toNat).map fun i => (Int.ofNat i) + 1
def inner (q x : Int) : List Tri := (upTo (restOf q x)).flatMap (innerOne (restOf q x) x)
def trips (q : Int) : List Tri := (List.range (2 * q).toNat).flatMap fun (i : Nat) => inner q (2 * (i : Int) + 1)
def turn (t : Tri) : Tri :=
  let x := t.1; let y := t.2.1; let z := t.2.2
  if x < y - z then (x + 2 * z, z, y - z - x) else if x < 2 * y then (2 * y - x, y, x - (y - z)) else (x - 2 * y, x - (y - z), y)
def staysOf (l : List Tri) : List Tri := l.filter fun t => turn t = t
def lowOf (q : Int) : List Int := (upTo (4 * q)).filter fun d => decide (d * d < 4 * q + 1) && decide (Int.fmod (4 * q + 1) d = 0)
def fixOf (q d : Int) : Tri := (d, d, Int.fdiv (Int.fdiv (4 * q + 1) d - d) 4)
def swap (t : Tri) : Tri := (t.1, t.2.2, t.2.1)
/-- one turn of the loop from (here, met): the loop goes on (ok), or ends -/
def walkW (q : Int) : Nat → Tri → List Tri → Option (List Tri)
  | 0, _, _ => none
  | n + 1, here, met =>
    if here.2.1 = here.2.2 then (if here.1 * here.1 + 4 * here.2.1 * here.2.1 = 4 * q + 1 then some met else none)
    else
      let s := swap here
      if s ∈ met ∨ s ∉ trips q then none
      else if s ∈ staysOf (trips q) then (if 1 < (lowOf q).length then some (met ++ [s]) else none)
      else
        let t := turn s
        if t ∈ met ++ [s] ∨ t ∉ trips q then none
        else walkW q n t (met ++ [s, t])
def qs : List Int := [1, 3, 4, 5, 7, 8, 9, 10, 11]
end

section
theorem news_two {h₀ h : Heap} {L : Addr} {l l' : List (Addr × Obj)} {p q : Addr × Obj} (N : News h₀ L h l) (h1 : p ∈ l) (h2 : q ∈ l) (h3 : ∀ r ∈ l', r ∈ l) : News h₀ L h (p :: q :: l') := fun r hr => by
  rcases List.mem_cons.mp hr with rfl | hr
  · exact N _ h1
  · rcases List.mem_cons.mp hr with rfl | hr
    · exact N _ h2
    · exact N _ (h3 _ hr)
theorem news_one {h₀ h : Heap} {L : Addr} {l : List (Addr × Obj)} {p : Addr × Obj} (N : News h₀ L h l) (h1 : p ∈ l) : News h₀ L h (p :: l) := fun r hr => by
  rcases List.mem_cons.mp hr with rfl | hr
  · exact N _ h1
  · exact N _ hr
theorem news_drop2 {h₀ h : Heap} {L : Addr} {l : List (Addr × Obj)} {p q : Addr × Obj} (N : News h₀ L h (p :: q :: l)) : News h₀ L h l := fun r hr => N r (List.Mem.tail _ (List.Mem.tail _ hr))
theorem news_drop1 {h₀ h : Heap} {L : Addr} {l : List (Addr × Obj)} {p : Addr × Obj} (N : News h₀ L h (p :: l)) : News h₀ L h l := fun r hr => N r (List.Mem.tail _ hr)
theorem two31 : (1 * 2 ^ Int.toNat (32 - 1) : Int) = 2147483648 := by decide
section
variable {pp9 : Program} {ll9 : List Str} {w : World} {mean : ExcName → Option Value} {mg mb : Str → Option Value} {dp un : Nat} {gd : Option (List Code)} {cn : Str} {cs : Scope} {a : Addr} {ccd : Value} {cl : List (Str × Addr)} {outer : List Env} {A₀ : Around} {base h₀ : Heap} {L : Addr} {m : Str → Option Value} {s : Shared} {Q E : Value → Shared → Prop}
theorem cw {r : Int} {tx tw : Tok} {news : List (Addr × Obj)} (h1 : -(2 ^ 31) ≤ r) (h2 : r < 2 ^ 31) 
    (B : Below A₀ base outer h₀) (F : Fr h₀ L s.heap m) (X : (KK (World.params w)).In h₀) (N : News h₀ L s.heap news)
    (T : Top pp9 ll9 mean mg mb h₀) (hk : cs.kind = .function)
    (hdp : dp + 5 < recursionLimit) (hun : un + 50 < cLine)
    (hret : ∀ t h' tk', Fr h₀ L h' m → News h₀ L h' news → Q (.int r t) { s with heap := h', toks := tk' }) :
    wpAny (model (RowW.prog (OpenRow.toRowW (OpenLaw.row Challenge.rw_xm0948_01))) w) (ktrTop dp un gd cn cs L a ccd cl outer) (call (.ref 135) [.int r tx, .int 32 tw]) Q E s := by
  revert X
  k_fill
  intro X
  w_strict (
    k_with_none
    k_with "k_get" => assumption
    k_with "k_room" => ((try dsimp only [depth_mark, depth_under_make, depth_under_kw, depth_in1, depth_deeper, depth_caller]); (try dsimp only); first | exact lt_up (by assumption) (Nat.le_of_ble_eq_true rfl) | exact lt_up2 (by assumption) (Nat.le_of_ble_eq_true rfl) | exact lt_up3 (by assumption) (Nat.le_of_ble_eq_true rfl) | exact lt_up0 (by assumption) | omega)
    k_with "k_units" => ((try dsimp only [units_in1, units_deeper, Around.mark_units, units_caller]); (try dsimp only); first | exact lt_up (by assumption) (Nat.le_of_ble_eq_true rfl) | exact lt_up2 (by assumption) (Nat.le_of_ble_eq_true rfl) | exact lt_up3 (by assumption) (Nat.le_of_ble_eq_true rfl) | exact lt_up0 (by assumption) | omega)
    k_with "unaryOp USub int" => (simp only [two31])
    k_with "compareOp Lt int int" => (simp only [two31])
    k_with "eval Call" => (k_here; k_dflt (refine Call_ ?_))
    refine wpAny_call ?_
    k_dflt cell_enter
    k_steps
    all_goals exact hret _ _ _ (by assumption) (by assumption))
theorem nw {r : Int} {tx tw : Tok} {news : List (Addr × Obj)}
    (B : Below A₀ base outer h₀) (F : Fr h₀ L s.heap m) (X : (KK (World.params w)).In h₀) (N : News h₀ L s.heap news)
    (T : Top pp9 ll9 mean mg mb h₀) (hk : cs.kind = .function)
    (hdp : dp + 8 < recursionLimit) (hun : un + 50 < cLine)
    (hret : ∀ h' tk', Fr h₀ L h' m → News h₀ L h' news → Q (.int r tx) { s with heap := h', toks := tk' }) :
    wpAny (model (RowW.prog (OpenRow.toRowW (OpenLaw.row Challenge.rw_xm0948_01))) w) (ktrTop dp un gd cn cs L a ccd cl outer) (call (.ref 128) [.int r tx, .int 32 tw]) Q E s := by
  revert X
  k_fill
  intro X
  w_strict (
    k_with_none
    k_with "k_get" => assumption
    k_with "k_room" => ((try dsimp only [depth_mark, depth_under_make, depth_under_kw, depth_in1, depth_deeper, depth_caller]); (try dsimp only); first | exact lt_up (by assumption) (Nat.le_of_ble_eq_true rfl) | exact lt_up2 (by assumption) (Nat.le_of_ble_eq_true rfl) | exact lt_up3 (by assumption) (Nat.le_of_ble_eq_true rfl) | exact lt_up0 (by assumption) | omega)
    k_with "k_units" => ((try dsimp only [units_in1, units_deeper, Around.mark_units, units_caller]); (try dsimp only); first | exact lt_up (by assumption) (Nat.le_of_ble_eq_true rfl) | exact lt_up2 (by assumption) (Nat.le_of_ble_eq_true rfl) | exact lt_up3 (by assumption) (Nat.le_of_ble_eq_true rfl) | exact lt_up0 (by assumption) | omega)
    k_with "unaryOp USub int" => (simp only [two31])
    k_with "compareOp Lt int int" => (simp only [two31])
    k_with "eval Call" => (k_here; k_dflt (refine Call_ ?_))
    refine wpAny_call ?_
    k_dflt cell_enter
    k_steps
    all_goals exact hret _ _ (by assumption) (by assumption))
end
section
variable {pp9 : Program} {ll9 : List Str} {w : World} {mean : ExcName → Option Value} {mg mb : Str → Option Value} {dp un : Nat} {gd : Option (List Code)} {cn : Str} {cs : Scope} {a : Addr} {ccd : Value} {cl : List (Str × Addr)} {outer : List Env} {A₀ : Around} {base h₀ : Heap} {L : Addr} {m : Str → Option Value} {s : Shared} {Q E : Value → Shared → Prop}
  {W D : Addr} {sl : Array (Option Value)} {es : List DictEntry} {n : Nat} {tw : Tok} {news : List (Addr × Obj)} {t0 tx ty : Tok} {x y : Int}
theorem bv_mul (h1 : -1000000 ≤ x * y ∧ x * y ≤ 1000000) (b1 : -1000 ≤ x ∧ x ≤ 1000) (b2 : -1000 ≤ y ∧ y ≤ 1000)
    (B : Below A₀ base outer h₀) (F : Fr h₀ L s.heap m) (X : (KK (World.params w)).In h₀) (N : News h₀ L s.heap ((W, (⟨.ref 237, some D, .plain, sl⟩ : Obj)) :: (D, dictOf es n) :: news))
    (T : Top pp9 ll9 mean mg mb h₀) (hk : cs.kind = .function) (hwid : getL (Str.ofString "width") es = some (some (.int 32 tw)))
    (hdp : dp + 20 < recursionLimit) (hun : un + 100 < cLine)
    (hret : ∀ t h' tk', Fr h₀ L h' m → News h₀ L h' ((W, (⟨.ref 237, some D, .plain, sl⟩ : Obj)) :: (D, dictOf es n) :: news) → Q (.int (x * y) t) { s with heap := h', toks := tk' }) :
    wpAny (model (RowW.prog (OpenRow.toRowW (OpenLaw.row Challenge.rw_xm0948_01))) w) (ktrTop dp un gd cn cs L a ccd cl outer) (call (.ref 212) [.ref W, .str (Str.ofString "*") t0, .int x tx, .int y ty]) Q E s := by
  revert X
  k_fill
  intro X
  w_strict (
    k_with_none
    k_with "k_get" => assumption
    k_with "k_room" => ((try dsimp only [depth_mark, depth_under_make, depth_under_kw, depth_in1, depth_deeper, depth_caller]); (try dsimp only); first | exact lt_up (by assumption) (Nat.le_of_ble_eq_true rfl) | exact lt_up2 (by assumption) (Nat.le_of_ble_eq_true rfl) | exact lt_up3 (by assumption) (Nat.le_of_ble_eq_true rfl) | exact lt_up0 (by assumption) | omega)
    k_with "k_units" => ((try dsimp only [units_in1, units_deeper, Around.mark_units, units_caller]); (try dsimp only); first | exact lt_up (by assumption) (Nat.le_of_ble_eq_true rfl) | exact lt_up2 (by assumption) (Nat.le_of_ble_eq_true rfl) | exact lt_up3 (by assumption) (Nat.le_of_ble_eq_true rfl) | exact lt_up0 (by assumption) | omega)
    k_with "unaryOp USub int" => (simp only [two31])
    k_with "compareOp Lt int int" => (simp only [two31])
    k_with "eval Call" => (k_here; k_dflt (refine Call_ ?_))
    k_with "call ref" => (k_here; (with_reducible show wpAny _ _ (call (Value.ref 135) [Value.int _ _, Value.int 32 _]) _ _ _); (with_unfolding_all refine cw (by k_dflt (omega)) (by k_dflt (omega)) (by k_dflt (k_asm)) (by k_dflt (k_asm)) (by k_dflt (k_asm)) (by k_dflt (k_asm)) (by k_dflt (k_asm)) (by k_dflt (first | exact rfl | assumption)) (by k_dflt (k_room)) (by k_dflt (k_units)) ?_); (intro t9 h9 tk9 F9 N9); (try dsimp only); (try k_fold))
    k_with "call ref" => (k_here; (with_reducible show wpAny _ _ (call (Value.ref 128) [Value.int _ _, Value.int 32 _]) _ _ _); (with_unfolding_all refine nw (by k_dflt (k_asm)) (by k_dflt (k_asm)) (by k_dflt (k_asm)) (by k_dflt (k_asm)) (by k_dflt (k_asm)) (by k_dflt (first | exact rfl | assumption)) (by k_dflt (k_room)) (by k_dflt (k_units)) ?_); (intro h9 tk9 F9 N9); (try dsimp only); (try k_fold))
    refine wpAny_call ?_
    k_dflt cell_enter
    k_steps
    all_goals (rename News _ _ _ _ => nN; exact hret _ _ _ (by assumption) (fun p hp => nN p (List.Mem.tail _ hp))))
theorem bv_sub (b1 : -1000 ≤ x ∧ x ≤ 1000) (b2 : -1000 ≤ y ∧ y ≤ 1000)
    (B : Below A₀ base outer h₀) (F : Fr h₀ L s.heap m) (X : (KK (World.params w)).In h₀) (N : News h₀ L s.heap ((W, (⟨.ref 237, some D, .plain, sl⟩ : Obj)) :: (D, dictOf es n) :: news))
    (T : Top pp9 ll9 mean mg mb h₀) (hk : cs.kind = .function) (hwid : getL (Str.ofString "width") es = some (some (.int 32 tw)))
    (hdp : dp + 20 < recursionLimit) (hun : un + 100 < cLine)
    (hret : ∀ t h' tk', Fr h₀ L h' m → News h₀ L h' ((W, (⟨.ref 237, some D, .plain, sl⟩ : Obj)) :: (D, dictOf es n) :: news) → Q (.int (x - y) t) { s with heap := h', toks := tk' }) :
    wpAny (model (RowW.prog (OpenRow.toRowW (OpenLaw.row Challenge.rw_xm0948_01))) w) (ktrTop dp un gd cn cs L a ccd cl outer) (call (.ref 212) [.ref W, .str (Str.ofString "-") t0, .int x tx, .int y ty]) Q E s := by
  revert X
  k_fill
  intro X
  w_strict (
    k_with_none
    k_with "k_get" => assumption
    k_with "k_room" => ((try dsimp only [depth_mark, depth_under_make, depth_under_kw, depth_in1, depth_deeper, depth_caller]); (try dsimp only); first | exact lt_up (by assumption) (Nat.le_of_ble_eq_true rfl) | exact lt_up2 (by assumption) (Nat.le_of_ble_eq_true rfl) | exact lt_up3 (by assumption) (Nat.le_of_ble_eq_true rfl) | exact lt_up0 (by assumption) | omega)
    k_with "k_units" => ((try dsimp only [units_in1, units_deeper, Around.mark_units, units_caller]); (try dsimp only); first | exact lt_up (by assumption) (Nat.le_of_ble_eq_true rfl) | exact lt_up2 (by assumption) (Nat.le_of_ble_eq_true rfl) | exact lt_up3 (by assumption) (Nat.le_of_ble_eq_true rfl) | exact lt_up0 (by assumption) | omega)
    k_with "unaryOp USub int" => (simp only [two31])
    k_with "compareOp Lt int int" => (simp only [two31])
    k_with "eval Call" => (k_here; k_dflt (refine Call_ ?_))
    k_with "call ref" => (k_here; (with_reducible show wpAny _ _ (call (Value.ref 135) [Value.int _ _, Value.int 32 _]) _ _ _); (with_unfolding_all refine cw (by k_dflt (omega)) (by k_dflt (omega)) (by k_dflt (k_asm)) (by k_dflt (k_asm)) (by k_dflt (k_asm)) (by k_dflt (k_asm)) (by k_dflt (k_asm)) (by k_dflt (first | exact rfl | assumption)) (by k_dflt (k_room)) (by k_dflt (k_units)) ?_); (intro t9 h9 tk9 F9 N9); (try dsimp only); (try k_fold))
    k_with "call ref" => (k_here; (with_reducible show wpAny _ _ (call (Value.ref 128) [Value.int _ _, Value.int 32 _]) _ _ _); (with_unfolding_all refine nw (by k_dflt (k_asm)) (by k_dflt (k_asm)) (by k_dflt (k_asm)) (by k_dflt (k_asm)) (by k_dflt (k_asm)) (by k_dflt (first | exact rfl | assumption)) (by k_dflt (k_room)) (by k_dflt (k_units)) ?_); (intro h9 tk9 F9 N9); (try dsimp only); (try k_fold))
    refine wpAny_call ?_
    k_dflt cell_enter
    k_steps
    all_goals (rename News _ _ _ _ => nN; exact hret _ _ _ (by assumption) (fun p hp => nN p (List.Mem.tail _ hp))))
theorem bv_add (b1 : -1000 ≤ x ∧ x ≤ 1000) (b2 : -1000 ≤ y ∧ y ≤ 1000)
    (B : Below A₀ base outer h₀) (F : Fr h₀ L s.heap m) (X : (KK (World.params w)).In h₀) (N : News h₀ L s.heap ((W, (⟨.ref 237, some D, .plain, sl⟩ : Obj)) :: (D, dictOf es n) :: news))
    (T : Top pp9 ll9 mean mg mb h₀) (hk : cs.kind = .function) (hwid : getL (Str.ofString "width") es = some (some (.int 32 tw)))
    (hdp : dp + 20 < recursionLimit) (hun : un + 100 < cLine)
    (hret : ∀ t h' tk', Fr h₀ L h' m → News h₀ L h' ((W, (⟨.ref 237, some D, .plain, sl⟩ : Obj)) :: (D, dictOf es n) :: news) → Q (.int (x + y) t) { s with heap := h', toks := tk' }) :
    wpAny (model (RowW.prog (OpenRow.toRowW (OpenLaw.row Challenge.rw_xm0948_01))) w) (ktrTop dp un gd cn cs L a ccd cl outer) (call (.ref 212) [.ref W, .str (Str.ofString "+") t0, .int x tx, .int y ty]) Q E s := by
  revert X
  k_fill
  intro X
  w_strict (
    k_with_none
    k_with "k_get" => assumption
    k_with "k_room" => ((try dsimp only [depth_mark, depth_under_make, depth_under_kw, depth_in1, depth_deeper, depth_caller]); (try dsimp only); first | exact lt_up (by assumption) (Nat.le_of_ble_eq_true rfl) | exact lt_up2 (by assumption) (Nat.le_of_ble_eq_true rfl) | exact lt_up3 (by assumption) (Nat.le_of_ble_eq_true rfl) | exact lt_up0 (by assumption) | omega)
    k_with "k_units" => ((try dsimp only [units_in1, units_deeper, Around.mark_units, units_caller]); (try dsimp only); first | exact lt_up (by assumption) (Nat.le_of_ble_eq_true rfl) | exact lt_up2 (by assumption) (Nat.le_of_ble_eq_true rfl) | exact lt_up3 (by assumption) (Nat.le_of_ble_eq_true rfl) | exact lt_up0 (by assumption) | omega)
    k_with "unaryOp USub int" => (simp only [two31])
    k_with "compareOp Lt int int" => (simp only [two31])
    k_with "eval Call" => (k_here; k_dflt (refine Call_ ?_))
    k_with "call ref" => (k_here; (with_reducible show wpAny _ _ (call (Value.ref 135) [Value.int _ _, Value.int 32 _]) _ _ _); (with_unfolding_all refine cw (by k_dflt (omega)) (by k_dflt (omega)) (by k_dflt (k_asm)) (by k_dflt (k_asm)) (by k_dflt (k_asm)) (by k_dflt (k_asm)) (by k_dflt (k_asm)) (by k_dflt (first | exact rfl | assumption)) (by k_dflt (k_room)) (by k_dflt (k_units)) ?_); (intro t9 h9 tk9 F9 N9); (try dsimp only); (try k_fold))
    k_with "call ref" => (k_here; (with_reducible show wpAny _ _ (call (Value.ref 128) [Value.int _ _, Value.int 32 _]) _ _ _); (with_unfolding_all refine nw (by k_dflt (k_asm)) (by k_dflt (k_asm)) (by k_dflt (k_asm)) (by k_dflt (k_asm)) (by k_dflt (k_asm)) (by k_dflt (first | exact rfl | assumption)) (by k_dflt (k_room)) (by k_dflt (k_units)) ?_); (intro h9 tk9 F9 N9); (try dsimp only); (try k_fold))
    refine wpAny_call ?_
    k_dflt cell_enter
    k_steps
    all_goals (rename News _ _ _ _ => nN; exact hret _ _ _ (by assumption) (fun p hp => nN p (List.Mem.tail _ hp))))
theorem dv (b1 : 0 ≤ x ∧ x ≤ 1000) (b2 : 1 ≤ y ∧ y ≤ 1000)
    (B : Below A₀ base outer h₀) (F : Fr h₀ L s.heap m) (X : (KK (World.params w)).In h₀) (N : News h₀ L s.heap news)
    (T : Top pp9 ll9 mean mg mb h₀) (hk : cs.kind = .function)
    (hdp : dp + 5 < recursionLimit) (hun : un + 50 < cLine)
    (hret : ∀ t h' tk', Fr h₀ L h' m → News h₀ L h' news → Q (.int (Int.fdiv x y) t) { s with heap := h', toks := tk' }) :
    wpAny (model (RowW.prog (OpenRow.toRowW (OpenLaw.row Challenge.rw_xm0948_01))) w) (ktrTop dp un gd cn cs L a ccd cl outer) (call (.ref 170) [.int x tx, .int y ty]) Q E s := by
  revert X
  k_fill
  intro X
  w_strict (
    k_with_none
    k_with "k_get" => assumption
    k_with "k_room" => ((try dsimp only [depth_mark, depth_under_make, depth_under_kw, depth_in1, depth_deeper, depth_caller]); (try dsimp only); first | exact lt_up (by assumption) (Nat.le_of_ble_eq_true rfl) | exact lt_up2 (by assumption) (Nat.le_of_ble_eq_true rfl) | exact lt_up3 (by assumption) (Nat.le_of_ble_eq_true rfl) | exact lt_up0 (by assumption) | omega)
    k_with "k_units" => ((try dsimp only [units_in1, units_deeper, Around.mark_units, units_caller]); (try dsimp only); first | exact lt_up (by assumption) (Nat.le_of_ble_eq_true rfl) | exact lt_up2 (by assumption) (Nat.le_of_ble_eq_true rfl) | exact lt_up3 (by assumption) (Nat.le_of_ble_eq_true rfl) | exact lt_up0 (by assumption) | omega)
    k_with "unaryOp USub int" => (simp only [two31])
    k_with "compareOp Lt int int" => (simp only [two31])
    k_with "eval Call" => (k_here; k_dflt (refine Call_ ?_))
    k_with "call ref" => (k_here; (with_reducible show wpAny _ _ (call (Value.ref 135) [Value.int _ _, Value.int 32 _]) _ _ _); (with_unfolding_all refine cw (by k_dflt (omega)) (by k_dflt (omega)) (by k_dflt (k_asm)) (by k_dflt (k_asm)) (by k_dflt (k_asm)) (by k_dflt (k_asm)) (by k_dflt (k_asm)) (by k_dflt (first | exact rfl | assumption)) (by k_dflt (k_room)) (by k_dflt (k_units)) ?_); (intro t9 h9 tk9 F9 N9); (try dsimp only); (try k_fold))
    k_with "call ref" => (k_here; (with_reducible show wpAny _ _ (call (Value.ref 128) [Value.int _ _, Value.int 32 _]) _ _ _); (with_unfolding_all refine nw (by k_dflt (k_asm)) (by k_dflt (k_asm)) (by k_dflt (k_asm)) (by k_dflt (k_asm)) (by k_dflt (k_asm)) (by k_dflt (first | exact rfl | assumption)) (by k_dflt (k_room)) (by k_dflt (k_units)) ?_); (intro h9 tk9 F9 N9); (try dsimp only); (try k_fold))
    refine wpAny_call ?_
    k_dflt cell_enter
    k_steps
    all_goals first
      | (exfalso; omega)
      | (rw [if_neg (by omega), if_neg (by omega)]; first | exact hret _ _ _ (by assumption) (by assumption) | (exfalso; rename (_ == _) = false => hz; rw [decide_eq_false (by omega), decide_eq_false (by omega)] at hz; exact absurd hz (by decide))))
theorem bv_div (b1 : 0 ≤ x ∧ x ≤ 1000) (b2 : 1 ≤ y ∧ y ≤ 1000) (b3 : 0 ≤ Int.fdiv x y ∧ Int.fdiv x y ≤ 1000)
    (B : Below A₀ base outer h₀) (F : Fr h₀ L s.heap m) (X : (KK (World.params w)).In h₀) (N : News h₀ L s.heap ((W, (⟨.ref 237, some D, .plain, sl⟩ : Obj)) :: (D, dictOf es n) :: news))
    (T : Top pp9 ll9 mean mg mb h₀) (hk : cs.kind = .function) (hwid : getL (Str.ofString "width") es = some (some (.int 32 tw)))
    (hdp : dp + 20 < recursionLimit) (hun : un + 100 < cLine)
    (hret : ∀ t h' tk', Fr h₀ L h' m → News h₀ L h' ((W, (⟨.ref 237, some D, .plain, sl⟩ : Obj)) :: (D, dictOf es n) :: news) → Q (.int (Int.fdiv x y) t) { s with heap := h', toks := tk' }) :
    wpAny (model (RowW.prog (OpenRow.toRowW (OpenLaw.row Challenge.rw_xm0948_01))) w) (ktrTop dp un gd cn cs L a ccd cl outer) (call (.ref 212) [.ref W, .str (Str.ofString "/") t0, .int x tx, .int y ty]) Q E s := by
  revert X
  k_fill
  intro X
  w_strict (
    k_with_none
    k_with "k_get" => assumption
    k_with "k_room" => ((try dsimp only [depth_mark, depth_under_make, depth_under_kw, depth_in1, depth_deeper, depth_caller]); (try dsimp only); first | exact lt_up (by assumption) (Nat.le_of_ble_eq_true rfl) | exact lt_up2 (by assumption) (Nat.le_of_ble_eq_true rfl) | exact lt_up3 (by assumption) (Nat.le_of_ble_eq_true rfl) | exact lt_up0 (by assumption) | omega)
    k_with "k_units" => ((try dsimp only [units_in1, units_deeper, Around.mark_units, units_caller]); (try dsimp only); first | exact lt_up (by assumption) (Nat.le_of_ble_eq_true rfl) | exact lt_up2 (by assumption) (Nat.le_of_ble_eq_true rfl) | exact lt_up3 (by assumption) (Nat.le_of_ble_eq_true rfl) | exact lt_up0 (by assumption) | omega)
    k_with "unaryOp USub int" => (simp only [two31])
    k_with "compareOp Lt int int" => (simp only [two31])
    k_with "eval Call" => (k_here; k_dflt (refine Call_ ?_))
    k_with "call ref" => (k_here; (with_reducible show wpAny _ _ (call (Value.ref 135) [Value.int _ _, Value.int 32 _]) _ _ _); (with_unfolding_all refine cw (by k_dflt (omega)) (by k_dflt (omega)) (by k_dflt (k_asm)) (by k_dflt (k_asm)) (by k_dflt (k_asm)) (by k_dflt (k_asm)) (by k_dflt (k_asm)) (by k_dflt (first | exact rfl | assumption)) (by k_dflt (k_room)) (by k_dflt (k_units)) ?_); (intro t9 h9 tk9 F9 N9); (try dsimp only); (try k_fold))
    k_with "call ref" => (k_here; (with_reducible show wpAny _ _ (call (Value.ref 128) [Value.int _ _, Value.int 32 _]) _ _ _); (with_unfolding_all refine nw (by k_dflt (k_asm)) (by k_dflt (k_asm)) (by k_dflt (k_asm)) (by k_dflt (k_asm)) (by k_dflt (k_asm)) (by k_dflt (first | exact rfl | assumption)) (by k_dflt (k_room)) (by k_dflt (k_units)) ?_); (intro h9 tk9 F9 N9); (try dsimp only); (try k_fold))
    k_with "call ref" => (k_here; (with_reducible show wpAny _ _ (call (Value.ref 170) [Value.int _ _, Value.int _ _]) _ _ _); (with_unfolding_all refine dv (by k_dflt (omega)) (by k_dflt (omega)) (by k_dflt (k_asm)) (by k_dflt (k_asm)) (by k_dflt (k_asm)) (by k_dflt (k_asm)) (by k_dflt (k_asm)) (by k_dflt (first | exact rfl | assumption)) (by k_dflt (k_room)) (by k_dflt (k_units)) ?_); (intro t9 h9 tk9 F9 N9); (try dsimp only); (try k_fold))
    refine wpAny_call ?_
    k_dflt cell_enter
    k_steps
    all_goals (rename News _ _ _ _ => nN; exact hret _ _ _ (by assumption) (fun p hp => nN p (List.Mem.tail _ hp))))
theorem my_item {prog : Program} {A : Around} {value slice : PySem.Expr} {l : Addr} {vs : List Value} {k0 : Nat} {k : Int} {u : Tok} {v : Value} (N : News h₀ L s.heap news) (hm : (l, listOf vs.toArray k0) ∈ news)
    (h0 : 0 ≤ k) (hhi : k < 2 ^ 63) (hx : vs[k.toNat]? = some v) (h : Q v s)
    (hs : subscripted slice false (.ref l) (.int k u) = operate [.ref l, .int k u] (getItem (.ref l) (.int k u))) :
    wpAny (model prog w) A (subscriptTail value slice (.ref l) (.int k u)) Q E s :=
  have hl : s.heap.IsList l vs.toArray := ⟨_, (N _ hm).1, rfl, k0, rfl⟩
  tail_any hl.typeIs slot_list_getitem.lookup (wpAny_getItem_list hl h0 hhi (by simpa using hx) h) hs
theorem remdr {T0 : Addr} {k0 : Nat} {tx ty : Tok}
    (B : Below A₀ base outer h₀) (F : Fr h₀ L s.heap m) (X : (KK (World.params w)).In h₀) (N : News h₀ L s.heap ((T0, listOf #[.int x tx, .int y ty] k0) :: (W, (⟨.ref 237, some D, .plain, sl⟩ : Obj)) :: (D, dictOf es n) :: news))
    (T : Top pp9 ll9 mean mg mb h₀) (hk : cs.kind = .function) (hwid : getL (Str.ofString "width") es = some (some (.int 32 tw)))
    (hdp : dp + 20 < recursionLimit) (hun : un + 100 < cLine)
    (b1 : 0 ≤ x ∧ x ≤ 1000) (b2 : 1 ≤ y ∧ y ≤ 1000) (b3 : -1000 ≤ x - y * Int.fdiv x y ∧ x - y * Int.fdiv x y ≤ 1000) (b4 : 0 ≤ Int.fdiv x y ∧ Int.fdiv x y ≤ 1000) (b5 : 0 ≤ y * Int.fdiv x y ∧ y * Int.fdiv x y ≤ 1000)
    (hret : ∀ t h' tk', Fr h₀ L h' m → News h₀ L h' ((T0, listOf #[.int x tx, .int y ty] k0) :: (W, (⟨.ref 237, some D, .plain, sl⟩ : Obj)) :: (D, dictOf es n) :: news) → Q (.int (x - y * Int.fdiv x y) t) { s with heap := h', toks := tk' }) :
    wpAny (model (RowW.prog (OpenRow.toRowW (OpenLaw.row Challenge.rw_xm0948_01))) w) (ktrTop dp un gd cn cs L a ccd cl outer) (call (.ref 219) [.ref W, .ref T0]) Q E s := by
  revert X
  k_fill
  intro X
  w_strict (
    k_with_none
    k_with "k_get" => assumption
    k_with "k_room" => ((try dsimp only [depth_mark, depth_under_make, depth_under_kw, depth_in1, depth_deeper, depth_caller]); (try dsimp only); first | exact lt_up (by assumption) (Nat.le_of_ble_eq_true rfl) | exact lt_up2 (by assumption) (Nat.le_of_ble_eq_true rfl) | exact lt_up3 (by assumption) (Nat.le_of_ble_eq_true rfl) | exact lt_up0 (by assumption) | omega)
    k_with "k_units" => ((try dsimp only [units_in1, units_deeper, Around.mark_units, units_caller]); (try dsimp only); first | exact lt_up (by assumption) (Nat.le_of_ble_eq_true rfl) | exact lt_up2 (by assumption) (Nat.le_of_ble_eq_true rfl) | exact lt_up3 (by assumption) (Nat.le_of_ble_eq_true rfl) | exact lt_up0 (by assumption) | omega)
    k_with "unaryOp USub int" => (simp only [two31])
    k_with "compareOp Lt int int" => (simp only [two31])
    k_with "eval Call" => (k_here; k_dflt (refine Call_ ?_))
    k_with "call ref" => (k_here; (with_reducible show wpAny _ _ (call (Value.ref 135) [Value.int _ _, Value.int 32 _]) _ _ _); (with_unfolding_all refine cw (by k_dflt (omega)) (by k_dflt (omega)) (by k_dflt (k_asm)) (by k_dflt (k_asm)) (by k_dflt (k_asm)) (by k_dflt (k_asm)) (by k_dflt (k_asm)) (by k_dflt (first | exact rfl | assumption)) (by k_dflt (k_room)) (by k_dflt (k_units)) ?_); (intro t9 h9 tk9 F9 N9); (try dsimp only); (try k_fold))
    k_with "call ref" => (k_here; (with_reducible show wpAny _ _ (call (Value.ref 128) [Value.int _ _, Value.int 32 _]) _ _ _); (with_unfolding_all refine nw (by k_dflt (k_asm)) (by k_dflt (k_asm)) (by k_dflt (k_asm)) (by k_dflt (k_asm)) (by k_dflt (k_asm)) (by k_dflt (first | exact rfl | assumption)) (by k_dflt (k_room)) (by k_dflt (k_units)) ?_); (intro h9 tk9 F9 N9); (try dsimp only); (try k_fold))
    k_with "call ref" => (k_here; (with_reducible show wpAny _ _ (call (Value.ref 170) [Value.int _ _, Value.int _ _]) _ _ _); (with_unfolding_all refine dv (by k_dflt (omega)) (by k_dflt (omega)) (by k_dflt (k_asm)) (by k_dflt (k_asm)) (by k_dflt (k_asm)) (by k_dflt (k_asm)) (by k_dflt (k_asm)) (by k_dflt (first | exact rfl | assumption)) (by k_dflt (k_room)) (by k_dflt (k_units)) ?_); (intro t9 h9 tk9 F9 N9); (try dsimp only); (try k_fold))
    k_with "subscriptTail Name Constant ref int" => (k_here; k_dflt (refine my_item (by k_dflt (k_asm)) (by k_dflt (k_mem)) (by k_dflt (decide)) (by k_dflt (decide)) (by k_dflt (rfl)) ?_ (by k_dflt (with_unfolding_all rfl)); k_whole))
    refine wpAny_call ?_
    k_dflt cell_enter
    k_steps
    all_goals exact hret _ _ _ (by assumption) (by assumption))
end
end

section
abbrev tupO (vs : List Value) (k : Nat) : Obj := { cls := .type "tuple", data := .seq vs.toArray k }
theorem wide60 {x : Int} (h : -60 ≤ x ∧ x ≤ 60) : -1000 ≤ x ∧ x ≤ 1000 := ⟨Int.le_trans (by decide) h.1, Int.le_trans h.2 (by decide)⟩
theorem wideM {x : Int} (h : -1000 ≤ x ∧ x ≤ 1000) : -1000000 ≤ x ∧ x ≤ 1000000 := ⟨Int.le_trans (by decide) h.1, Int.le_trans h.2 (by decide)⟩
theorem dbl60 {x : Int} (h : -60 ≤ x ∧ x ≤ 60) : -1000 ≤ 2 * x ∧ 2 * x ≤ 1000 := by omega
theorem sub60 {x y : Int} (h : -60 ≤ x ∧ x ≤ 60) (h' : -60 ≤ y ∧ y ≤ 60) : -1000 ≤ x - y ∧ x - y ≤ 1000 := by omega
section
variable {pp9 : Program} {ll9 : List Str} {w : World} {mean : ExcName → Option Value} {mg mb : Str → Option Value} {dp un : Nat} {gd : Option (List Code)} {cn : Str} {cs : Scope} {a : Addr} {ccd : Value} {cl : List (Str × Addr)} {outer : List Env} {A₀ : Around} {base h₀ : Heap} {L : Addr} {m : Str → Option Value} {s : Shared} {Q E : Value → Shared → Prop}
  {W D : Addr} {sl : Array (Option Value)} {es : List DictEntry} {n : Nat} {tw : Tok} {news : List (Addr × Obj)} {x y z : Int} {T0 : Addr} {k0 : Nat} {tx ty tz : Tok}
theorem turned
    (B : Below A₀ base outer h₀) (F : Fr h₀ L s.heap m) (X : (KK (World.params w)).In h₀)
    (N : News h₀ L s.heap ((T0, tupO [.int x tx, .int y ty, .int z tz] k0) :: (W, instObj 237 D) :: (D, dictOf es n) :: news))
    (T : Top pp9 ll9 mean mg mb h₀) (hk : cs.kind = .function) (hwid : getL (Str.ofString "width") es = some (some (.int 32 tw)))
    (hdp : dp + 30 < recursionLimit) (hun : un + 200 < cLine)
    (b1 : -60 ≤ x ∧ x ≤ 60) (b2 : -60 ≤ y ∧ y ≤ 60) (b3 : -60 ≤ z ∧ z ≤ 60)
    (hret : ∀ T1 r1 r2 r3 t1 t2 t3 h' tk', turn (x, y, z) = (r1, r2, r3) → AllLt T1 ((T0, tupO [.int x tx, .int y ty, .int z tz] k0) :: (W, instObj 237 D) :: (D, dictOf es n) :: news) → Fr h₀ L h' m →
      News h₀ L h' ((T1, tupO [.int r1 t1, .int r2 t2, .int r3 t3] 0) :: (T0, tupO [.int x tx, .int y ty, .int z tz] k0) :: (W, instObj 237 D) :: (D, dictOf es n) :: news) → Q (.ref T1) { s with heap := h', toks := tk' }) :
    wpAny (model (RowW.prog (OpenRow.toRowW (OpenLaw.row Challenge.rw_xm0948_01))) w) (ktrTop dp un gd cn cs L a ccd cl outer) (call (.ref 248) [.ref W, .ref T0]) Q E s := by
  have w1 := wide60 b1
  have w2 := wide60 b2
  have w3 := wide60 b3
  have d2 := dbl60 b2
  have d3 := dbl60 b3
  have m2 := wideM d2
  have m3 := wideM d3
  have s1 := sub60 b2 b3
  have w0 : -1000 ≤ (2 : Int) ∧ (2 : Int) ≤ 1000 := by decide
  revert X
  k_fill
  intro X
  w_strict (
    k_with_none
    k_with "k_get" => assumption
    k_with "k_room" => ((try dsimp only [depth_mark, depth_under_make, depth_under_kw, depth_in1, depth_deeper, depth_caller]); (try dsimp only); first | exact lt_up (by assumption) (Nat.le_of_ble_eq_true rfl) | exact lt_up2 (by assumption) (Nat.le_of_ble_eq_true rfl) | exact lt_up3 (by assumption) (Nat.le_of_ble_eq_true rfl) | exact lt_up0 (by assumption) | omega)
    k_with "k_units" => ((try dsimp only [units_in1, units_deeper, Around.mark_units, units_caller]); (try dsimp only); first | exact lt_up (by assumption) (Nat.le_of_ble_eq_true rfl) | exact lt_up2 (by assumption) (Nat.le_of_ble_eq_true rfl) | exact lt_up3 (by assumption) (Nat.le_of_ble_eq_true rfl) | exact lt_up0 (by assumption) | omega)
    k_with "eval Call" => (k_here; k_dflt (refine Call_ ?_))
    k_with "call ref" => (k_here; (with_reducible show wpAny _ _ (call (Value.ref 212) [Value.ref _, Value.str (Str.ofString "*") _, Value.int _ _, Value.int _ _]) _ _ _); k_dflt ((with_unfolding_all refine bv_mul (by k_dflt (first | assumption | omega)) (by k_dflt (first | assumption | omega)) (by k_dflt (first | assumption | omega)) (by k_dflt (k_asm)) (by k_dflt (k_asm)) (by k_dflt (k_asm)) (by k_dflt (exact news_two (by k_asm) (by k_mem) (by k_mem) (fun _ hr => hr))) (by k_dflt (k_asm)) (by k_dflt (first | exact rfl | assumption)) (by k_dflt (assumption)) (by k_dflt (k_room)) (by k_dflt (k_units)) ?_); (intro t9 h9 tk9 F9 N9); (replace N9 := news_drop2 N9); (try dsimp only); (try k_fold)))
    k_with "call ref" => (k_here; (with_reducible show wpAny _ _ (call (Value.ref 212) [Value.ref _, Value.str (Str.ofString "-") _, Value.int _ _, Value.int _ _]) _ _ _); k_dflt ((with_unfolding_all refine bv_sub (by k_dflt (first | assumption | omega)) (by k_dflt (first | assumption | omega)) (by k_dflt (k_asm)) (by k_dflt (k_asm)) (by k_dflt (k_asm)) (by k_dflt (exact news_two (by k_asm) (by k_mem) (by k_mem) (fun _ hr => hr))) (by k_dflt (k_asm)) (by k_dflt (first | exact rfl | assumption)) (by k_dflt (assumption)) (by k_dflt (k_room)) (by k_dflt (k_units)) ?_); (intro t9 h9 tk9 F9 N9); (replace N9 := news_drop2 N9); (try dsimp only); (try k_fold)))
    k_with "call ref" => (k_here; (with_reducible show wpAny _ _ (call (Value.ref 212) [Value.ref _, Value.str (Str.ofString "+") _, Value.int _ _, Value.int _ _]) _ _ _); k_dflt ((with_unfolding_all refine bv_add (by k_dflt (first | assumption | omega)) (by k_dflt (first | assumption | omega)) (by k_dflt (k_asm)) (by k_dflt (k_asm)) (by k_dflt (k_asm)) (by k_dflt (exact news_two (by k_asm) (by k_mem) (by k_mem) (fun _ hr => hr))) (by k_dflt (k_asm)) (by k_dflt (first | exact rfl | assumption)) (by k_dflt (assumption)) (by k_dflt (k_room)) (by k_dflt (k_units)) ?_); (intro t9 h9 tk9 F9 N9); (replace N9 := news_drop2 N9); (try dsimp only); (try k_fold)))
    refine wpAny_call ?_
    k_dflt cell_enter
    k_steps
    all_goals (rename News _ _ _ _ => nN; refine' hret _ _ _ _ _ _ _ _ _ ?e ?o (by assumption) nN; (case o => assumption); (case e => (simp only [turn]; first | (rw [if_pos (by assumption)]; done) | (rw [if_neg (by assumption), if_pos (by assumption)]; done) | (rw [if_neg (by assumption), if_neg (by assumption)]; done)))))
end
end

section
/-- plain keys, not many -/
def RK (k : Nat) (es : List DictEntry) : Prop := es.length ≤ k ∧ ∀ e ∈ es, e.refKey = false
theorem rk_nil : RK 0 [] := ⟨Nat.zero_le _, fun _ he => by cases he⟩
theorem rk_any {k : Nat} {es : List DictEntry} (h : RK k es) : es.any (·.refKey) = false := by
  rw [List.any_eq_false]
  intro e he
  rw [h.2 e he]; decide
theorem rk_get {k : Nat} {es : List DictEntry} (h : RK k es) (y : Str) : (getL y es).isSome = true := by
  unfold getL
  cases es.find? (·.key.isStr y) with
  | some e => rfl
  | none => simp only [rk_any h]; rfl
theorem rk_put {name : Str} {q : Int} {t : Tok} {v : Value} : ∀ {k : Nat} {es : List DictEntry}, RK k es → RK (k + 1) (putL name q (.str name t) v es)
  | k, [], _ => ⟨Nat.succ_le_succ (Nat.zero_le _), fun e he => by
      rw [putL, List.mem_singleton] at he
      rw [he]; rfl⟩
  | 0, _ :: _, h => absurd h.1 (by simp)
  | k + 1, e :: r, h => by
    have hr : RK k r := ⟨Nat.le_of_succ_le_succ h.1, fun x hx => h.2 x (List.Mem.tail _ hx)⟩
    have h0 := h.2 e (List.Mem.head _)
    have ih := rk_put (name := name) (q := q) (t := t) (v := v) hr
    unfold putL
    split
    · exact ⟨Nat.le_succ_of_le h.1, fun x hx => by
        rcases List.mem_cons.mp hx with hx | hx
        · rw [hx]; exact h0
        · exact h.2 x (List.Mem.tail _ hx)⟩
    · exact ⟨Nat.succ_le_succ ih.1, fun x hx => by
        rcases List.mem_cons.mp hx with hx | hx
        · rw [hx]; exact h0
        · exact ih.2 x hx⟩
theorem find_same {name : Str} {q : Int} {t : Tok} {v : Value} : ∀ {es : List DictEntry}, ((putL name q (.str name t) v es).find? (·.key.isStr name)).map (·.val) = some v
  | [] => by
    have e : Value.isStr (.str name t) name = true := by simp [Value.isStr]
    unfold putL
    simp only [List.find?_cons, e, Option.map_some]
  | e :: r => by
    have ih := find_same (name := name) (q := q) (t := t) (v := v) (es := r)
    unfold putL
    split
    · rename_i h
      simp only [List.find?_cons, h, Option.map_some]
    · rename_i h
      simp only [List.find?_cons, h]
      exact ih
theorem get_of {y : Str} {v : Value} {es : List DictEntry} (h : (es.find? (·.key.isStr y)).map (·.val) = some v) : getL y es = some (some v) := by
  unfold getL
  cases h1 : es.find? (·.key.isStr y) with
  | none => rw [h1] at h; cases h
  | some e =>
    rw [h1] at h
    simp only [Option.map_some, Option.some.injEq] at h
    simp only [h]
theorem of_get {y : Str} {v : Value} {es : List DictEntry} (h : getL y es = some (some v)) : (es.find? (·.key.isStr y)).map (·.val) = some v := by
  unfold getL at h
  cases h1 : es.find? (·.key.isStr y) with
  | none =>
    rw [h1] at h
    exact absurd h (by show ¬ ((if es.any (·.refKey) = true then none else some none) = some (some v)); split <;> simp)
  | some e =>
    rw [h1] at h
    simp only [Option.some.injEq] at h
    simp only [Option.map_some, h]
theorem get_same {name : Str} {q : Int} {t : Tok} {v : Value} {es : List DictEntry} : getL name (putL name q (.str name t) v es) = some (some v) := get_of find_same
theorem find_other {y name : Str} {q : Int} {t : Tok} {v : Value} (hy : name ≠ y) : ∀ {es : List DictEntry},
    ((putL name q (.str name t) v es).find? (·.key.isStr y)).map (·.val) = (es.find? (·.key.isStr y)).map (·.val)
  | [] => by
    have e : Value.isStr (.str name t) y = false := by simp [Value.isStr, hy]
    unfold putL
    simp only [List.find?_cons, e, List.find?_nil]
  | e :: r => by
    have ih := find_other (y := y) (name := name) (q := q) (t := t) (v := v) hy (es := r)
    unfold putL
    split
    · simp only [List.find?_cons]
      rename_i h
      have hk : e.key.isStr y = false := by
        cases hh : e.key.isStr y with
        | false => rfl
        | true =>
          exfalso
          revert h hh
          cases e.key <;> simp [Value.isStr]
          intro a b; exact hy (a.symm.trans b)
      rw [hk]
    · simp only [List.find?_cons]
      split
      · rfl
      · exact ih
theorem get_other {y name : Str} {q : Int} {t : Tok} {v v0 : Value} {es : List DictEntry} (hy : name ≠ y) (h : getL y es = some (some v0)) : getL y (putL name q (.str name t) v es) = some (some v0) :=
  get_of ((find_other hy).trans (of_get h))

abbrev initBody : List Stmt := defBody (stmtAt 0 (classBody (stmtAt 32 body0)))
abbrev initScope : Scope := defScope (stmtAt 0 (classBody (stmtAt 32 body0)))
section
variable {w : World} {A : Around} {E : Value → Shared → Prop} {h₀ : Heap} {L x dx : Addr} {m : Str → Option Value} {cd : Value} {news : List (Addr × Obj)}
abbrev envI (L : Addr) (cd : Value) : Env := envOf (Str.ofString "World.__init__") initScope L 234 cd
/-- an expression that makes a value and leaves the frame and the ledger -/
def ValOk (P : Value → Prop) (w : World) (A : Around) (E : Value → Shared → Prop) (h₀ : Heap) (L : Addr) (m : Str → Option Value) (cd : Value) (val : PySem.Expr) : Prop :=
  ∀ (led : List (Addr × Obj)) (s : Shared) (Q : Value → Shared → Prop), Fr h₀ L s.heap m → News h₀ L s.heap led →
    (∀ v h' tk', P v → Fr h₀ L h' m → News h₀ L h' led → Q v { s with heap := h', toks := tk' }) → wpAny (model (RowW.prog (OpenRow.toRowW (OpenLaw.row Challenge.rw_xm0948_01))) w) A (eval val (envI L cd)) Q E s
theorem val_name {y : Str} {p : Pos} {v : Value} (hm : m y = some v) (hx : (envI L cd).kindOf y = some .local := by rfl) (hd : (y == ("__debug__" : Str)) = false := by decide) : ValOk (fun u => u = v) w A E h₀ L m cd (.Name y p) :=
  fun _ _ _ F N h => wpAny_Name (wpAny_loadName_local rfl hx F.ns hm (h v _ _ rfl F N)) hd
theorem ValOk.any {P : Value → Prop} {val : PySem.Expr} (h : ValOk P w A E h₀ L m cd val) : ValOk (fun _ => True) w A E h₀ L m cd val :=
  fun led s Q F N k => h led s Q F N fun v h' tk' _ => k v h' tk' trivial
theorem val_int {i : Int} {k : Nat} {p : Pos} : ValOk (fun _ => True) w A E h₀ L m cd (.Constant (.int i) k p) := by
  intro led s Q F N h
  w_strict (
    k_with_none
    k_with "k_room" => ((try dsimp only [depth_mark, depth_under_make, depth_under_kw, depth_in1, depth_deeper, depth_caller]); (try dsimp only); first | exact lt_up (by assumption) (Nat.le_of_ble_eq_true rfl) | exact lt_up2 (by assumption) (Nat.le_of_ble_eq_true rfl) | exact lt_up3 (by assumption) (Nat.le_of_ble_eq_true rfl) | exact lt_up0 (by assumption) | omega)
    k_with "k_units" => ((try dsimp only [units_in1, units_deeper, Around.mark_units, units_caller]); (try dsimp only); first | exact lt_up (by assumption) (Nat.le_of_ble_eq_true rfl) | exact lt_up2 (by assumption) (Nat.le_of_ble_eq_true rfl) | exact lt_up3 (by assumption) (Nat.le_of_ble_eq_true rfl) | exact lt_up0 (by assumption) | omega)
    k_steps
    exact h _ _ _ trivial F N)
theorem val_none {k : Nat} {p : Pos} : ValOk (fun _ => True) w A E h₀ L m cd (.Constant .none k p) := by
  intro led s Q F N h
  w_strict (
    k_with_none
    k_with "k_room" => ((try dsimp only [depth_mark, depth_under_make, depth_under_kw, depth_in1, depth_deeper, depth_caller]); (try dsimp only); first | exact lt_up (by assumption) (Nat.le_of_ble_eq_true rfl) | exact lt_up2 (by assumption) (Nat.le_of_ble_eq_true rfl) | exact lt_up3 (by assumption) (Nat.le_of_ble_eq_true rfl) | exact lt_up0 (by assumption) | omega)
    k_with "k_units" => ((try dsimp only [units_in1, units_deeper, Around.mark_units, units_caller]); (try dsimp only); first | exact lt_up (by assumption) (Nat.le_of_ble_eq_true rfl) | exact lt_up2 (by assumption) (Nat.le_of_ble_eq_true rfl) | exact lt_up3 (by assumption) (Nat.le_of_ble_eq_true rfl) | exact lt_up0 (by assumption) | omega)
    k_steps
    exact h _ _ _ trivial F N)
theorem val_dict {pp9 : Program} {ll9 : List Str} {mean : ExcName → Option Value} {mg mb : Str → Option Value} {p : Pos} (T : Top pp9 ll9 mean mg mb h₀) : ValOk (fun _ => True) w A E h₀ L m cd (.Dict [] [] p) :=
  fun _ _ _ F N h => newDict_K F N T.nolimit fun _ _ _ F' N' _ _ _ _ _ _ => h _ _ _ trivial F' fun p hp => N' p (List.Mem.tail _ hp)
theorem val_list {p : Pos} : ValOk (fun _ => True) w A E h₀ L m cd (.List [] p) := by
  intro led s Q F N h
  w_strict (
    k_with_none
    k_with "k_room" => ((try dsimp only [depth_mark, depth_under_make, depth_under_kw, depth_in1, depth_deeper, depth_caller]); (try dsimp only); first | exact lt_up (by assumption) (Nat.le_of_ble_eq_true rfl) | exact lt_up2 (by assumption) (Nat.le_of_ble_eq_true rfl) | exact lt_up3 (by assumption) (Nat.le_of_ble_eq_true rfl) | exact lt_up0 (by assumption) | omega)
    k_with "k_units" => ((try dsimp only [units_in1, units_deeper, Around.mark_units, units_caller]); (try dsimp only); first | exact lt_up (by assumption) (Nat.le_of_ble_eq_true rfl) | exact lt_up2 (by assumption) (Nat.le_of_ble_eq_true rfl) | exact lt_up3 (by assumption) (Nat.le_of_ble_eq_true rfl) | exact lt_up0 (by assumption) | omega)
    k_steps
    rename News _ _ _ _ => nN
    exact h _ _ _ trivial (by assumption) (fun p hp => nN p (List.Mem.tail _ hp)))
theorem val_in {pp9 : Program} {ll9 : List Str} {mean : ExcName → Option Value} {mg mb : Str → Option Value} (T : Top pp9 ll9 mean mg mb h₀) {k1 k2 : Nat} {p1 p2 p : Pos} :
    ValOk (fun _ => True) w A E h₀ L m cd (.Dict [some (.Constant (.str (Str.ofString "INPUT")) k1 p1)] [.Constant (.str (Str.ofString "INPUT")) k2 p2] p) := by
  intro led s Q F N h
  have hb := T.nolimit
  w_strict (
    k_with_none
    k_with "k_room" => ((try dsimp only [depth_mark, depth_under_make, depth_under_kw, depth_in1, depth_deeper, depth_caller]); (try dsimp only); first | exact lt_up (by assumption) (Nat.le_of_ble_eq_true rfl) | exact lt_up2 (by assumption) (Nat.le_of_ble_eq_true rfl) | exact lt_up3 (by assumption) (Nat.le_of_ble_eq_true rfl) | exact lt_up0 (by assumption) | omega)
    k_with "k_units" => ((try dsimp only [units_in1, units_deeper, Around.mark_units, units_caller]); (try dsimp only); first | exact lt_up (by assumption) (Nat.le_of_ble_eq_true rfl) | exact lt_up2 (by assumption) (Nat.le_of_ble_eq_true rfl) | exact lt_up3 (by assumption) (Nat.le_of_ble_eq_true rfl) | exact lt_up0 (by assumption) | omega)
    (refine Dict_made_str (by rfl) F (by rfl) (by rfl) (List.cons_ne_nil _ _) (Nat.le_of_ble_eq_true rfl) ?_)
    intro F1
    k_steps
    rename News _ _ _ _ => nN
    exact h _ _ _ trivial (by assumption) (fun p hp => nN p (List.Mem.tail _ hp)))
theorem val_out {pp9 : Program} {ll9 : List Str} {mean : ExcName → Option Value} {mg mb : Str → Option Value} (T : Top pp9 ll9 mean mg mb h₀) {k1 k2 : Nat} {p1 p2 p : Pos} :
    ValOk (fun _ => True) w A E h₀ L m cd (.Dict [some (.Constant (.str (Str.ofString "OUTPUT")) k1 p1)] [.Constant (.str (Str.ofString "OUTPUT")) k2 p2] p) := by
  intro led s Q F N h
  have hb := T.nolimit
  w_strict (
    k_with_none
    k_with "k_room" => ((try dsimp only [depth_mark, depth_under_make, depth_under_kw, depth_in1, depth_deeper, depth_caller]); (try dsimp only); first | exact lt_up (by assumption) (Nat.le_of_ble_eq_true rfl) | exact lt_up2 (by assumption) (Nat.le_of_ble_eq_true rfl) | exact lt_up3 (by assumption) (Nat.le_of_ble_eq_true rfl) | exact lt_up0 (by assumption) | omega)
    k_with "k_units" => ((try dsimp only [units_in1, units_deeper, Around.mark_units, units_caller]); (try dsimp only); first | exact lt_up (by assumption) (Nat.le_of_ble_eq_true rfl) | exact lt_up2 (by assumption) (Nat.le_of_ble_eq_true rfl) | exact lt_up3 (by assumption) (Nat.le_of_ble_eq_true rfl) | exact lt_up0 (by assumption) | omega)
    (refine Dict_made_str (by rfl) F (by rfl) (by rfl) (List.cons_ne_nil _ _) (Nat.le_of_ble_eq_true rfl) ?_)
    intro F1
    k_steps
    rename News _ _ _ _ => nN
    exact h _ _ _ trivial (by assumption) (fun p hp => nN p (List.Mem.tail _ hp)))
theorem store_one {P : Value → Prop} {name : Str} {val : PySem.Expr} {p1 p2 p3 : Pos} {k n : Nat} {es : List DictEntry} {s : Shared} {Q : Flow → Shared → Prop}
    (hsw : swapsWith val (some (.Attribute (.Name (Str.ofString "self") p1) name p2)) p3.line (envI L cd) = pure false) (hv : ValOk P w A E h₀ L m cd val) (hself : m (Str.ofString "self") = some (.ref x))
    (X : (KK (World.params w)).In h₀) (ht : takerIn (KK (World.params w)) 237 name = some none) (hg : RK k es) (hk : k < 900) (hxd : x ≠ dx) (hoff : ∀ p ∈ news, p.1 ≠ dx)
    (F : Fr h₀ L s.heap m) (N : News h₀ L s.heap ((x, instObj 237 dx) :: (dx, dictOf es n) :: news))
    (h : ∀ v q1 q2 h' tk', P v → Fr h₀ L h' m → News h₀ L h' ((x, instObj 237 dx) :: (dx, dictOf (putL name q1 (.str name q2) v es) (putN name es n)) :: news) → Q .next { s with heap := h', toks := tk' }) :
    wpAny (model (RowW.prog (OpenRow.toRowW (OpenLaw.row Challenge.rw_xm0948_01))) w) A (exec (.Assign [.Attribute (.Name (Str.ofString "self") p1) name p2] val p3) (envI L cd)) Q E s := by
  revert X
  k_fill
  intro X
  refine plainObj_wpAny_Assign_Attribute ?_ hsw
  refine hv _ s _ F N fun v h1 tk1 hp F1 N1 => ?_
  refine wpAny_Name (wpAny_loadName_local rfl rfl F1.ns hself ?_) (by decide)
  refine set_dict F1 X N1 (InstAt.of_news N1 (List.Mem.head _) (List.Mem.tail _ (List.Mem.head _))) rfl (by k_is) (by k_is) ht (by k_is) (rk_get hg name) rfl (.tail hxd (.head hoff)) ?_ fun h2 F2 N2 => h v _ _ h2 _ hp F2 N2
  exact Nat.le_trans (rk_put hg).1 (by omega)
def StOk (w : World) (A : Around) (E : Value → Shared → Prop) (h₀ : Heap) (L : Addr) (m : Str → Option Value) (cd : Value) (st : Stmt) : Prop :=
  ∃ name val p1 p2 p3, st = .Assign [.Attribute (.Name (Str.ofString "self") p1) name p2] val p3 ∧ name ≠ Str.ofString "width" ∧ ValOk (fun _ => True) w A E h₀ L m cd val ∧ takerIn (KK (World.params w)) 237 name = some none ∧
    swapsWith val (some (.Attribute (.Name (Str.ofString "self") p1) name p2)) p3.line (envI L cd) = pure false
def AllSt (w : World) (A : Around) (E : Value → Shared → Prop) (h₀ : Heap) (L : Addr) (m : Str → Option Value) (cd : Value) : List Stmt → Prop
  | [] => True
  | st :: r => StOk w A E h₀ L m cd st ∧ AllSt w A E h₀ L m cd r
theorem store_all {v0 : Value} (X : (KK (World.params w)).In h₀) (hself : m (Str.ofString "self") = some (.ref x)) (hxd : x ≠ dx) (hoff : ∀ p ∈ news, p.1 ≠ dx) {Q : Flow → Shared → Prop} :
    ∀ (l : List Stmt) (k n : Nat) (es : List DictEntry) (s : Shared), AllSt w A E h₀ L m cd l → RK k es → k + l.length < 900 → getL (Str.ofString "width") es = some (some v0) →
      Fr h₀ L s.heap m → News h₀ L s.heap ((x, instObj 237 dx) :: (dx, dictOf es n) :: news) →
      (∀ es' n' h' tk', getL (Str.ofString "width") es' = some (some v0) → Fr h₀ L h' m → News h₀ L h' ((x, instObj 237 dx) :: (dx, dictOf es' n') :: news) → Q .next { s with heap := h', toks := tk' }) →
      wpAny (model (RowW.prog (OpenRow.toRowW (OpenLaw.row Challenge.rw_xm0948_01))) w) A (execs l (envI L cd)) Q E s
  | [], _, n, es, s, _, _, _, hw, F, N, h => wpAny_execs_nil (h es n _ _ hw F N)
  | st :: r, k, n, es, s, hl, hg, hk, hw, F, N, h => by
    obtain ⟨⟨name, val, p1, p2, p3, rfl, hne, hv, ht, hsw⟩, hr⟩ := hl
    refine wpAny_execs_cons (store_one hsw hv hself X ht hg (by omega) hxd hoff F N fun v q1 q2 h' tk' _ F1 N1 => ?_)
    exact store_all X hself hxd hoff r (k + 1) _ _ _ hr (rk_put hg) (by simp only [List.length_cons] at hk; omega) (get_other hne hw) F1 N1 fun es' n' h2 tk2 hw2 F2 N2 => h es' n' h2 tk2 hw2 F2 N2
theorem init_body {pp9 : Program} {ll9 : List Str} {mean : ExcName → Option Value} {mg mb : Str → Option Value} {t2 : Tok} {v3 v4 v5 : Value} {s : Shared} {Q : Flow → Shared → Prop} (X : (KK (World.params w)).In h₀) (T : Top pp9 ll9 mean mg mb h₀)
    (F : Fr h₀ L s.heap m) (N : News h₀ L s.heap ((x, instObj 237 dx) :: (dx, dictOf [] 0) :: news)) (hxd : x ≠ dx) (hoff : ∀ p ∈ news, p.1 ≠ dx)
    (h1 : m (Str.ofString "self") = some (.ref x)) (h2 : m (Str.ofString "width") = some (.int 32 t2)) (h3 : m (Str.ofString "most_steps") = some v3) (h4 : m (Str.ofString "most_depth") = some v4) (h5 : m (Str.ofString "most_length") = some v5)
    (h : ∀ es n h' tk', getL (Str.ofString "width") es = some (some (.int 32 t2)) → Fr h₀ L h' m → News h₀ L h' ((x, instObj 237 dx) :: (dx, dictOf es n) :: news) → Q .next { s with heap := h', toks := tk' }) :
    wpAny (model (RowW.prog (OpenRow.toRowW (OpenLaw.row Challenge.rw_xm0948_01))) w) A (execs initBody (envI L cd)) Q E s := by
  revert X
  k_fill
  intro X
  show wpAny _ _ (execs (_ :: _) _) _ _ _
  refine wpAny_execs_cons (store_one rfl (val_name h2) h1 X (by k_is) rk_nil (by decide) hxd hoff F N fun v q1 q2 h' tk' hp F1 N1 => ?_)
  subst hp
  exact store_all X h1 hxd hoff _ 1 _ _ _ ⟨⟨_, _, _, _, _, rfl, by decide, (val_name h3).any, by k_is, rfl⟩,
      ⟨_, _, _, _, _, rfl, by decide, (val_name h4).any, by k_is, rfl⟩,
      ⟨_, _, _, _, _, rfl, by decide, (val_name h5).any, by k_is, rfl⟩,
      ⟨_, _, _, _, _, rfl, by decide, val_int, by k_is, rfl⟩,
      ⟨_, _, _, _, _, rfl, by decide, val_dict T, by k_is, rfl⟩,
      ⟨_, _, _, _, _, rfl, by decide, val_dict T, by k_is, rfl⟩,
      ⟨_, _, _, _, _, rfl, by decide, val_dict T, by k_is, rfl⟩,
      ⟨_, _, _, _, _, rfl, by decide, val_dict T, by k_is, rfl⟩,
      ⟨_, _, _, _, _, rfl, by decide, val_dict T, by k_is, rfl⟩,
      ⟨_, _, _, _, _, rfl, by decide, val_list, by k_is, rfl⟩,
      ⟨_, _, _, _, _, rfl, by decide, val_list, by k_is, rfl⟩,
      ⟨_, _, _, _, _, rfl, by decide, val_list, by k_is, rfl⟩,
      ⟨_, _, _, _, _, rfl, by decide, val_in T, by k_is, rfl⟩,
      ⟨_, _, _, _, _, rfl, by decide, val_out T, by k_is, rfl⟩,
      ⟨_, _, _, _, _, rfl, by decide, val_dict T, by k_is, rfl⟩,
      ⟨_, _, _, _, _, rfl, by decide, val_int, by k_is, rfl⟩,
      ⟨_, _, _, _, _, rfl, by decide, val_int, by k_is, rfl⟩,
      ⟨_, _, _, _, _, rfl, by decide, val_int, by k_is, rfl⟩,
      ⟨_, _, _, _, _, rfl, by decide, val_list, by k_is, rfl⟩,
      ⟨_, _, _, _, _, rfl, by decide, val_int, by k_is, rfl⟩,
      ⟨_, _, _, _, _, rfl, by decide, val_list, by k_is, rfl⟩,
      ⟨_, _, _, _, _, rfl, by decide, val_none, by k_is, rfl⟩,
      ⟨_, _, _, _, _, rfl, by decide, val_none, by k_is, rfl⟩,
      ⟨_, _, _, _, _, rfl, by decide, val_none, by k_is, rfl⟩,
      ⟨_, _, _, _, _, rfl, by decide, val_dict T, by k_is, rfl⟩, trivial⟩
    (rk_put rk_nil) (Nat.le_of_ble_eq_true rfl) get_same F1 N1 fun es' n' h2 tk2 hw2 F2 N2 => h es' n' h2 tk2 hw2 F2 N2
end
section
variable {pp9 : Program} {ll9 : List Str} {w : World} {mean : ExcName → Option Value} {mg mb : Str → Option Value} {dp un : Nat} {gd : Option (List Code)} {cn : Str} {cs : Scope} {a : Addr} {ccd : Value} {cl : List (Str × Addr)} {outer : List Env} {A₀ : Around} {base h₀ : Heap} {L : Addr} {m : Str → Option Value} {s : Shared} {Q E : Value → Shared → Prop} {news : List (Addr × Obj)}
theorem worldNew
    (B : Below A₀ base outer h₀) (F : Fr h₀ L s.heap m) (X : (KK (World.params w)).In h₀) (N : News h₀ L s.heap news)
    (T : Top pp9 ll9 mean mg mb h₀) (hk : cs.kind = .function)
    (hdp : dp + 20 < recursionLimit) (hun : un + 100 < cLine)
    (hret : ∀ W D es n tw h' tk', getL (Str.ofString "width") es = some (some (.int 32 tw)) → (∀ p ∈ news, p.1 < W) → (∀ p ∈ news, p.1 < D) → Fr h₀ L h' m → News h₀ L h' ((W, instObj 237 D) :: (D, dictOf es n) :: news) → Q (.ref W) { s with heap := h', toks := tk' }) :
    wpAny (model (RowW.prog (OpenRow.toRowW (OpenLaw.row Challenge.rw_xm0948_01))) w) (ktrTop dp un gd cn cs L a ccd cl outer) (call (.ref 237) []) Q E s := by
  revert X
  k_fill
  intro X
  w_strict (
    k_with_none
    k_with "k_room" => ((try dsimp only [depth_mark, depth_under_make, depth_under_kw, depth_in1, depth_deeper, depth_caller]); (try dsimp only); first | exact lt_up (by assumption) (Nat.le_of_ble_eq_true rfl) | exact lt_up2 (by assumption) (Nat.le_of_ble_eq_true rfl) | exact lt_up3 (by assumption) (Nat.le_of_ble_eq_true rfl) | exact lt_up0 (by assumption) | omega)
    k_with "k_units" => ((try dsimp only [units_in1, units_deeper, Around.mark_units, units_caller]); (try dsimp only); first | exact lt_up (by assumption) (Nat.le_of_ble_eq_true rfl) | exact lt_up2 (by assumption) (Nat.le_of_ble_eq_true rfl) | exact lt_up3 (by assumption) (Nat.le_of_ble_eq_true rfl) | exact lt_up0 (by assumption) | omega)
    k_dflt (refine' call_cls ?k1 ?k2 ?k3 ?k4 ?k5 ?k6 ?_; (case k1 => k_asm); (case k2 => k_asm); (case k3 => k_asm); (case k4 => k_is); (case k5 => k_is); (case k6 => k_is); k_whole; intro x' d' h' F' N' l1 l2; have l3 := l1; have l4 := l2; (try k_lt l1); (try k_lt2 l2); (try k_sweep); refine' code_def ?jk1 ?jk2 ?jk3 ?jk4 ?jk5 ?jkA ?jkF ?jkK ?jk6 ?jk7 ?jk8 ?jk9 ?jkB ?_ ?jc2 ?jc3 ?jc4 ?jc5; (case jkA => exact rfl); (case jkF => exact rfl); (case jkK => first | exact rfl | assumption); (case jk1 => k_asm); (case jk2 => k_asm); (case jk3 => k_asm); (case jk4 => k_asm); (case jk5 => k_asm); (case jk6 => k_is); (case jk7 => k_is); (case jk8 => k_room); (case jk9 => first | exact BindsTo.of_eq rfl | exact binds_K (by k_in) rfl (by k_is) rfl rfl rfl); (case jc5 => decide); (case jkB => exact locs rfl); (case jc2 => exact rfl); (case jc3 => exact rfl); (case jc4 => exact rfl); k_whole; intro g' L' h' FG' F' N' B' X' T'; (try dsimp only); (try k_lift B'); (try k_fold))
    with_unfolding_all refine init_body (by k_dflt k_asm) (by k_dflt k_asm) (by k_dflt k_asm) (by k_dflt k_asm) (Nat.ne_of_gt l4) (fun p hp => Nat.ne_of_lt (l3 p hp)) rfl rfl rfl rfl rfl ?_
    intro es9 n9 h9 tk9 hw9 F9 N9
    (try dsimp only)
    k_steps
    exact hret x' d' _ _ _ _ _ hw9 (fun p hp => Nat.lt_trans (l3 p hp) l4) l3 (by assumption) (by assumption))
end
end

section
def loopBody : Stmt → List Stmt
  | .For _ _ b _ _ => b
  | .While _ b _ _ => b
  | _ => []
def lawBody : List Stmt := defBody (stmtAt 35 Challenge.pw_xm0948_01.main.body)
def lawScope : Scope := defScope (stmtAt 35 Challenge.pw_xm0948_01.main.body)
def body1 : List Stmt := loopBody (stmtAt 5 lawBody)
def body1i : List Stmt := loopBody (stmtAt 1 body1)
def body2 : List Stmt := loopBody (stmtAt 7 lawBody)
def body3 : List Stmt := loopBody (stmtAt 11 lawBody)

abbrev mm (l : List (Str × Value)) (m0 : Str → Option Value) : Str → Option Value := fun z => match l.lookup z with | some v => some v | none => m0 z
theorem lookup_mem {l : List (Str × Value)} {z : Str} {v : Value} (h : l.lookup z = some v) : (z, v) ∈ l := by
  induction l with
  | nil => cases h
  | cons p l ih =>
    obtain ⟨y, u⟩ := p
    rw [List.lookup_cons] at h
    cases q : z == y with
    | true => rw [q] at h; cases h; rw [eq_of_beq q]; exact List.mem_cons_self
    | false => rw [q] at h; exact List.mem_cons_of_mem _ (ih h)
theorem mm_eq {l : List (Str × Value)} {m : Str → Option Value} (h : ∀ p ∈ l, m p.1 = some p.2) : mm l m = m := by
  funext z
  unfold mm
  split
  · rename_i v e; exact (h _ (lookup_mem e)).symm
  · rfl
theorem fr_mm {h₀ h : Heap} {L : Addr} {l : List (Str × Value)} {m : Str → Option Value} (F : Fr h₀ L h m) (hl : ∀ p ∈ l, m p.1 = some p.2) : Fr h₀ L h (mm l m) := by rw [mm_eq hl]; exact F
def triD (t : Tri) : Dat := .tuple [.int t.1, .int t.2.1, .int t.2.2]
theorem int_dat {l : List (Addr × Obj)} {v : Value} {i : Int} (h : DatIn l v (.int i)) : ∃ t, v = .int i t := by
  cases h; exact ⟨_, rfl⟩
theorem cons_dat {l : List (Addr × Obj)} {vs : List Value} {i : Int} {ds : List Dat} (h : DatAll l vs (.int i :: ds)) : ∃ t r, vs = .int i t :: r ∧ DatAll l r ds := by
  cases h with
  | cons h1 r =>
    obtain ⟨t, rfl⟩ := int_dat h1
    exact ⟨t, _, rfl, r⟩
theorem nil_dat {l : List (Addr × Obj)} {vs : List Value} (h : DatAll l vs []) : vs = [] := by cases h; rfl
theorem tup_dat {l : List (Addr × Obj)} {v : Value} {ds : List Dat} (h : DatIn l v (.tuple ds)) : ∃ a vs k, v = .ref a ∧ (a, tupO vs k) ∈ l ∧ DatAll l vs ds := by
  cases h with
  | tuple hm hd => exact ⟨_, _, _, rfl, hm, hd⟩
theorem getD_dat {l : List (Addr × Obj)} {v : Value} {t : Tri} (h : DatIn l v (triD t)) : ∃ a k t1 t2 t3, v = .ref a ∧ (a, tupO [.int t.1 t1, .int t.2.1 t2, .int t.2.2 t3] k) ∈ l := by
  obtain ⟨a, vs, k, rfl, hm, hd⟩ := tup_dat h
  obtain ⟨t1, r1, rfl, hd1⟩ := cons_dat hd
  obtain ⟨t2, r2, rfl, hd2⟩ := cons_dat hd1
  obtain ⟨t3, r3, rfl, hd3⟩ := cons_dat hd2
  rw [nil_dat hd3] at hm
  exact ⟨a, k, t1, t2, t3, rfl, hm⟩
theorem triIn {l : List (Addr × Obj)} {a : Addr} {k : Nat} {x y z : Int} {t1 t2 t3 : Tok} (h : (a, tupO [.int x t1, .int y t2, .int z t3] k) ∈ l) : DatIn l (.ref a) (triD (x, y, z)) :=
  .tuple h (.cons (.int _ _) (.cons (.int _ _) (.cons (.int _ _) .nil)))
theorem news_drop3 {h₀ h : Heap} {L : Addr} {l : List (Addr × Obj)} {p q r : Addr × Obj} (N : News h₀ L h (p :: q :: r :: l)) : News h₀ L h l := fun r hr => N r (List.Mem.tail _ (List.Mem.tail _ (List.Mem.tail _ hr)))
theorem news_ne {h₀ h : Heap} {L : Addr} {l : List (Addr × Obj)} {p q : Addr × Obj} (N : News h₀ L h l) (hp : p ∈ l) (hq : q ∈ l) (hc : p.2.cls ≠ q.2.cls) : @Ne Nat p.1 q.1 := by
  intro e
  have h1 := (N p hp).1
  have h2 := (N q hq).1
  have e' : p.1 = q.1 := e
  rw [e', h2] at h1
  exact hc (by rw [Option.some.inj h1])
theorem news_neO {h₀ h : Heap} {L : Addr} {l : List (Addr × Obj)} {p q : Addr × Obj} (N : News h₀ L h l) (hp : p ∈ l) (hq : q ∈ l) (hc : p.2 ≠ q.2) : @Ne Nat p.1 q.1 := by
  intro e
  have h1 := (N p hp).1
  have h2 := (N q hq).1
  have e' : p.1 = q.1 := e
  rw [e', h2] at h1
  exact hc (Option.some.inj h1).symm
def NotSeq (o : Obj) : Prop := (∀ vs k, o ≠ listOf vs k) ∧ (∀ vs k, o ≠ tupO vs k)
theorem notSeq_cell {o : Obj} {v : Option Value} (h : o.data = .cell v) : NotSeq o := ⟨fun _ _ e => (by rw [e] at h; cases h), fun _ _ e => (by rw [e] at h; cases h)⟩
theorem set_at {m1 m : Str → Option Value} {x : Str} (z : Str) {v u : Value} (h : z ≠ x) (hm : ∀ z, z ≠ x → m1 z = m z) (hz : m z = some u) : (fun y => if y = x then some v else m1 y) z = some u := (if_neg h).trans ((hm z h).trans hz)
end

section
def upN (k : Nat) : List Int := (List.range k).map fun (i : Nat) => (i : Int) + 1
def innerN (r x : Int) (k : Nat) : List Tri := (upN k).flatMap (innerOne r x)
theorem innerN_succ (r x : Int) (k : Nat) : innerN r x (k + 1) = innerN r x k ++ innerOne r x ((k : Int) + 1) := by
  unfold innerN upN
  rw [List.range_succ, List.map_append, List.flatMap_append]
  simp
theorem inner_yes {r x y : Int} (h : r - y * Int.fdiv r y = 0) : innerOne r x y = [(x, y, Int.fdiv r y)] := by
  have := fdiv_fmod_facts r y
  unfold innerOne
  rw [if_pos (by omega)]
theorem inner_no {r x y : Int} (h : ¬ r - y * Int.fdiv r y = 0) : innerOne r x y = [] := by
  have := fdiv_fmod_facts r y
  unfold innerOne
  rw [if_neg (by omega)]
theorem inner_facts {rr y : Int} (e1 : 1 ≤ y) (e2 : y ≤ rr) (b2 : rr ≤ 20) : (0 ≤ rr ∧ rr ≤ 1000) ∧ (1 ≤ y ∧ y ≤ 1000) ∧ (-1000 ≤ rr - y * Int.fdiv rr y ∧ rr - y * Int.fdiv rr y ≤ 1000) ∧ (0 ≤ Int.fdiv rr y ∧ Int.fdiv rr y ≤ 1000) ∧ (0 ≤ y * Int.fdiv rr y ∧ y * Int.fdiv rr y ≤ 1000) := by
  have ff := fdiv_fmod_facts rr y
  have f0 : 0 ≤ Int.fmod rr y := Int.fmod_nonneg_of_pos _ (by omega)
  have f1 : Int.fmod rr y < y := Int.fmod_lt_of_pos _ (by omega)
  have f2 : 0 ≤ Int.fdiv rr y := Int.fdiv_nonneg (by omega) (by omega)
  have f3 : Int.fdiv rr y ≤ rr := by
    rw [Int.fdiv_eq_ediv_of_nonneg _ (by omega)]
    exact Int.ediv_le_self _ (by omega)
  generalize y * Int.fdiv rr y = p at ff ⊢
  generalize Int.fdiv rr y = d at *
  generalize Int.fmod rr y = g at *
  omega

def JIn (T0 W D : Addr) (es : List DictEntry) (n : Nat) (rest0 : List (Addr × Obj)) (vs0 : List Value) (ts0 : List Tri) (rr x : Int) (m : Str → Option Value) (i : Nat) (m1 : Str → Option Value) (nx : List (Addr × Obj)) : Prop :=
  ∃ vs tl k, nx = (T0, listOf vs.toArray k) :: (W, instObj 237 D) :: (D, dictOf es n) :: (tl ++ rest0) ∧ DatAll (tl ++ rest0) vs ((ts0 ++ innerN rr x i).map triD) ∧ (∀ p ∈ tl, p.2.cls = .type "tuple") ∧ vs.length ≤ vs0.length + i ∧ (∀ z, z ≠ Str.ofString "y" → m1 z = m z)
section
variable {T0 W D D' : Addr} {es : List DictEntry} {n : Nat} {rest0 tl own : List (Addr × Obj)} {vs0 vs : List Value} {ts0 : List Tri} {rr x y : Int} {m m' : Str → Option Value} {i k : Nat} {h₀ h' : Heap} {L : Addr} {s₁ : Shared} {tk : Nat} {lo : Addr × Obj} {t1 t2 t3 : Tok}
theorem jin_no (F : Fr h₀ L h' m') (N : News h₀ L h' (lo :: (T0, listOf vs.toArray k) :: (W, instObj 237 D) :: (D, dictOf es n) :: ((tl ++ rest0) ++ own))) (hz : ¬ rr - y * Int.fdiv rr y = 0) (hy : y = 1 + (i : Int) * 1)
    (hD : DatAll (tl ++ rest0) vs ((ts0 ++ innerN rr x i).map triD)) (htl : ∀ p ∈ tl, p.2.cls = .type "tuple") (hl : vs.length ≤ vs0.length + i) (hm : ∀ z, z ≠ Str.ofString "y" → m' z = m z)
    (ho : OwnOff own (((T0, listOf vs.toArray k) :: (W, instObj 237 D) :: (D, dictOf es n) :: (tl ++ rest0)).map (·.1))) : InvEndG h₀ L (JIn T0 W D es n rest0 vs0 ts0 rr x m (i + 1)) own s₁ { s₁ with heap := h', toks := tk } := by
  refine InvEndG.intro (nx := (T0, listOf vs.toArray k) :: (W, instObj 237 D) :: (D, dictOf es n) :: (tl ++ rest0)) F N ⟨vs, tl, k, rfl, ?_, htl, by omega, hm⟩ ho (fun p hp => ?_) (fun p hp => ?_)
  · have e : (i : Int) + 1 = y := by omega
    rw [innerN_succ, e, inner_no hz, List.append_nil]
    exact hD
  · exact List.Mem.tail _ (by
      have : p ∈ ((T0, listOf vs.toArray k) :: (W, instObj 237 D) :: (D, dictOf es n) :: (tl ++ rest0)) ++ own := List.mem_append.mpr (.inl hp)
      exact this)
  · exact List.Mem.tail _ (List.Mem.tail _ (List.Mem.tail _ (List.Mem.tail _ (List.mem_append.mpr (.inr hp)))))
theorem jin_yes (F : Fr h₀ L h' m') (N : News h₀ L h' ((D', tupO [.int x t1, .int y t2, .int (Int.fdiv rr y) t3] 0) :: lo :: (T0, listOf (vs.toArray.push (.ref D')) k) :: (W, instObj 237 D) :: (D, dictOf es n) :: ((tl ++ rest0) ++ own))) (hz : rr - y * Int.fdiv rr y = 0) (hy : y = 1 + (i : Int) * 1)
    (hD : DatAll (tl ++ rest0) vs ((ts0 ++ innerN rr x i).map triD)) (htl : ∀ p ∈ tl, p.2.cls = .type "tuple") (hl : vs.length ≤ vs0.length + i) (hm : ∀ z, z ≠ Str.ofString "y" → m' z = m z)
    (ho : OwnOff own (((T0, listOf vs.toArray k') :: (W, instObj 237 D) :: (D, dictOf es n) :: (tl ++ rest0)).map (·.1))) (hoc : ∀ p ∈ own, p.2.cls ≠ .type "tuple") : InvEndG h₀ L (JIn T0 W D es n rest0 vs0 ts0 rr x m (i + 1)) own s₁ { s₁ with heap := h', toks := tk } := by
  rw [List.push_toArray] at N
  refine InvEndG.intro (nx := (T0, listOf (vs ++ [Value.ref D']).toArray k) :: (W, instObj 237 D) :: (D, dictOf es n) :: (((D', tupO [.int x t1, .int y t2, .int (Int.fdiv rr y) t3] 0) :: tl) ++ rest0)) F N ⟨vs ++ [Value.ref D'], _ :: tl, k, rfl, ?_, ?_, ?_, hm⟩ ?_ (fun p hp => ?_) (fun p hp => ?_)
  · have e : (i : Int) + 1 = y := by omega
    rw [innerN_succ, e, inner_yes hz, ← List.append_assoc, List.map_append]
    refine DatAll.append (DatAll.mono (fun p hp => List.Mem.tail _ hp) hD) (DatAll.one (triIn (List.Mem.head _)))
  · intro p hp
    rcases List.mem_cons.mp hp with rfl | hp
    · rfl
    · exact htl p hp
  · rw [List.length_append]; simp; omega
  · intro p hp b hb
    obtain ⟨q, hq, rfl⟩ := List.mem_map.mp hb
    rcases List.mem_cons.mp hq with rfl | hq
    · exact ho p hp _ (List.mem_map.mpr ⟨_, List.Mem.head _, rfl⟩)
    rcases List.mem_cons.mp hq with rfl | hq
    · exact ho p hp _ (List.mem_map.mpr ⟨_, List.Mem.tail _ (List.Mem.head _), rfl⟩)
    rcases List.mem_cons.mp hq with rfl | hq
    · exact ho p hp _ (List.mem_map.mpr ⟨_, List.Mem.tail _ (List.Mem.tail _ (List.Mem.head _)), rfl⟩)
    rcases List.mem_cons.mp hq with rfl | hq
    · exact news_ne N (List.Mem.tail _ (List.Mem.tail _ (List.Mem.tail _ (List.Mem.tail _ (List.Mem.tail _ (List.mem_append.mpr (.inr hp))))))) (List.Mem.head _) (hoc p hp)
    · exact ho p hp _ (List.mem_map.mpr ⟨q, List.Mem.tail _ (List.Mem.tail _ (List.Mem.tail _ hq)), rfl⟩)
  · rcases List.mem_cons.mp hp with rfl | hp
    · exact List.Mem.tail _ (List.Mem.tail _ (List.Mem.head _))
    rcases List.mem_cons.mp hp with rfl | hp
    · exact List.Mem.tail _ (List.Mem.tail _ (List.Mem.tail _ (List.Mem.head _)))
    rcases List.mem_cons.mp hp with rfl | hp
    · exact List.Mem.tail _ (List.Mem.tail _ (List.Mem.tail _ (List.Mem.tail _ (List.Mem.head _))))
    rcases List.mem_cons.mp hp with rfl | hp
    · exact List.Mem.head _
    · exact List.Mem.tail _ (List.Mem.tail _ (List.Mem.tail _ (List.Mem.tail _ (List.Mem.tail _ (List.mem_append.mpr (.inl hp))))))
  · exact List.Mem.tail _ (List.Mem.tail _ (List.Mem.tail _ (List.Mem.tail _ (List.Mem.tail _ (List.mem_append.mpr (.inr hp))))))
end
section
variable {pp9 : Program} {ll9 : List Str} {w : World} {mean : ExcName → Option Value} {mg mb : Str → Option Value} {dp un : Nat} {gd : Option (List Code)} {cn : Str} {a : Addr} {ccd : Value} {cl : List (Str × Addr)} {outer : List Env} {A₀ : Around} {base h₀ : Heap} {L : Addr} {m : Str → Option Value} {s : Shared} {E : Value → Shared → Prop} {Q : Flow → Shared → Prop}
  {W D : Addr} {es : List DictEntry} {n : Nat} {tw : Tok}

theorem inner_loop {T0 r : Addr} {rest0 : List (Addr × Obj)} {vs0 : List Value} {k0 : Nat} {ts0 : List Tri} {rr x : Int} {tr tx ta tb tc : Tok}
    (B : Below A₀ base outer h₀) (X : (KK (World.params w)).In h₀) (T : Top pp9 ll9 mean mg mb h₀)
    (hwid : getL (Str.ofString "width") es = some (some (.int 32 tw))) (hdp : dp + 60 < recursionLimit) (hun : un + 400 < cLine)
    (F : Fr h₀ L s.heap m) (hw : m (Str.ofString "world") = some (.ref W)) (hr : m (Str.ofString "rest") = some (.int rr tr)) (hx : m (Str.ofString "x") = some (.int x tx)) (ht : m (Str.ofString "triples") = some (.ref T0))
    (N : News h₀ L s.heap ((T0, listOf vs0.toArray k0) :: (W, instObj 237 D) :: (D, dictOf es n) :: rest0)) (hoff : ∀ p ∈ rest0, p.1 ≠ T0) (hd : DatAll rest0 vs0 (ts0.map triD))
    (hR : IsRange s.heap r 1 (rr + 1) 1 ta tb tc)
    (b1 : 1 ≤ x ∧ x ≤ 60) (b2 : rr ≤ 20) (b3 : -1000 ≤ rr) (hlen : vs0.length ≤ 10000)
    (done : ∀ vs tl k h tk m', DatAll (tl ++ rest0) vs ((ts0 ++ innerN rr x rr.toNat).map triD) → (∀ p ∈ tl, p.2.cls = .type "tuple") → vs.length ≤ vs0.length + rr.toNat → (∀ z, z ≠ Str.ofString "y" → m' z = m z) → Fr h₀ L h m' →
      News h₀ L h ((T0, listOf vs.toArray k) :: (W, instObj 237 D) :: (D, dictOf es n) :: (tl ++ rest0)) → Q .next { s with heap := h, toks := tk }) :
    wpAny (model (RowW.prog (OpenRow.toRowW (OpenLaw.row Challenge.rw_xm0948_01))) w) (ktrTop dp un gd cn lawScope L a ccd cl outer) (pyIter (.ref r)) (fun it s₂ => LoopAtV (RowW.prog (OpenRow.toRowW (OpenLaw.row Challenge.rw_xm0948_01))) w (ktrTop dp un gd cn lawScope L a ccd cl outer) h₀ (envX cn lawScope L a ccd cl) (Str.ofString "y") body1i Q E it s₂) E s := by
  have hWT : @Ne Nat W T0 := news_ne N (List.Mem.tail _ (List.Mem.head _)) (List.Mem.head _) (by show Value.ref 237 ≠ Value.type "list"; decide)
  have hDT : @Ne Nat D T0 := news_ne N (List.Mem.tail _ (List.Mem.tail _ (List.Mem.head _))) (List.Mem.head _) (by show Value.type "dict" ≠ Value.type "list"; decide)
  refine loop_range (n := rr.toNat) (JIn T0 W D es n rest0 vs0 ts0 rr x m)
    rfl hR (small_one (by omega) (by omega) (by omega) (by omega)) (by rw [rangeSize_nat]; congr 2; omega) F N ⟨vs0, [], k0, rfl, by simpa [innerN, upN] using hd, (fun _ h => nomatch h), Nat.le_refl _, fun _ _ => rfl⟩ ?_ ?_
  · rintro i t hi m₁ nx h tk own ho hoc ⟨vs, tl, k, rfl, hD, htl, hl, hm⟩ F₁ N₁
    obtain ⟨y, hy⟩ : ∃ y : Int, y = 1 + (i : Int) * 1 := ⟨_, rfl⟩
    rw [← hy] at F₁
    have hmm := mm_eq (l := [(Str.ofString "y", .int y t), (Str.ofString "world", .ref W), (Str.ofString "rest", .int rr tr), (Str.ofString "x", .int x tx), (Str.ofString "triples", .ref T0)]) (m := fun z => if z = Str.ofString "y" then some (.int y t) else m₁ z) (by
      intro p hp
      simp only [List.mem_cons, List.not_mem_nil, or_false] at hp
      rcases hp with rfl | rfl | rfl | rfl | rfl
      · exact if_pos rfl
      · exact set_at (Str.ofString "world") (by decide) hm hw
      · exact set_at (Str.ofString "rest") (by decide) hm hr
      · exact set_at (Str.ofString "x") (by decide) hm hx
      · exact set_at (Str.ofString "triples") (by decide) hm ht)
    have hm2 := fun z (hz : z ≠ Str.ofString "y") => (congrFun hmm z).trans ((if_neg hz).trans (hm z hz))
    rw [← hmm] at F₁
    have F₂ := F₁
    have N₂ : News h₀ L h ((T0, listOf vs.toArray k) :: (W, instObj 237 D) :: (D, dictOf es n) :: ((tl ++ rest0) ++ own)) := N₁
    have hoffA : ∀ p ∈ (tl ++ rest0) ++ own, @Ne Nat p.1 T0 := by
      intro p hp
      rcases List.mem_append.mp hp with hp | hp
      · rcases List.mem_append.mp hp with hp | hp
        · exact news_ne N₂ (List.Mem.tail _ (List.Mem.tail _ (List.Mem.tail _ (List.mem_append.mpr (.inl (List.mem_append.mpr (.inl hp))))))) (List.Mem.head _) (by rw [htl p hp]; show Value.type "tuple" ≠ Value.type "list"; decide)
        · exact hoff p hp
      · exact ho p hp T0 (List.Mem.head _)
    have e1 : 1 ≤ y := by omega
    have e2 : y ≤ rr := by omega
    obtain ⟨f1, f2, f3, f4, f5⟩ := inner_facts e1 e2 b2
    clear F₁ N₁ F N hmm
    show wpAny _ _ (execs (_ :: _) _) _ _ _
    revert X
    k_fill
    intro X
    w_strict (
      k_with_none
      k_with "k_get" => assumption
      k_with "k_room" => ((try dsimp only [depth_mark, depth_under_make, depth_under_kw, depth_in1, depth_deeper, depth_caller]); (try dsimp only); first | exact lt_up (by assumption) (Nat.le_of_ble_eq_true rfl) | exact lt_up2 (by assumption) (Nat.le_of_ble_eq_true rfl) | exact lt_up3 (by assumption) (Nat.le_of_ble_eq_true rfl) | exact lt_up0 (by assumption) | omega)
      k_with "k_units" => ((try dsimp only [units_in1, units_deeper, Around.mark_units, units_caller]); (try dsimp only); first | exact lt_up (by assumption) (Nat.le_of_ble_eq_true rfl) | exact lt_up2 (by assumption) (Nat.le_of_ble_eq_true rfl) | exact lt_up3 (by assumption) (Nat.le_of_ble_eq_true rfl) | exact lt_up0 (by assumption) | omega)
      k_with "eval Call" => (k_here; k_dflt (refine Call_ ?_))
      k_with "k_all" => assumption
      k_with "size_fits" => (simp only [List.size_toArray, sizeLine_eq]; omega)
      k_with "call ref" => (k_here; (with_reducible show wpAny _ _ (call (Value.ref 212) [Value.ref _, Value.str (Str.ofString "*") _, Value.int _ _, Value.int _ _]) _ _ _); k_dflt (with_unfolding_all refine bv_mul (by k_dflt (first | assumption | omega)) (by k_dflt (first | assumption | omega)) (by k_dflt (first | assumption | omega)) (by k_dflt (k_asm)) (by k_dflt (k_asm)) (by k_dflt (k_asm)) (by k_dflt (exact news_two (by k_asm) (by k_mem) (by k_mem) (fun _ hr => hr))) (by k_dflt (k_asm)) (by k_dflt (first | exact rfl | assumption)) (by k_dflt (assumption)) (by k_dflt (k_room)) (by k_dflt (k_units)) ?_; (intro t9 h9 tk9 F9 N9); (replace N9 := news_drop2 N9); (try dsimp only); (try k_fold)))
      k_with "call ref" => (k_here; (with_reducible show wpAny _ _ (call (Value.ref 212) [Value.ref _, Value.str (Str.ofString "-") _, Value.int _ _, Value.int _ _]) _ _ _); k_dflt (with_unfolding_all refine bv_sub (by k_dflt (first | assumption | omega)) (by k_dflt (first | assumption | omega)) (by k_dflt (k_asm)) (by k_dflt (k_asm)) (by k_dflt (k_asm)) (by k_dflt (exact news_two (by k_asm) (by k_mem) (by k_mem) (fun _ hr => hr))) (by k_dflt (k_asm)) (by k_dflt (first | exact rfl | assumption)) (by k_dflt (assumption)) (by k_dflt (k_room)) (by k_dflt (k_units)) ?_; (intro t9 h9 tk9 F9 N9); (replace N9 := news_drop2 N9); (try dsimp only); (try k_fold)))
      k_with "call ref" => (k_here; (with_reducible show wpAny _ _ (call (Value.ref 212) [Value.ref _, Value.str (Str.ofString "+") _, Value.int _ _, Value.int _ _]) _ _ _); k_dflt (with_unfolding_all refine bv_add (by k_dflt (first | assumption | omega)) (by k_dflt (first | assumption | omega)) (by k_dflt (k_asm)) (by k_dflt (k_asm)) (by k_dflt (k_asm)) (by k_dflt (exact news_two (by k_asm) (by k_mem) (by k_mem) (fun _ hr => hr))) (by k_dflt (k_asm)) (by k_dflt (first | exact rfl | assumption)) (by k_dflt (assumption)) (by k_dflt (k_room)) (by k_dflt (k_units)) ?_; (intro t9 h9 tk9 F9 N9); (replace N9 := news_drop2 N9); (try dsimp only); (try k_fold)))
      k_with "call ref" => (k_here; (with_reducible show wpAny _ _ (call (Value.ref 212) [Value.ref _, Value.str (Str.ofString "/") _, Value.int _ _, Value.int _ _]) _ _ _); k_dflt (with_unfolding_all refine bv_div (by k_dflt (first | assumption | omega)) (by k_dflt (first | assumption | omega)) (by k_dflt (first | assumption | omega)) (by k_dflt (k_asm)) (by k_dflt (k_asm)) (by k_dflt (k_asm)) (by k_dflt (exact news_two (by k_asm) (by k_mem) (by k_mem) (fun _ hr => hr))) (by k_dflt (k_asm)) (by k_dflt (first | exact rfl | assumption)) (by k_dflt (assumption)) (by k_dflt (k_room)) (by k_dflt (k_units)) ?_; (intro t9 h9 tk9 F9 N9); (replace N9 := news_drop2 N9); (try dsimp only); (try k_fold)))
      k_with "call ref" => (k_here; (with_reducible show wpAny _ _ (call (Value.ref 219) [Value.ref _, Value.ref _]) _ _ _); k_dflt (with_unfolding_all refine remdr (by k_dflt (k_asm)) (by k_dflt (k_asm)) (by k_dflt (k_asm)) (by k_dflt (exact news_one (news_two (by k_asm) (by k_mem) (by k_mem) (fun _ hr => hr)) (List.Mem.tail _ (List.Mem.tail _ (by k_mem))))) (by k_dflt (k_asm)) (by k_dflt (first | exact rfl | assumption)) (by k_dflt (assumption)) (by k_dflt (k_room)) (by k_dflt (k_units)) (by k_dflt (first | assumption | omega)) (by k_dflt (first | assumption | omega)) (by k_dflt (first | assumption | omega)) (by k_dflt (first | assumption | omega)) (by k_dflt (first | assumption | omega)) ?_; (intro t9 h9 tk9 F9 N9); (replace N9 := news_drop3 N9); (try dsimp only); (try k_fold)))
      (try k_fold)
      k_steps
      all_goals (rename News _ _ _ _ => nN; first
        | exact jin_yes (by assumption) nN (by assumption) hy hD htl hl hm2 ho hoc
        | exact jin_no (by assumption) nN (by assumption) hy hD htl hl hm2 ho))
  · rintro m₁ nx h tk ⟨vs, tl, k, rfl, hD, htl, hl, hm⟩ F₁ N₁
    exact done vs tl k h tk m₁ hD htl hl hm F₁ N₁
end
end

section
theorem datAll_sub {l l' : List (Addr × Obj)} (h : ∀ p ∈ l, (∃ vs k, p.2 = tupO vs k) → p ∈ l') : ∀ {vs : List Value} {ts : List Tri}, DatAll l vs (ts.map triD) → DatAll l' vs (ts.map triD)
  | _, [], hd => by
    cases hd
    exact .nil
  | _, t :: ts, hd => by
    rw [List.map_cons] at hd ⊢
    cases hd with
    | cons h1 r =>
      obtain ⟨a, k, t1, t2, t3, rfl, hm⟩ := getD_dat h1
      exact .cons (triIn (h _ hm ⟨_, _, rfl⟩)) (datAll_sub h r)
def tripsN (q : Int) (k : Nat) : List Tri := (List.range k).flatMap fun (i : Nat) => innerN (restOf q (1 + (i : Int) * 2)) (1 + (i : Int) * 2) (restOf q (1 + (i : Int) * 2)).toNat
theorem tripsN_succ (q : Int) (k : Nat) : tripsN q (k + 1) = tripsN q k ++ innerN (restOf q (1 + (k : Int) * 2)) (1 + (k : Int) * 2) (restOf q (1 + (k : Int) * 2)).toNat := by
  unfold tripsN
  rw [List.range_succ, List.flatMap_append]
  simp
def JOut (T0 W D cA : Addr) (oc : Obj) (es : List DictEntry) (n : Nat) (q : Int) (tq : Tok) (i : Nat) (m1 : Str → Option Value) (nx : List (Addr × Obj)) : Prop :=
  ∃ vs tl k, nx = (T0, listOf vs.toArray k) :: (W, instObj 237 D) :: (D, dictOf es n) :: (cA, oc) :: tl ∧ DatAll tl vs ((tripsN q i).map triD) ∧ (∀ p ∈ tl, p.2.cls = .type "tuple") ∧ vs.length ≤ 20 * i ∧
    m1 (Str.ofString "world") = some (.ref W) ∧ m1 (Str.ofString "triples") = some (.ref T0) ∧ m1 (Str.ofString "quarter") = some (.int q tq)
section
variable {T0 W D cA : Addr} {oc : Obj} {es : List DictEntry} {n : Nat} {tl tl' own : List (Addr × Obj)} {vs : List Value} {q x rr : Int} {tq : Tok} {m' : Str → Option Value} {i k : Nat} {h₀ h' : Heap} {L : Addr} {s₁ : Shared} {tk lv : Nat} {vs0 : List Value} {k0 : Nat}
theorem jout_end (F : Fr h₀ L h' m') (N : News h₀ L h' ((T0, listOf vs.toArray k) :: (W, instObj 237 D) :: (D, dictOf es n) :: (tl' ++ ((cA, oc) :: (tl ++ own)))))
    (hD : DatAll (tl' ++ ((cA, oc) :: (tl ++ own))) vs ((tripsN q i ++ innerN rr x rr.toNat).map triD)) (hl : vs.length ≤ lv + rr.toNat) (htl' : ∀ p ∈ tl', p.2.cls = .type "tuple")
    (hx : x = 1 + (i : Int) * 2) (hrr : rr = restOf q x) (h20 : rr ≤ 20) (hlv : lv ≤ 20 * i) (hcc : NotSeq oc) (htl : ∀ p ∈ tl, p.2.cls = .type "tuple")
    (h1 : m' (Str.ofString "world") = some (.ref W)) (h2 : m' (Str.ofString "triples") = some (.ref T0)) (h3 : m' (Str.ofString "quarter") = some (.int q tq))
    (ho : OwnOff own (((T0, listOf vs0.toArray k0) :: (W, instObj 237 D) :: (D, dictOf es n) :: (cA, oc) :: tl).map (·.1))) (hoc : ∀ p ∈ own, p.2.cls ≠ .type "tuple") :
    InvEndG h₀ L (JOut T0 W D cA oc es n q tq (i + 1)) own s₁ { s₁ with heap := h', toks := tk } := by
  refine InvEndG.intro (nx := (T0, listOf vs.toArray k) :: (W, instObj 237 D) :: (D, dictOf es n) :: (cA, oc) :: (tl' ++ tl)) F N ⟨vs, tl' ++ tl, k, rfl, ?_, ?_, by omega, h1, h2, h3⟩ ?_ (fun p hp => ?_) (fun p hp => ?_)
  · rw [tripsN_succ, ← hx, ← hrr]
    refine datAll_sub (fun p hp hc => ?_) hD
    rcases List.mem_append.mp hp with hp | hp
    · exact List.mem_append.mpr (.inl hp)
    rcases List.mem_cons.mp hp with rfl | hp
    · obtain ⟨_, _, e⟩ := hc
      exact absurd e (hcc.2 _ _)
    rcases List.mem_append.mp hp with hp | hp
    · exact List.mem_append.mpr (.inr hp)
    · obtain ⟨_, _, e⟩ := hc
      exact absurd (by rw [e]) (hoc p hp)
  · intro p hp
    rcases List.mem_append.mp hp with hp | hp
    · exact htl' p hp
    · exact htl p hp
  · intro p hp b hb
    obtain ⟨u, hu, rfl⟩ := List.mem_map.mp hb
    rcases List.mem_cons.mp hu with rfl | hu
    · exact ho p hp _ (List.mem_map.mpr ⟨_, List.Mem.head _, rfl⟩)
    rcases List.mem_cons.mp hu with rfl | hu
    · exact ho p hp _ (List.mem_map.mpr ⟨_, List.Mem.tail _ (List.Mem.head _), rfl⟩)
    rcases List.mem_cons.mp hu with rfl | hu
    · exact ho p hp _ (List.mem_map.mpr ⟨_, List.Mem.tail _ (List.Mem.tail _ (List.Mem.head _)), rfl⟩)
    rcases List.mem_cons.mp hu with rfl | hu
    · exact ho p hp _ (List.mem_map.mpr ⟨_, List.Mem.tail _ (List.Mem.tail _ (List.Mem.tail _ (List.Mem.head _))), rfl⟩)
    rcases List.mem_append.mp hu with hu | hu
    · exact news_ne N (List.Mem.tail _ (List.Mem.tail _ (List.Mem.tail _ (List.mem_append.mpr (.inr (List.Mem.tail _ (List.mem_append.mpr (.inr hp)))))))) (List.Mem.tail _ (List.Mem.tail _ (List.Mem.tail _ (List.mem_append.mpr (.inl hu))))) (by rw [htl' u hu]; exact hoc p hp)
    · exact ho p hp _ (List.mem_map.mpr ⟨u, List.Mem.tail _ (List.Mem.tail _ (List.Mem.tail _ (List.Mem.tail _ hu))), rfl⟩)
  · rcases List.mem_cons.mp hp with rfl | hp
    · exact List.Mem.head _
    rcases List.mem_cons.mp hp with rfl | hp
    · exact List.Mem.tail _ (List.Mem.head _)
    rcases List.mem_cons.mp hp with rfl | hp
    · exact List.Mem.tail _ (List.Mem.tail _ (List.Mem.head _))
    refine List.Mem.tail _ (List.Mem.tail _ (List.Mem.tail _ (List.mem_append.mpr ?_)))
    rcases List.mem_cons.mp hp with rfl | hp
    · exact .inr (List.Mem.head _)
    rcases List.mem_append.mp hp with hp | hp
    · exact .inl hp
    · exact .inr (List.Mem.tail _ (List.mem_append.mpr (.inl hp)))
  · exact List.Mem.tail _ (List.Mem.tail _ (List.Mem.tail _ (List.mem_append.mpr (.inr (List.Mem.tail _ (List.mem_append.mpr (.inr hp)))))))
end
theorem rangeSize_two {b : Int} (hb : 2 ≤ b) (hb' : b ≤ 1000) : Builtin.Range.rangeSize 1 b 2 = b / 2 := by
  unfold Builtin.Range.rangeSize
  rw [if_pos (by decide), if_pos (by omega)]
  omega
theorem small_two {b : Int} (hb : 2 ≤ b) (hb' : b ≤ 1000) : Builtin.Range.small 1 b 2 = true := by
  unfold Builtin.Range.small
  rw [rangeSize_two hb hb']
  simp only [Builtin.Range.rangeFitsLong, Bool.and_eq_true, Bool.or_eq_true, decide_eq_true_eq, beq_iff_eq, show (2 : Int) > 0 by decide, if_true]
  omega
theorem size_two {q : Int} (hb : 1 ≤ q) (hb' : q ≤ 11) : Builtin.Range.rangeSize 1 (4 * q + 1) 2 = (((2 * q).toNat : Nat) : Int) := by
  rw [rangeSize_two (by omega) (by omega)]; omega
section
variable {pp9 : Program} {ll9 : List Str} {w : World} {mean : ExcName → Option Value} {mg mb : Str → Option Value} {dp un : Nat} {gd : Option (List Code)} {cn : Str} {a : Addr} {ccd : Value} {outer : List Env} {A₀ : Around} {base h₀ : Heap} {L : Addr} {m : Str → Option Value} {s : Shared} {E : Value → Shared → Prop} {Q : Flow → Shared → Prop}
  {W D : Addr} {es : List DictEntry} {n : Nat} {tw : Tok}

theorem outer_loop {T0 r cA : Addr} {oc : Obj} {k0 : Nat} {q : Int} {tq ta tb tc tv : Tok}
    (B : Below A₀ base outer h₀) (X : (KK (World.params w)).In h₀) (T : Top pp9 ll9 mean mg mb h₀)
    (hwid : getL (Str.ofString "width") es = some (some (.int 32 tw))) (hdp : dp + 60 < recursionLimit) (hun : un + 400 < cLine)
    (hPE : PassesOwn (model (RowW.prog (OpenRow.toRowW (OpenLaw.row Challenge.rw_xm0948_01))) w) (ktrTop dp un gd cn lawScope L a ccd [(Str.ofString "whole", cA)] outer) (envX cn lawScope L a ccd [(Str.ofString "whole", cA)]) E)
    (b1 : 1 ≤ q ∧ q ≤ 11)
    (F : Fr h₀ L s.heap m) (hw : m (Str.ofString "world") = some (.ref W)) (ht : m (Str.ofString "triples") = some (.ref T0)) (hq : m (Str.ofString "quarter") = some (.int q tq))
    (N : News h₀ L s.heap ((T0, listOf (List.toArray []) k0) :: (W, instObj 237 D) :: (D, dictOf es n) :: (cA, oc) :: [])) (hcd : oc.data = .cell (some (.int (4 * q + 1) tv))) (hcc : NotSeq oc)
    (hR : IsRange s.heap r 1 (4 * q + 1) 2 ta tb tc)
    (done : ∀ vs tl k h tk m', DatAll tl vs ((tripsN q (2 * q).toNat).map triD) → (∀ p ∈ tl, p.2.cls = .type "tuple") → vs.length ≤ 1000 → Fr h₀ L h m' → m' (Str.ofString "world") = some (.ref W) → m' (Str.ofString "triples") = some (.ref T0) → m' (Str.ofString "quarter") = some (.int q tq) →
      News h₀ L h ((T0, listOf vs.toArray k) :: (W, instObj 237 D) :: (D, dictOf es n) :: (cA, oc) :: tl) → Q .next { s with heap := h, toks := tk }) :
    wpAny (model (RowW.prog (OpenRow.toRowW (OpenLaw.row Challenge.rw_xm0948_01))) w) (ktrTop dp un gd cn lawScope L a ccd [(Str.ofString "whole", cA)] outer) (pyIter (.ref r)) (fun it s₂ => LoopAtV (RowW.prog (OpenRow.toRowW (OpenLaw.row Challenge.rw_xm0948_01))) w (ktrTop dp un gd cn lawScope L a ccd [(Str.ofString "whole", cA)] outer) h₀ (envX cn lawScope L a ccd [(Str.ofString "whole", cA)]) (Str.ofString "x") body1 Q E it s₂) E s := by
  refine loop_range (n := (2 * q).toNat) (JOut T0 W D cA oc es n q tq) rfl hR ?hsm ?hsz F N ⟨[], [], k0, rfl, by simpa [tripsN] using DatAll.nil, (fun _ h => nomatch h), Nat.zero_le _, hw, ht, hq⟩ ?_ ?_
  case hsm => exact small_two (by omega) (by omega)
  case hsz => exact size_two (by omega) (by omega)
  · rintro i t hi m₁ nx h tk own ho hoc ⟨vs, tl, k, rfl, hD, htl, hl, h1, h2, h3⟩ F₁ N₁
    obtain ⟨x, hx⟩ : ∃ x : Int, x = 1 + (i : Int) * 2 := ⟨_, rfl⟩
    rw [← hx] at F₁
    have F₂ := fr_mm (l := [(Str.ofString "x", .int x t), (Str.ofString "world", .ref W), (Str.ofString "triples", .ref T0), (Str.ofString "quarter", .int q tq)]) F₁ (by
      intro p hp
      simp only [List.mem_cons, List.not_mem_nil, or_false] at hp
      rcases hp with rfl | rfl | rfl | rfl
      · exact if_pos rfl
      · exact set_at (Str.ofString "world") (by decide) (fun _ _ => rfl) h1
      · exact set_at (Str.ofString "triples") (by decide) (fun _ _ => rfl) h2
      · exact set_at (Str.ofString "quarter") (by decide) (fun _ _ => rfl) h3)
    have N₂ : News h₀ L h ((T0, listOf vs.toArray k) :: (W, instObj 237 D) :: (D, dictOf es n) :: (cA, oc) :: (tl ++ own)) := N₁
    have hcc' := hcc
    have hoffA : ∀ p ∈ (cA, oc) :: (tl ++ own), p.1 ≠ T0 := by
      intro p hp
      rcases List.mem_cons.mp hp with rfl | hp
      · exact news_neO N₂ (List.Mem.tail _ (List.Mem.tail _ (List.Mem.tail _ (List.Mem.head _)))) (List.Mem.head _) (hcc.1 _ _)
      rcases List.mem_append.mp hp with hp | hp
      · exact news_ne N₂ (List.Mem.tail _ (List.Mem.tail _ (List.Mem.tail _ (List.Mem.tail _ (List.mem_append.mpr (.inl hp)))))) (List.Mem.head _) (by rw [htl p hp]; show Value.type "tuple" ≠ Value.type "list"; decide)
      · exact ho p hp T0 (List.Mem.head _)
    have hDA : DatAll ((cA, oc) :: (tl ++ own)) vs ((tripsN q i).map triD) := hD.mono fun p hp => List.Mem.tail _ (List.mem_append.mpr (.inl hp))
    have e1 : 1 ≤ x := by omega
    have e2 : x ≤ 43 := by omega
    have x1 : 1 ≤ x * x := by
      have := Int.mul_le_mul e1 e1 (by omega) (by omega)
      omega
    have x2 : x * x ≤ 1849 := by
      have := Int.mul_le_mul e2 e2 (by omega) (by omega)
      omega
    have ff := fdiv_fmod_facts (4 * q + 1 - x * x) 4
    have f0 : 0 ≤ Int.fmod (4 * q + 1 - x * x) 4 := Int.fmod_nonneg_of_pos _ (by omega)
    have f1 : Int.fmod (4 * q + 1 - x * x) 4 < 4 := Int.fmod_lt_of_pos _ (by omega)
    have g1 : -1000 ≤ Int.fdiv (4 * q + 1 - x * x) 4 := by omega
    have g2 : Int.fdiv (4 * q + 1 - x * x) 4 ≤ 20 := by omega
    clear F₁ N₁ F N
    show wpAny _ _ (execs (_ :: _) _) _ _ _
    revert X
    k_fill
    intro X
    w_strict (
      k_with_none
      k_with "k_get" => assumption
      k_with "k_room" => ((try dsimp only [depth_mark, depth_under_make, depth_under_kw, depth_in1, depth_deeper, depth_caller]); (try dsimp only); first | exact lt_up (by assumption) (Nat.le_of_ble_eq_true rfl) | exact lt_up2 (by assumption) (Nat.le_of_ble_eq_true rfl) | exact lt_up3 (by assumption) (Nat.le_of_ble_eq_true rfl) | exact lt_up0 (by assumption) | omega)
      k_with "k_units" => ((try dsimp only [units_in1, units_deeper, Around.mark_units, units_caller]); (try dsimp only); first | exact lt_up (by assumption) (Nat.le_of_ble_eq_true rfl) | exact lt_up2 (by assumption) (Nat.le_of_ble_eq_true rfl) | exact lt_up3 (by assumption) (Nat.le_of_ble_eq_true rfl) | exact lt_up0 (by assumption) | omega)
      k_with "eval Call" => (k_here; k_dflt (refine Call_ ?_))
      k_with "k_all" => assumption
      k_with "size_fits" => (simp only [List.size_toArray, sizeLine_eq]; omega)
      k_with "exec For Name Call cons nil" => (k_here; (rename Fr _ _ _ _ => lF'); (with_unfolding_all refine For_invVF lF' (by k_dflt (exact rfl)) (by k_dflt (exact rfl)) ?_ (by k_dflt ((intro _; rfl))) (by k_dflt (first | assumption | passes_own)); k_whole))
      k_with "exec For Name Name cons nil" => (k_here; (rename Fr _ _ _ _ => lF'); (with_unfolding_all refine For_invVF lF' (by k_dflt (exact rfl)) (by k_dflt (exact rfl)) ?_ (by k_dflt ((intro _; rfl))) (by k_dflt (first | assumption | passes_own)); k_whole))
      k_with "pyIter ref" => (k_here; k_dflt (with_unfolding_all refine inner_loop (by k_dflt (k_asm)) (by k_dflt (k_asm)) (by k_dflt (k_asm)) (by k_dflt (assumption)) (by k_dflt (assumption)) (by k_dflt (assumption)) (by k_dflt (k_asm)) (by k_dflt (rfl)) (by k_dflt (rfl)) (by k_dflt (rfl)) (by k_dflt (rfl)) (by k_dflt (k_asm)) (by k_dflt (assumption)) (by k_dflt (assumption)) (by k_dflt (assumption)) (by k_dflt (first | assumption | omega)) (by k_dflt (first | assumption | omega)) (by k_dflt (first | assumption | omega)) (by k_dflt (first | assumption | omega)) ?_; (intro vs9 tl9 k9 h9 tk9 m9 hD9 htl9 hl9 hm9 F9 N9); (try dsimp only)))
      (try k_fold)
      k_steps
      rename News _ _ _ _ => nN
      rename (∀ z, z ≠ _ → _ = _) => hmz
      exact jout_end (x := x) (rr := Int.fdiv (4 * q + 1 - x * x) 4) (by assumption) nN (by assumption) (by assumption) (by assumption) hx rfl g2 hl hcc' htl ((hmz (Str.ofString "world") (by decide)).trans rfl) ((hmz (Str.ofString "triples") (by decide)).trans rfl) ((hmz (Str.ofString "quarter") (by decide)).trans rfl) ho hoc)
  · rintro m₁ nx h tk ⟨vs, tl, k, rfl, hD, htl, hl, h1, h2, h3⟩ F₁ N₁
    exact done vs tl k h tk m₁ hD htl (by omega) F₁ h1 h2 h3 N₁
end
end

section
theorem triD_inj {t u : Tri} (h : triD t = triD u) : t = u := by
  unfold triD at h
  simp only [Dat.tuple.injEq, List.cons.injEq, Dat.int.injEq, and_true] at h
  obtain ⟨h1, h2, h3⟩ := h
  exact Prod.ext h1 (Prod.ext h2 h3)
theorem triD_mem {t : Tri} {ts : List Tri} : triD t ∈ ts.map triD ↔ t ∈ ts := by
  constructor
  · intro h
    obtain ⟨u, hu, e⟩ := List.mem_map.mp h
    rw [← triD_inj e]; exact hu
  · exact fun h => List.mem_map.mpr ⟨t, h, rfl⟩
theorem triD_ok (t : Tri) : kqdOk 8 (triD t) = true := rfl
theorem triD_oks (ts : List Tri) : ∀ d ∈ ts.map triD, kqdOk 8 d = true := by
  intro d hd
  obtain ⟨u, _, rfl⟩ := List.mem_map.mp hd
  rfl
section
variable {prog : Program} {w : World} {A : Around} {E : Value → Shared → Prop} {s : Shared} {h₀ : Heap} {L a b T0 : Addr} {led n1 : List (Addr × Obj)} {vs : List Value} {k k1 k2 : Nat} {ts : List Tri} {x y z x' y' z' : Int} {t1 t2 t3 u1 u2 u3 : Tok} {Q : Value → Shared → Prop}
theorem in_tri (N : News h₀ L s.heap led) (hT : (T0, listOf vs.toArray k) ∈ led) (hd : DatAll n1 vs (ts.map triD)) (hs : ∀ p ∈ n1, p ∈ led) (ha : (a, tupO [.int x t1, .int y t2, .int z t3] k1) ∈ led) (hu : A.units + 64 < cLine)
    (h : Q (.bool (decide ((x, y, z) ∈ ts))) s) : wpAny (model prog w) A (compareOp .In (.ref a) (.ref T0)) Q E s := by
  refine kqd_isIn N hT rfl rfl hd hs (triIn ha) (fun p hp => hp) (triD_oks ts) (triD_ok _) hu ?_
  by_cases hq : (x, y, z) ∈ ts
  · have e : ∀ i : Decidable (triD (x, y, z) ∈ ts.map triD), @decide _ i = true := fun i => @decide_eq_true _ i (triD_mem.mpr hq)
    rw [e]
    rw [decide_eq_true hq] at h
    exact h
  · have e : ∀ i : Decidable (triD (x, y, z) ∈ ts.map triD), @decide _ i = false := fun i => @decide_eq_false _ i (fun e => hq (triD_mem.mp e))
    rw [e]
    rw [decide_eq_false hq] at h
    exact h
theorem notin_tri (N : News h₀ L s.heap led) (hT : (T0, listOf vs.toArray k) ∈ led) (hd : DatAll n1 vs (ts.map triD)) (hs : ∀ p ∈ n1, p ∈ led) (ha : (a, tupO [.int x t1, .int y t2, .int z t3] k1) ∈ led) (hm : (x, y, z) ∈ ts) (hu : A.units + 64 < cLine)
    (h : Q (.bool false) s) : wpAny (model prog w) A (compareOp .NotIn (.ref a) (.ref T0)) Q E s := by
  refine kqd_notIn N hT rfl rfl hd hs (triIn ha) (fun p hp => hp) (triD_oks ts) (triD_ok _) hu ?_
  have e : ∀ i : Decidable (triD (x, y, z) ∈ ts.map triD), @decide _ i = true := fun i => @decide_eq_true _ i (triD_mem.mpr hm)
  rw [e]
  exact h
theorem tri_shaped (t : Tri) : SeqAt.shaped (kqdP (triD t)) = true := by
  have l := kqd_lay 8 (triD t) (triD_ok t)
  unfold SeqAt.shaped; rw [l.1, Bool.true_and]; exact decide_eq_true (Nat.le_trans l.2 (by decide))
theorem eq_tri (N : News h₀ L s.heap led) (ha : (a, tupO [.int x t1, .int y t2, .int z t3] k1) ∈ led) (hb : (b, tupO [.int x' u1, .int y' u2, .int z' u3] k2) ∈ led) (hu : A.units + 64 < cLine)
    (h : Q (.bool (decide ((x, y, z) = (x', y', z')))) s) : wpAny (model prog w) A (compareOp .Eq (.ref a) (.ref b)) Q E s := by
  obtain ⟨as, ra⟩ := kqd_in N 8 (triIn ha) (triD_ok _)
  obtain ⟨bs, rb⟩ := kqd_in N 8 (triIn hb) (triD_ok _)
  refine eq_dataH ra rb (tri_shaped _) (tri_shaped _) hu ?_
  have e : PyData.eqv (kqdP (triD (x, y, z))) (kqdP (triD (x', y', z'))) = decide ((x, y, z) = (x', y', z')) := by
    have q := kqd_eqv 8 (triD (x, y, z)) (triD (x', y', z')) 8 (triD_ok _) (triD_ok _)
    by_cases hq : (x, y, z) = (x', y', z')
    · rw [decide_eq_true hq]; exact q.mpr (congrArg triD hq)
    · rw [decide_eq_false hq]; exact Bool.eq_false_iff.mpr fun e => hq (triD_inj (q.mp e))
  rw [e]; exact h
theorem ne_tri (N : News h₀ L s.heap led) (ha : (a, tupO [.int x t1, .int y t2, .int z t3] k1) ∈ led) (hb : (b, tupO [.int x' u1, .int y' u2, .int z' u3] k2) ∈ led) (hu : A.units + 64 < cLine)
    (he : (x, y, z) = (x', y', z')) (h : Q (.bool false) s) : wpAny (model prog w) A (compareOp .NotEq (.ref a) (.ref b)) Q E s := by
  obtain ⟨as, ra⟩ := kqd_in N 8 (triIn ha) (triD_ok _)
  obtain ⟨bs, rb⟩ := kqd_in N 8 (triIn hb) (triD_ok _)
  refine ne_dataH ra rb (tri_shaped _) (tri_shaped _) hu ?_
  have q := kqd_eqv 8 (triD (x, y, z)) (triD (x', y', z')) 8 (triD_ok _) (triD_ok _)
  rw [q.mpr (congrArg triD he)]; exact h
end
def Good (ts : List Tri) : Prop := ∀ t ∈ ts, turn t ∈ ts ∧ turn (turn t) = t ∧ (-60 ≤ t.1 ∧ t.1 ≤ 60) ∧ (-60 ≤ t.2.1 ∧ t.2.1 ≤ 60) ∧ (-60 ≤ t.2.2 ∧ t.2.2 ≤ 60)
theorem good_step {ts : List Tri} {t : Tri} {x y z : Int} (hG : Good ts) (hm : t ∈ ts) (ht : turn t = (x, y, z)) : (x, y, z) ∈ ts ∧ (-60 ≤ x ∧ x ≤ 60) ∧ (-60 ≤ y ∧ y ≤ 60) ∧ (-60 ≤ z ∧ z ≤ 60) := by
  have h1 := (hG t hm).1
  rw [ht] at h1
  have h2 := (hG _ h1).2.2
  exact ⟨h1, h2⟩
theorem good_back {ts : List Tri} {t u v : Tri} (hG : Good ts) (hm : t ∈ ts) (h1 : turn t = u) (h2 : turn u = v) : v = t := by
  rw [← h2, ← h1]
  exact (hG t hm).2.1
theorem news_four {h₀ h : Heap} {L : Addr} {l : List (Addr × Obj)} {p q r u : Addr × Obj} (N : News h₀ L h (p :: q :: r :: u :: l)) : News h₀ L h (p :: l) := fun v hv => by
  rcases List.mem_cons.mp hv with rfl | hv
  · exact N _ (List.Mem.head _)
  · exact N v (List.Mem.tail _ (List.Mem.tail _ (List.Mem.tail _ (List.Mem.tail _ hv))))
def Led2 (S0 T0 W D cA : Addr) (oc : Obj) (es : List DictEntry) (n : Nat) (us vs : List Value) (k' k : Nat) (tl : List (Addr × Obj)) : List (Addr × Obj) :=
  (S0, listOf us.toArray k') :: (T0, listOf vs.toArray k) :: (W, instObj 237 D) :: (D, dictOf es n) :: (cA, oc) :: tl
def J2 (S0 T0 W D cA : Addr) (oc : Obj) (es : List DictEntry) (n : Nat) (vs : List Value) (k : Nat) (tl : List (Addr × Obj)) (ts : List Tri) (q : Int) (tq : Tok) (i : Nat) (m1 : Str → Option Value) (nx : List (Addr × Obj)) : Prop :=
  ∃ us k', nx = Led2 S0 T0 W D cA oc es n us vs k' k tl ∧ DatAll tl us ((staysOf (ts.take i)).map triD) ∧ us.length ≤ i ∧
    m1 (Str.ofString "world") = some (.ref W) ∧ m1 (Str.ofString "triples") = some (.ref T0) ∧ m1 (Str.ofString "quarter") = some (.int q tq) ∧ m1 (Str.ofString "stays") = some (.ref S0)
theorem take_stays {ts : List Tri} {i : Nat} {t : Tri} (h : ts[i]? = some t) : staysOf (ts.take (i + 1)) = staysOf (ts.take i) ++ (if turn t = t then [t] else []) := by
  rw [List.take_add_one, h]
  unfold staysOf
  rw [List.filter_append]
  congr 1
  by_cases e : turn t = t
  · rw [if_pos e]; simp [e]
  · rw [if_neg e]; simp [e]
theorem j2_end {S0 T0 W D cA : Addr} {oc : Obj} {es : List DictEntry} {n : Nat} {us us' vs : List Value} {k k' k'' : Nat} {tl own : List (Addr × Obj)} {ts : List Tri} {q : Int} {tq : Tok} {i : Nat} {h₀ h' : Heap} {L : Addr} {m' : Str → Option Value} {s₁ : Shared} {tk : Nat} {p1 p2 p3 : Addr × Obj}
    (F : Fr h₀ L h' m') (N : News h₀ L h' (p1 :: p2 :: p3 :: (S0, listOf us'.toArray k'') :: (T0, listOf vs.toArray k) :: (W, instObj 237 D) :: (D, dictOf es n) :: (cA, oc) :: (tl ++ own)))
    (hD : DatAll tl us' ((staysOf (ts.take (i + 1))).map triD)) (hl : us'.length ≤ i + 1)
    (h1 : m' (Str.ofString "world") = some (.ref W)) (h2 : m' (Str.ofString "triples") = some (.ref T0)) (h3 : m' (Str.ofString "quarter") = some (.int q tq)) (h4 : m' (Str.ofString "stays") = some (.ref S0))
    (ho : OwnOff own ((Led2 S0 T0 W D cA oc es n us vs k' k tl).map (·.1))) : InvEndG h₀ L (J2 S0 T0 W D cA oc es n vs k tl ts q tq (i + 1)) own s₁ { s₁ with heap := h', toks := tk } := by
  refine InvEndG.intro (nx := Led2 S0 T0 W D cA oc es n us' vs k'' k tl) F N ⟨us', k'', rfl, hD, hl, h1, h2, h3, h4⟩ ho (fun p hp => ?_) (fun p hp => ?_)
  · have : p ∈ Led2 S0 T0 W D cA oc es n us' vs k'' k tl ++ own := List.mem_append.mpr (.inl hp)
    exact List.Mem.tail _ (List.Mem.tail _ (List.Mem.tail _ this))
  · have : p ∈ Led2 S0 T0 W D cA oc es n us' vs k'' k tl ++ own := List.mem_append.mpr (.inr hp)
    exact List.Mem.tail _ (List.Mem.tail _ (List.Mem.tail _ this))

section
variable {pp9 : Program} {ll9 : List Str} {w : World} {mean : ExcName → Option Value} {mg mb : Str → Option Value} {dp un : Nat} {gd : Option (List Code)} {cn : Str} {a : Addr} {ccd : Value} {outer : List Env} {A₀ : Around} {base h₀ : Heap} {L : Addr} {m : Str → Option Value} {s : Shared} {E : Value → Shared → Prop} {Q : Flow → Shared → Prop}
  {W D : Addr} {es : List DictEntry} {n : Nat} {tw : Tok}

theorem loop2 {S0 T0 cA : Addr} {oc : Obj} {k0 k : Nat} {vs : List Value} {tl : List (Addr × Obj)} {ts : List Tri} {q : Int} {tq : Tok}
    (B : Below A₀ base outer h₀) (X : (KK (World.params w)).In h₀) (T : Top pp9 ll9 mean mg mb h₀)
    (hwid : getL (Str.ofString "width") es = some (some (.int 32 tw))) (hdp : dp + 60 < recursionLimit) (hun : un + 400 < cLine)
    (F : Fr h₀ L s.heap m) (hw : m (Str.ofString "world") = some (.ref W)) (ht : m (Str.ofString "triples") = some (.ref T0)) (hq : m (Str.ofString "quarter") = some (.int q tq)) (hst : m (Str.ofString "stays") = some (.ref S0))
    (N : News h₀ L s.heap (Led2 S0 T0 W D cA oc es n [] vs k0 k tl)) (hd : DatAll tl vs (ts.map triD)) (hG : Good ts) (hlen : vs.length ≤ 1000) (htl : ∀ p ∈ tl, p.2.cls = .type "tuple") (hcc : NotSeq oc) (hST : @Ne Nat S0 T0)
    (done : ∀ us k' h tk m', DatAll tl us ((staysOf ts).map triD) → Fr h₀ L h m' → m' (Str.ofString "world") = some (.ref W) → m' (Str.ofString "triples") = some (.ref T0) → m' (Str.ofString "quarter") = some (.int q tq) → m' (Str.ofString "stays") = some (.ref S0) →
      News h₀ L h (Led2 S0 T0 W D cA oc es n us vs k' k tl) → Q .next { s with heap := h, toks := tk }) :
    wpAny (model (RowW.prog (OpenRow.toRowW (OpenLaw.row Challenge.rw_xm0948_01))) w) (ktrTop dp un gd cn lawScope L a ccd [(Str.ofString "whole", cA)] outer) (pyIter (.ref T0)) (fun it s₂ => LoopAtV (RowW.prog (OpenRow.toRowW (OpenLaw.row Challenge.rw_xm0948_01))) w (ktrTop dp un gd cn lawScope L a ccd [(Str.ofString "whole", cA)] outer) h₀ (envX cn lawScope L a ccd [(Str.ofString "whole", cA)]) (Str.ofString "triple") body2 Q E it s₂) E s := by
  have hvl : vs.length = ts.length := by rw [hd.length, List.length_map]
  refine loop_list (vs := vs) (nn := k) (J2 S0 T0 W D cA oc es n vs k tl ts q tq) rfl F N ⟨[], k0, rfl, by simpa [staysOf] using DatAll.nil, Nat.zero_le _, hw, ht, hq, hst⟩ ?_ ?_ ?_
  · rintro i m nx ⟨us, k', rfl, _⟩
    exact List.Mem.tail _ (List.Mem.head _)
  · rintro i v hv m₁ nx h tk own ho hoc ⟨us, k', rfl, hD, hl, h1, h2, h3, h4⟩ F₁ N₁
    have hi : i < vs.length := (List.getElem?_eq_some_iff.mp hv).1
    have hit : i < ts.length := by omega
    have hti : ts[i]? = some ts[i] := List.getElem?_eq_getElem hit
    have htm : ts[i] ∈ ts := List.getElem_mem hit
    have hvd : DatIn tl v (triD ts[i]) := by
      obtain ⟨v', e1, e2⟩ := hd.get (k := i) (by rw [List.length_map]; exact hit)
      rw [hv] at e1
      rw [Option.some.inj e1]
      simpa using e2
    obtain ⟨a, ka, ta1, ta2, ta3, rfl, hma⟩ := getD_dat hvd
    obtain ⟨⟨x, y, z⟩, htt⟩ : ∃ t, t = ts[i] := ⟨_, rfl⟩
    rw [← htt] at hma hti htm hvd
    have hbnd := (hG _ htm).2.2
    obtain ⟨hb1, hb2, hb3⟩ := hbnd
    have F₂ := fr_mm (l := [(Str.ofString "triple", .ref a), (Str.ofString "world", .ref W), (Str.ofString "triples", .ref T0), (Str.ofString "quarter", .int q tq), (Str.ofString "stays", .ref S0)]) F₁ (by
      intro p hp
      simp only [List.mem_cons, List.not_mem_nil, or_false] at hp
      rcases hp with rfl | rfl | rfl | rfl | rfl
      · exact if_pos rfl
      · exact set_at (Str.ofString "world") (by decide) (fun _ _ => rfl) h1
      · exact set_at (Str.ofString "triples") (by decide) (fun _ _ => rfl) h2
      · exact set_at (Str.ofString "quarter") (by decide) (fun _ _ => rfl) h3
      · exact set_at (Str.ofString "stays") (by decide) (fun _ _ => rfl) h4)
    have N₂ : News h₀ L h ((a, tupO [.int x ta1, .int y ta2, .int z ta3] ka) :: (S0, listOf us.toArray k') :: (T0, listOf vs.toArray k) :: (W, instObj 237 D) :: (D, dictOf es n) :: (cA, oc) :: (tl ++ own)) := news_one N₁ (List.mem_append.mpr (.inl (List.Mem.tail _ (List.Mem.tail _ (List.Mem.tail _ (List.Mem.tail _ (List.Mem.tail _ hma)))))))
    have hoffA : ∀ p ∈ (T0, listOf vs.toArray k) :: (W, instObj 237 D) :: (D, dictOf es n) :: (cA, oc) :: (tl ++ own), @Ne Nat p.1 S0 := by
      intro p hp
      rcases List.mem_cons.mp hp with rfl | hp
      · exact fun e => hST e.symm
      rcases List.mem_cons.mp hp with rfl | hp
      · exact news_ne N₂ (List.Mem.tail _ (List.Mem.tail _ (List.Mem.tail _ (List.Mem.head _)))) (List.Mem.tail _ (List.Mem.head _)) (by show Value.ref 237 ≠ Value.type "list"; decide)
      rcases List.mem_cons.mp hp with rfl | hp
      · exact news_ne N₂ (List.Mem.tail _ (List.Mem.tail _ (List.Mem.tail _ (List.Mem.tail _ (List.Mem.head _))))) (List.Mem.tail _ (List.Mem.head _)) (by show Value.type "dict" ≠ Value.type "list"; decide)
      rcases List.mem_cons.mp hp with rfl | hp
      · exact news_neO N₂ (List.Mem.tail _ (List.Mem.tail _ (List.Mem.tail _ (List.Mem.tail _ (List.Mem.tail _ (List.Mem.head _)))))) (List.Mem.tail _ (List.Mem.head _)) (hcc.1 _ _)
      rcases List.mem_append.mp hp with hp | hp
      · exact news_ne N₂ (List.Mem.tail _ (List.Mem.tail _ (List.Mem.tail _ (List.Mem.tail _ (List.Mem.tail _ (List.Mem.tail _ (List.mem_append.mpr (.inl hp)))))))) (List.Mem.tail _ (List.Mem.head _)) (by rw [htl p hp]; show Value.type "tuple" ≠ Value.type "list"; decide)
      · exact ho p hp S0 (List.Mem.head _)
    have haS : @Ne Nat a S0 := news_ne N₂ (List.Mem.head _) (List.Mem.tail _ (List.Mem.head _)) (by show Value.type "tuple" ≠ Value.type "list"; decide)
    clear F₁ N₁ F N hvd
    show wpAny _ _ (execs (_ :: _) _) _ _ _
    revert X
    k_fill
    intro X
    w_strict (
      k_with_none
      k_with "k_get" => assumption
      k_with "k_room" => ((try dsimp only [depth_mark, depth_under_make, depth_under_kw, depth_in1, depth_deeper, depth_caller]); (try dsimp only); first | exact lt_up (by assumption) (Nat.le_of_ble_eq_true rfl) | exact lt_up2 (by assumption) (Nat.le_of_ble_eq_true rfl) | exact lt_up3 (by assumption) (Nat.le_of_ble_eq_true rfl) | exact lt_up0 (by assumption) | omega)
      k_with "k_units" => ((try dsimp only [units_in1, units_deeper, Around.mark_units, units_caller]); (try dsimp only); first | exact lt_up (by assumption) (Nat.le_of_ble_eq_true rfl) | exact lt_up2 (by assumption) (Nat.le_of_ble_eq_true rfl) | exact lt_up3 (by assumption) (Nat.le_of_ble_eq_true rfl) | exact lt_up0 (by assumption) | omega)
      k_with "eval Call" => (k_here; k_dflt (refine Call_ ?_))
      k_with "k_all" => assumption
      k_with "size_fits" => (simp only [List.size_toArray, sizeLine_eq]; omega)
      k_with "exec For Name Call cons nil" => (k_here; (rename Fr _ _ _ _ => lF'); (with_unfolding_all refine For_invVF lF' (by k_dflt (exact rfl)) (by k_dflt (exact rfl)) ?_ (by k_dflt ((intro _; rfl))) (by k_dflt (first | assumption | passes_own)); k_whole))
      k_with "exec For Name Name cons nil" => (k_here; (rename Fr _ _ _ _ => lF'); (with_unfolding_all refine For_invVF lF' (by k_dflt (exact rfl)) (by k_dflt (exact rfl)) ?_ (by k_dflt ((intro _; rfl))) (by k_dflt (first | assumption | passes_own)); k_whole))
      k_with "call ref" => (k_here; (with_reducible show wpAny _ _ (call (Value.ref 248) [Value.ref _, Value.ref _]) _ _ _); k_dflt (with_unfolding_all refine turned (by k_dflt (k_asm)) (by k_dflt (k_asm)) (by k_dflt (k_asm)) (by k_dflt (exact news_one (news_two (by k_asm) (by k_mem) (by k_mem) (fun _ hr => hr)) (List.Mem.tail _ (List.Mem.tail _ (by k_mem))))) (by k_dflt (k_asm)) (by k_dflt (first | exact rfl | assumption)) (by k_dflt (assumption)) (by k_dflt (k_room)) (by k_dflt (k_units)) (by k_dflt (first | assumption | omega)) (by k_dflt (first | assumption | omega)) (by k_dflt (first | assumption | omega)) ?_; (intro T9 r91 r92 r93 t91 t92 t93 h9 tk9 hT9 hL9 F9 N9); (replace N9 := news_four N9); (have hg9 := good_step (by assumption) (by assumption) hT9); (obtain ⟨hm9, hb91, hb92, hb93⟩ := hg9); (simp only [AllLt, and_true] at hL9); (try dsimp only); (try k_fold)))
      k_with "compareOp NotIn ref ref" => (k_here; (with_reducible show wpAny _ _ (compareOp CmpOp.NotIn (Value.ref _) (Value.ref _)) _ _ _); k_dflt (with_unfolding_all refine notin_tri (by k_dflt (k_asm)) (by k_dflt (k_mem)) (by k_dflt (assumption)) (by k_dflt (kcj_all)) (by k_dflt (k_mem)) (by k_dflt (assumption)) (by k_dflt (k_units)) ?_; (try dsimp only)))
      k_with "compareOp NotEq ref ref" => (k_here; (with_reducible show wpAny _ _ (compareOp CmpOp.NotEq (Value.ref _) (Value.ref _)) _ _ _); k_dflt (with_unfolding_all refine ne_tri (by k_dflt (k_asm)) (by k_dflt (k_mem)) (by k_dflt (k_mem)) (by k_dflt (k_units)) (by k_dflt (exact good_back (by assumption) (by assumption) (by assumption) (by assumption))) ?_; (try dsimp only)))
      k_with "compareOp Eq ref ref" => (k_here; (with_reducible show wpAny _ _ (compareOp CmpOp.Eq (Value.ref _) (Value.ref _)) _ _ _); k_dflt (with_unfolding_all refine eq_tri (by k_dflt (k_asm)) (by k_dflt (k_mem)) (by k_dflt (k_mem)) (by k_dflt (k_units)) ?_; (try dsimp only)))
      (try k_fold)
      k_steps
      all_goals (rename News _ _ _ _ => nN; rename turn (x, y, z) = _ => hA; first
        | (rename (_, _, _) = (x, y, z) => hB; simp only [List.push_toArray] at nN; exact j2_end (us := us) (k' := k') (by assumption) nN (by rw [take_stays hti, if_pos (hA.trans hB), List.map_append]; exact hD.append (DatAll.one (triIn hma))) (by rw [List.length_append]; simp; omega) rfl rfl rfl rfl ho)
        | (rename ¬ (_, _, _) = (x, y, z) => hB; exact j2_end (us := us) (k' := k') (by assumption) nN (by rw [take_stays hti, if_neg (fun e => hB (hA.symm.trans e)), List.append_nil]; exact hD) (by omega) rfl rfl rfl rfl ho)))
  · rintro m₁ nx h tk ⟨us, k', rfl, hD, hl, h1, h2, h3, h4⟩ F₁ N₁
    rw [hvl, List.take_length] at hD
    exact done us k' h tk m₁ hD F₁ h1 h2 h3 h4 N₁
end
end

section
section
variable {prog : Program} {w : World} {A : Around} {E : Value → Shared → Prop} {s : Shared} {h₀ : Heap} {L a b T0 : Addr} {m : Str → Option Value} {led led' n1 : List (Addr × Obj)} {vs : List Value} {k k1 k2 : Nat} {ts : List Tri} {x y z x' y' z' : Int} {t1 t2 t3 u1 u2 u3 : Tok} {Q : Value → Shared → Prop}
theorem in_yes (N : News h₀ L s.heap led) (hT : (T0, listOf vs.toArray k) ∈ led) (hd : DatAll n1 vs (ts.map triD)) (hs : ∀ p ∈ n1, p ∈ led) (ha : (a, tupO [.int x t1, .int y t2, .int z t3] k1) ∈ led) (hm : (x, y, z) ∈ ts) (hu : A.units + 64 < cLine)
    (h : Q (.bool true) s) : wpAny (model prog w) A (compareOp .In (.ref a) (.ref T0)) Q E s := in_tri N hT hd hs ha hu (by rw [decide_eq_true hm]; exact h)
theorem in_no (N : News h₀ L s.heap led) (hT : (T0, listOf vs.toArray k) ∈ led) (hd : DatAll n1 vs (ts.map triD)) (hs : ∀ p ∈ n1, p ∈ led) (ha : (a, tupO [.int x t1, .int y t2, .int z t3] k1) ∈ led) (hm : ¬ (x, y, z) ∈ ts) (hu : A.units + 64 < cLine)
    (h : Q (.bool false) s) : wpAny (model prog w) A (compareOp .In (.ref a) (.ref T0)) Q E s := in_tri N hT hd hs ha hu (by rw [decide_eq_false hm]; exact h)
theorem met_append (F : Fr h₀ L s.heap m) (N : News h₀ L s.heap led) (U : Upd T0 (listOf vs.toArray k) (listOf (vs.toArray.push (.ref a)) (k + 1)) led led') (hd : DatAll n1 vs (ts.map triD)) (ha : (a, tupO [.int x t1, .int y t2, .int z t3] k1) ∈ led) (hz : vs.length ≤ 1000)
    (h : ∀ h', Fr h₀ L h' m → News h₀ L h' led' → DatAll ((a, tupO [.int x t1, .int y t2, .int z t3] k1) :: n1) (vs ++ [Value.ref a]) ((ts ++ [(x, y, z)]).map triD) → (vs ++ [Value.ref a]).length = vs.length + 1 → Q .none { s with heap := h' }) :
    wpAny (model prog w) A (call (.builtin "list.append") [.ref T0, .ref a]) Q E s :=
  append_K F N U (fun h' F' N' => h h' F' N' (by
    rw [List.map_append]
    exact (hd.mono fun p hp => List.Mem.tail _ hp).append (DatAll.one (triIn (List.Mem.head _)))) (by simp)) (by rw [List.size_toArray, sizeLine_eq]; omega)
theorem low_len (N : News h₀ L s.heap led) (hT : (T0, listOf vs.toArray k) ∈ led) (hz : vs.length ≤ 1000) (h : Q (.int (vs.length : Int) (s.toks + 1)) { s with toks := s.toks + 1 + 1 }) : wpAny (model prog w) A (call (.builtin "len") [.ref T0]) Q E s := by
  have hl : s.heap.IsList T0 vs.toArray := ⟨_, (N _ hT).1, rfl, k, rfl⟩
  have e : vs.toArray.size = vs.length := List.size_toArray ..
  exact len_list hl (by rw [e]; omega) (by rw [e]; exact h)
end
def walkB (ts st : List Tri) (lw : Nat) (whole : Int) : Nat → Tri → List Tri → Bool
  | 0, _, _ => false
  | n + 1, here, met =>
    if here.2.1 = here.2.2 then decide (here.1 * here.1 + 4 * here.2.1 * here.2.1 = whole)
    else !decide (swap here ∈ met) && decide (swap here ∈ ts) &&
      (if swap here ∈ st then decide (1 < lw) else !decide (turn (swap here) ∈ met ++ [swap here]) && decide (turn (swap here) ∈ ts) && walkB ts st lw whole n (turn (swap here)) ((met ++ [swap here]) ++ [turn (swap here)]))
def Led5 (M0 a S0 L0 T0 W D cA : Addr) (oc : Obj) (es : List DictEntry) (n : Nat) (mvs us lvs vs : List Value) (km ks kl k : Nat) (ta : Obj) (tl : List (Addr × Obj)) : List (Addr × Obj) :=
  (M0, listOf mvs.toArray km) :: (a, ta) :: (S0, listOf us.toArray ks) :: (L0, listOf lvs.toArray kl) :: (T0, listOf vs.toArray k) :: (W, instObj 237 D) :: (D, dictOf es n) :: (cA, oc) :: tl
def J5 (M0 S0 L0 T0 W D cA : Addr) (oc : Obj) (es : List DictEntry) (n : Nat) (us lvs vs : List Value) (ks kl k : Nat) (ts st : List Tri) (whole : Int) (i : Nat) (m1 : Str → Option Value) (nx : List (Addr × Obj)) : Prop :=
  ∃ a ka x y z t1 t2 t3 mvs km met tl, nx = Led5 M0 a S0 L0 T0 W D cA oc es n mvs us lvs vs km ks kl k (tupO [.int x t1, .int y t2, .int z t3] ka) tl ∧
    DatAll tl mvs (met.map triD) ∧ DatAll tl vs (ts.map triD) ∧ DatAll tl us (st.map triD) ∧ (∀ p ∈ tl, p.2.cls = .type "tuple") ∧ mvs.length + 2 * i ≤ 900 ∧ walkB ts st lvs.length whole i (x, y, z) met = true ∧ (x, y, z) ∈ ts ∧
    m1 (Str.ofString "here") = some (.ref a) ∧ m1 (Str.ofString "met") = some (.ref M0) ∧ m1 (Str.ofString "world") = some (.ref W) ∧ m1 (Str.ofString "triples") = some (.ref T0) ∧ m1 (Str.ofString "stays") = some (.ref S0) ∧ m1 (Str.ofString "low") = some (.ref L0)
def whileTest : Stmt → PySem.Expr
  | .While t _ _ _ => t
  | _ => .Constant .none 0 ⟨0, 0, 0, 0⟩
def test3 : PySem.Expr := whileTest (stmtAt 11 lawBody)
theorem walk_stop {ts st : List Tri} {lw : Nat} {whole x y z : Int} {i : Nat} {met : List Tri} (h : walkB ts st lw whole i (x, y, z) met = true) (e : y = z) : x * x + 4 * y * y = whole := by
  cases i with
  | zero => cases h
  | succ i =>
    unfold walkB at h
    rw [if_pos e] at h
    exact of_decide_eq_true h
theorem walk_on {ts st : List Tri} {lw : Nat} {whole x y z : Int} {i : Nat} {met : List Tri} (h : walkB ts st lw whole i (x, y, z) met = true) (e : ¬ y = z) : ¬ (x, z, y) ∈ met ∧ (x, z, y) ∈ ts ∧
    ((x, z, y) ∈ st → 1 < lw) ∧ (¬ (x, z, y) ∈ st → ¬ turn (x, z, y) ∈ met ++ [(x, z, y)] ∧ turn (x, z, y) ∈ ts ∧ ∃ j, i = j + 1 ∧ walkB ts st lw whole j (turn (x, z, y)) ((met ++ [(x, z, y)]) ++ [turn (x, z, y)]) = true) := by
  cases i with
  | zero => cases h
  | succ i =>
    unfold walkB at h
    rw [if_neg e] at h
    have es : swap (x, y, z) = (x, z, y) := rfl
    rw [es] at h
    simp only [Bool.and_eq_true, Bool.not_eq_true', decide_eq_true_eq, decide_eq_false_iff_not] at h
    obtain ⟨⟨h1, h2⟩, h3⟩ := h
    refine ⟨h1, h2, fun hs => ?_, fun hs => ?_⟩
    · rw [if_pos hs] at h3
      exact of_decide_eq_true h3
    · rw [if_neg hs] at h3
      simp only [Bool.and_eq_true, Bool.not_eq_true', decide_eq_true_eq, decide_eq_false_iff_not] at h3
      exact ⟨h3.1.1, h3.1.2, i, rfl, h3.2⟩
theorem j5_end {M0 S0 L0 T0 W D cA a T9 S1 : Addr} {oc oa : Obj} {es : List DictEntry} {n ks kl k km : Nat} {mvs us lvs vs : List Value} {ts st met : List Tri} {whole x y z r1 r2 r3 : Int} {j : Nat} {tl : List (Addr × Obj)} {h₀ h' : Heap} {L : Addr} {m' : Str → Option Value} {s : Shared} {tk : Nat} {Q : Flow → Shared → Prop} {u1 u2 u3 v1 v2 v3 : Tok}
    (F : Fr h₀ L h' m') (N : News h₀ L h' ((T9, tupO [.int r1 u1, .int r2 u2, .int r3 u3] 0) :: (S1, tupO [.int x v1, .int z v2, .int y v3] 0) :: (M0, listOf (mvs ++ [Value.ref S1] ++ [Value.ref T9]).toArray km) :: (a, oa) :: (S0, listOf us.toArray ks) :: (L0, listOf lvs.toArray kl) :: (T0, listOf vs.toArray k) :: (W, instObj 237 D) :: (D, dictOf es n) :: (cA, oc) :: tl))
    (hD : DatAll ((T9, tupO [.int r1 u1, .int r2 u2, .int r3 u3] 0) :: (S1, tupO [.int x v1, .int z v2, .int y v3] 0) :: tl) (mvs ++ [Value.ref S1] ++ [Value.ref T9]) (((met ++ [(x, z, y)]) ++ [(r1, r2, r3)]).map triD))
    (hD2 : DatAll tl vs (ts.map triD)) (hD3 : DatAll tl us (st.map triD)) (htl : ∀ p ∈ tl, p.2.cls = .type "tuple") (hlen : mvs.length + 2 * (j + 1) ≤ 900) (hT : turn (x, z, y) = (r1, r2, r3)) (w6 : turn (x, z, y) ∈ ts)
    (w7 : walkB ts st lvs.length whole j (turn (x, z, y)) ((met ++ [(x, z, y)]) ++ [turn (x, z, y)]) = true)
    (n1 : m' (Str.ofString "here") = some (.ref T9)) (n2 : m' (Str.ofString "met") = some (.ref M0)) (n3 : m' (Str.ofString "world") = some (.ref W)) (n4 : m' (Str.ofString "triples") = some (.ref T0)) (n5 : m' (Str.ofString "stays") = some (.ref S0)) (n6 : m' (Str.ofString "low") = some (.ref L0)) :
    WhileStep2 h₀ L s (J5 M0 S0 L0 T0 W D cA oc es n us lvs vs ks kl k ts st whole) Q (j + 1) .next { s with heap := h', toks := tk } := by
  rw [hT] at w6 w7
  have sub : ∀ p ∈ tl, p ∈ (T9, tupO [.int r1 u1, .int r2 u2, .int r3 u3] 0) :: (S1, tupO [.int x v1, .int z v2, .int y v3] 0) :: tl := fun p hp => List.Mem.tail _ (List.Mem.tail _ hp)
  refine ⟨h', tk, m', Led5 M0 T9 S0 L0 T0 W D cA oc es n (mvs ++ [Value.ref S1] ++ [Value.ref T9]) us lvs vs km ks kl k (tupO [.int r1 u1, .int r2 u2, .int r3 u3] 0) ((T9, tupO [.int r1 u1, .int r2 u2, .int r3 u3] 0) :: (S1, tupO [.int x v1, .int z v2, .int y v3] 0) :: tl), j, rfl, F, fun p hp => N p ?_, Nat.lt_succ_self _,
    T9, 0, r1, r2, r3, u1, u2, u3, _, km, _, _, rfl, hD, hD2.mono sub, hD3.mono sub, ?_, ?_, w7, w6, n1, n2, n3, n4, n5, n6⟩
  · unfold Led5 at hp
    simp only [List.mem_cons] at hp ⊢
    rcases hp with hp | hp | hp | hp | hp | hp | hp | hp | hp | hp | hp
    · exact .inr (.inr (.inl hp))
    · exact .inl hp
    · exact .inr (.inr (.inr (.inr (.inl hp))))
    · exact .inr (.inr (.inr (.inr (.inr (.inl hp)))))
    · exact .inr (.inr (.inr (.inr (.inr (.inr (.inl hp))))))
    · exact .inr (.inr (.inr (.inr (.inr (.inr (.inr (.inl hp)))))))
    · exact .inr (.inr (.inr (.inr (.inr (.inr (.inr (.inr (.inl hp))))))))
    · exact .inr (.inr (.inr (.inr (.inr (.inr (.inr (.inr (.inr (.inl hp)))))))))
    · exact .inl hp
    · exact .inr (.inl hp)
    · exact .inr (.inr (.inr (.inr (.inr (.inr (.inr (.inr (.inr (.inr hp)))))))))
  · intro p hp
    rcases List.mem_cons.mp hp with rfl | hp
    · rfl
    rcases List.mem_cons.mp hp with rfl | hp
    · rfl
    · exact htl p hp
  · simp only [List.length_append, List.length_cons, List.length_nil]; omega

section
variable {pp9 : Program} {ll9 : List Str} {w : World} {mean : ExcName → Option Value} {mg mb : Str → Option Value} {dp un : Nat} {gd : Option (List Code)} {cn : Str} {a : Addr} {ccd : Value} {outer : List Env} {A₀ : Around} {base h₀ : Heap} {L : Addr} {m : Str → Option Value} {s : Shared} {E : Value → Shared → Prop} {Q : Flow → Shared → Prop}
  {W D : Addr} {es : List DictEntry} {n : Nat} {tw : Tok}

theorem loop3 {M0 S0 L0 T0 cA : Addr} {oc : Obj} {ks kl k : Nat} {us lvs vs : List Value} {ts st : List Tri} {whole : Int} {i0 : Nat} {nx0 : List (Addr × Obj)} {pos : Pos} 
    (B : Below A₀ base outer h₀) (X : (KK (World.params w)).In h₀) (T : Top pp9 ll9 mean mg mb h₀)
    (hwid : getL (Str.ofString "width") es = some (some (.int 32 tw))) (hdp : dp + 60 < recursionLimit) (hun : un + 400 < cLine)
    (hPE : PassesOwn (model (RowW.prog (OpenRow.toRowW (OpenLaw.row Challenge.rw_xm0948_01))) w) (ktrTop dp un gd cn lawScope L a ccd [(Str.ofString "whole", cA)] outer) (envX cn lawScope L a ccd [(Str.ofString "whole", cA)]) E)
    (F : Fr h₀ L s.heap m) (N : News h₀ L s.heap nx0) (hJ : J5 M0 S0 L0 T0 W D cA oc es n us lvs vs ks kl k ts st whole i0 m nx0) (hG : Good ts) (hcc : NotSeq oc) (hl1 : lvs.length ≤ 1000)
    (hMS : @Ne Nat S0 M0) (hML : @Ne Nat L0 M0) (hMT : @Ne Nat T0 M0)
    (hret : ∀ h tk m', Fr h₀ L h m' → Q (.ret (.bool true)) { s with heap := h, toks := tk })
    (done : ∀ a ka x y z t1 t2 t3 l h tk m', m' (Str.ofString "here") = some (.ref a) → x * x + 4 * y * y = whole → (-60 ≤ x ∧ x ≤ 60) → (-60 ≤ y ∧ y ≤ 60) → Fr h₀ L h m' → News h₀ L h ((a, tupO [.int x t1, .int y t2, .int z t3] ka) :: (cA, oc) :: l) → Q .next { s with heap := h, toks := tk }) :
    wpAny (model (RowW.prog (OpenRow.toRowW (OpenLaw.row Challenge.rw_xm0948_01))) w) (ktrTop dp un gd cn lawScope L a ccd [(Str.ofString "whole", cA)] outer) (exec (.While test3 body3 [] pos) (envX cn lawScope L a ccd [(Str.ofString "whole", cA)])) Q E s := by
  refine While_inv2 (J5 M0 S0 L0 T0 W D cA oc es n us lvs vs ks kl k ts st whole) F N hJ ?_ hPE
  rintro i m₁ nx h tk F₁ N₁ ⟨a, ka, x, y, z, t1, t2, t3, mvs, km, met, tl, rfl, hD1, hD2, hD3, htl, hlen, hW, hmem, n1, n2, n3, n4, n5, n6⟩
  have hb := (hG _ hmem).2.2
  obtain ⟨hb1, hb2, hb3⟩ := hb
  have hmm := mm_eq (l := [(Str.ofString "here", .ref a), (Str.ofString "met", .ref M0), (Str.ofString "world", .ref W), (Str.ofString "triples", .ref T0), (Str.ofString "stays", .ref S0), (Str.ofString "low", .ref L0)]) (m := m₁) (by
    intro p hp
    simp only [List.mem_cons, List.not_mem_nil, or_false] at hp
    rcases hp with rfl | rfl | rfl | rfl | rfl | rfl
    · exact n1
    · exact n2
    · exact n3
    · exact n4
    · exact n5
    · exact n6)
  rw [← hmm] at F₁
  have N₂ : News h₀ L h ((M0, listOf mvs.toArray km) :: (a, tupO [.int x t1, .int y t2, .int z t3] ka) :: (S0, listOf us.toArray ks) :: (L0, listOf lvs.toArray kl) :: (T0, listOf vs.toArray k) :: (W, instObj 237 D) :: (D, dictOf es n) :: (cA, oc) :: tl) := N₁
  have hoffA : ∀ p ∈ (a, tupO [.int x t1, .int y t2, .int z t3] ka) :: (S0, listOf us.toArray ks) :: (L0, listOf lvs.toArray kl) :: (T0, listOf vs.toArray k) :: (W, instObj 237 D) :: (D, dictOf es n) :: (cA, oc) :: tl, @Ne Nat p.1 M0 := by
    intro p hp
    have hp0 := hp
    have key : p.2.cls ≠ Value.type "list" → @Ne Nat p.1 M0 := fun hc => news_ne N₂ (List.Mem.tail _ hp0) (List.Mem.head _) hc
    rcases List.mem_cons.mp hp with rfl | hp
    · exact key (by show Value.type "tuple" ≠ Value.type "list"; decide)
    rcases List.mem_cons.mp hp with rfl | hp
    · exact hMS
    rcases List.mem_cons.mp hp with rfl | hp
    · exact hML
    rcases List.mem_cons.mp hp with rfl | hp
    · exact hMT
    rcases List.mem_cons.mp hp with rfl | hp
    · exact key (by show Value.ref 237 ≠ Value.type "list"; decide)
    rcases List.mem_cons.mp hp with rfl | hp
    · exact key (by show Value.type "dict" ≠ Value.type "list"; decide)
    rcases List.mem_cons.mp hp with rfl | hp
    · exact news_neO N₂ (List.Mem.tail _ hp0) (List.Mem.head _) (hcc.1 _ _)
    · exact key (by rw [htl p hp]; show Value.type "tuple" ≠ Value.type "list"; decide)
  clear F N N₁
  show wpAny _ _ (isTrue (PySem.Expr.Compare _ _ _ _) _ (eval (PySem.Expr.Compare _ _ _ _) _)) _ _ _
  by_cases hyz : y = z
  · have hfin := walk_stop hW hyz
    revert X
    k_fill
    intro X
    w_strict (
      k_with_none
      k_with "k_get" => assumption
      k_with "k_room" => ((try dsimp only [depth_mark, depth_under_make, depth_under_kw, depth_in1, depth_deeper, depth_caller]); (try dsimp only); first | exact lt_up (by assumption) (Nat.le_of_ble_eq_true rfl) | exact lt_up2 (by assumption) (Nat.le_of_ble_eq_true rfl) | exact lt_up3 (by assumption) (Nat.le_of_ble_eq_true rfl) | exact lt_up0 (by assumption) | omega)
      k_with "k_units" => ((try dsimp only [units_in1, units_deeper, Around.mark_units, units_caller]); (try dsimp only); first | exact lt_up (by assumption) (Nat.le_of_ble_eq_true rfl) | exact lt_up2 (by assumption) (Nat.le_of_ble_eq_true rfl) | exact lt_up3 (by assumption) (Nat.le_of_ble_eq_true rfl) | exact lt_up0 (by assumption) | omega)
      k_with "eval Call" => (k_here; k_dflt (refine Call_ ?_))
      k_with "k_all" => assumption
      k_with "size_fits" => (simp only [List.size_toArray, sizeLine_eq]; omega)
      k_with "exec For Name Call cons nil" => (k_here; (rename Fr _ _ _ _ => lF'); (with_unfolding_all refine For_invVF lF' (by k_dflt (exact rfl)) (by k_dflt (exact rfl)) ?_ (by k_dflt ((intro _; rfl))) (by k_dflt (first | assumption | passes_own)); k_whole))
      k_with "exec For Name Name cons nil" => (k_here; (rename Fr _ _ _ _ => lF'); (with_unfolding_all refine For_invVF lF' (by k_dflt (exact rfl)) (by k_dflt (exact rfl)) ?_ (by k_dflt ((intro _; rfl))) (by k_dflt (first | assumption | passes_own)); k_whole))
      k_with "call ref" => (k_here; (with_reducible show wpAny _ _ (call (Value.ref 248) [Value.ref _, Value.ref _]) _ _ _); k_dflt (with_unfolding_all refine turned (by k_dflt (k_asm)) (by k_dflt (k_asm)) (by k_dflt (k_asm)) (by k_dflt (exact news_one (news_two (by k_asm) (by k_mem) (by k_mem) (fun _ hr => hr)) (List.Mem.tail _ (List.Mem.tail _ (by k_mem))))) (by k_dflt (k_asm)) (by k_dflt (first | exact rfl | assumption)) (by k_dflt (assumption)) (by k_dflt (k_room)) (by k_dflt (k_units)) (by k_dflt (first | assumption | omega)) (by k_dflt (first | assumption | omega)) (by k_dflt (first | assumption | omega)) ?_; (intro T9 r91 r92 r93 t91 t92 t93 h9 tk9 hT9 hL9 F9 N9); (replace N9 := news_four N9); (have hg9 := good_step (by assumption) (by assumption) hT9); (obtain ⟨hm9, hb91, hb92, hb93⟩ := hg9); (simp only [AllLt, and_true] at hL9); (try dsimp only); (try k_fold)))
      k_with "compareOp NotIn ref ref" => (k_here; (with_reducible show wpAny _ _ (compareOp CmpOp.NotIn (Value.ref _) (Value.ref _)) _ _ _); k_dflt (with_unfolding_all refine notin_tri (by k_dflt (k_asm)) (by k_dflt (k_mem)) (by k_dflt (assumption)) (by k_dflt (kcj_all)) (by k_dflt (k_mem)) (by k_dflt (assumption)) (by k_dflt (k_units)) ?_; (try dsimp only)))
      k_with "compareOp In ref ref" => (k_here; (with_reducible show wpAny _ _ (compareOp CmpOp.In (Value.ref _) (Value.ref _)) _ _ _); k_dflt (with_unfolding_all refine in_yes (by k_dflt (k_asm)) (by k_dflt (k_mem)) (by k_dflt (assumption)) (by k_dflt (kcj_all)) (by k_dflt (k_mem)) (by k_dflt (first | assumption | (rename turn _ = _ => hT8; rw [← hT8]; assumption))) (by k_dflt (k_units)) ?_; (try dsimp only)))
      k_with "compareOp In ref ref" => (k_here; (with_reducible show wpAny _ _ (compareOp CmpOp.In (Value.ref _) (Value.ref _)) _ _ _); k_dflt (with_unfolding_all refine in_no (by k_dflt (k_asm)) (by k_dflt (k_mem)) (by k_dflt (assumption)) (by k_dflt (kcj_all)) (by k_dflt (k_mem)) (by k_dflt (first | assumption | (rename turn _ = _ => hT8; rw [← hT8]; assumption))) (by k_dflt (k_units)) ?_; (try dsimp only)))
      k_with "call builtin:list.append" => (k_here; (with_reducible show wpAny _ _ (call (Value.builtin _) [Value.ref _, Value.ref _]) _ _ _); k_dflt (with_unfolding_all refine met_append (by k_dflt (k_asm)) (by k_dflt (k_asm)) (by k_dflt (k_upd)) (by k_dflt (assumption)) (by k_dflt (k_mem)) (by k_dflt (omega)) ?_; (intro h9 F9 N9 D9 Z9); (simp only [List.push_toArray] at N9); (try dsimp only at N9); (try k_fold)))
      k_with "call builtin:len" => (k_here; (with_reducible show wpAny _ _ (call (Value.builtin "len") [Value.ref _]) _ _ _); k_dflt (with_unfolding_all refine low_len (by k_dflt (k_asm)) (by k_dflt (k_mem)) (by k_dflt (omega)) ?_; (try dsimp only)))
      k_with "execs" => (exfalso; omega)
      (try k_fold)
      k_steps
      exact done a ka x y z t1 t2 t3 [] _ _ _ rfl hfin hb1 hb2 (by assumption) (news_two N₂ (List.Mem.tail _ (List.Mem.head _)) (List.Mem.tail _ (List.Mem.tail _ (List.Mem.tail _ (List.Mem.tail _ (List.Mem.tail _ (List.Mem.tail _ (List.Mem.tail _ (List.Mem.head _)))))))) (fun _ h => nomatch h)))
  · obtain ⟨w1, w2, w3, w4⟩ := walk_on hW hyz
    have hb := (hG _ w2).2.2
    obtain ⟨hc1, hc2, hc3⟩ := hb
    by_cases hst : (x, z, y) ∈ st
    · have hlow := w3 hst
      clear w3 w4
      revert X
      k_fill
      intro X
      w_strict (
        k_with_none
        k_with "k_get" => assumption
        k_with "k_room" => ((try dsimp only [depth_mark, depth_under_make, depth_under_kw, depth_in1, depth_deeper, depth_caller]); (try dsimp only); first | exact lt_up (by assumption) (Nat.le_of_ble_eq_true rfl) | exact lt_up2 (by assumption) (Nat.le_of_ble_eq_true rfl) | exact lt_up3 (by assumption) (Nat.le_of_ble_eq_true rfl) | exact lt_up0 (by assumption) | omega)
        k_with "k_units" => ((try dsimp only [units_in1, units_deeper, Around.mark_units, units_caller]); (try dsimp only); first | exact lt_up (by assumption) (Nat.le_of_ble_eq_true rfl) | exact lt_up2 (by assumption) (Nat.le_of_ble_eq_true rfl) | exact lt_up3 (by assumption) (Nat.le_of_ble_eq_true rfl) | exact lt_up0 (by assumption) | omega)
        k_with "eval Call" => (k_here; k_dflt (refine Call_ ?_))
        k_with "k_all" => assumption
        k_with "size_fits" => (simp only [List.size_toArray, sizeLine_eq]; omega)
        k_with "exec For Name Call cons nil" => (k_here; (rename Fr _ _ _ _ => lF'); (with_unfolding_all refine For_invVF lF' (by k_dflt (exact rfl)) (by k_dflt (exact rfl)) ?_ (by k_dflt ((intro _; rfl))) (by k_dflt (first | assumption | passes_own)); k_whole))
        k_with "exec For Name Name cons nil" => (k_here; (rename Fr _ _ _ _ => lF'); (with_unfolding_all refine For_invVF lF' (by k_dflt (exact rfl)) (by k_dflt (exact rfl)) ?_ (by k_dflt ((intro _; rfl))) (by k_dflt (first | assumption | passes_own)); k_whole))
        k_with "call ref" => (k_here; (with_reducible show wpAny _ _ (call (Value.ref 248) [Value.ref _, Value.ref _]) _ _ _); k_dflt (with_unfolding_all refine turned (by k_dflt (k_asm)) (by k_dflt (k_asm)) (by k_dflt (k_asm)) (by k_dflt (exact news_one (news_two (by k_asm) (by k_mem) (by k_mem) (fun _ hr => hr)) (List.Mem.tail _ (List.Mem.tail _ (by k_mem))))) (by k_dflt (k_asm)) (by k_dflt (first | exact rfl | assumption)) (by k_dflt (assumption)) (by k_dflt (k_room)) (by k_dflt (k_units)) (by k_dflt (first | assumption | omega)) (by k_dflt (first | assumption | omega)) (by k_dflt (first | assumption | omega)) ?_; (intro T9 r91 r92 r93 t91 t92 t93 h9 tk9 hT9 hL9 F9 N9); (replace N9 := news_four N9); (have hg9 := good_step (by assumption) (by assumption) hT9); (obtain ⟨hm9, hb91, hb92, hb93⟩ := hg9); (simp only [AllLt, and_true] at hL9); (try dsimp only); (try k_fold)))
        k_with "compareOp NotIn ref ref" => (k_here; (with_reducible show wpAny _ _ (compareOp CmpOp.NotIn (Value.ref _) (Value.ref _)) _ _ _); k_dflt (with_unfolding_all refine notin_tri (by k_dflt (k_asm)) (by k_dflt (k_mem)) (by k_dflt (assumption)) (by k_dflt (kcj_all)) (by k_dflt (k_mem)) (by k_dflt (assumption)) (by k_dflt (k_units)) ?_; (try dsimp only)))
        k_with "compareOp In ref ref" => (k_here; (with_reducible show wpAny _ _ (compareOp CmpOp.In (Value.ref _) (Value.ref _)) _ _ _); k_dflt (with_unfolding_all refine in_yes (by k_dflt (k_asm)) (by k_dflt (k_mem)) (by k_dflt (assumption)) (by k_dflt (kcj_all)) (by k_dflt (k_mem)) (by k_dflt (first | assumption | (rename turn _ = _ => hT8; rw [← hT8]; assumption))) (by k_dflt (k_units)) ?_; (try dsimp only)))
        k_with "compareOp In ref ref" => (k_here; (with_reducible show wpAny _ _ (compareOp CmpOp.In (Value.ref _) (Value.ref _)) _ _ _); k_dflt (with_unfolding_all refine in_no (by k_dflt (k_asm)) (by k_dflt (k_mem)) (by k_dflt (assumption)) (by k_dflt (kcj_all)) (by k_dflt (k_mem)) (by k_dflt (first | assumption | (rename turn _ = _ => hT8; rw [← hT8]; assumption))) (by k_dflt (k_units)) ?_; (try dsimp only)))
        k_with "call builtin:list.append" => (k_here; (with_reducible show wpAny _ _ (call (Value.builtin _) [Value.ref _, Value.ref _]) _ _ _); k_dflt (with_unfolding_all refine met_append (by k_dflt (k_asm)) (by k_dflt (k_asm)) (by k_dflt (k_upd)) (by k_dflt (assumption)) (by k_dflt (k_mem)) (by k_dflt (omega)) ?_; (intro h9 F9 N9 D9 Z9); (simp only [List.push_toArray] at N9); (try dsimp only at N9); (try k_fold)))
        k_with "call builtin:len" => (k_here; (with_reducible show wpAny _ _ (call (Value.builtin "len") [Value.ref _]) _ _ _); k_dflt (with_unfolding_all refine low_len (by k_dflt (k_asm)) (by k_dflt (k_mem)) (by k_dflt (omega)) ?_; (try dsimp only)))
        k_with "execs" => (exfalso; omega)
        (try k_fold)
        k_steps
        all_goals first
         | exact absurd (by assumption) hyz
         | (show Q (.ret _) _; rw [decide_eq_true (by omega)]; exact hret _ _ _ (by assumption)))
    · obtain ⟨w5, w6, j, rfl, w7⟩ := w4 hst
      clear w3 w4
      revert X
      k_fill
      intro X
      w_strict (
        k_with_none
        k_with "k_get" => assumption
        k_with "k_room" => ((try dsimp only [depth_mark, depth_under_make, depth_under_kw, depth_in1, depth_deeper, depth_caller]); (try dsimp only); first | exact lt_up (by assumption) (Nat.le_of_ble_eq_true rfl) | exact lt_up2 (by assumption) (Nat.le_of_ble_eq_true rfl) | exact lt_up3 (by assumption) (Nat.le_of_ble_eq_true rfl) | exact lt_up0 (by assumption) | omega)
        k_with "k_units" => ((try dsimp only [units_in1, units_deeper, Around.mark_units, units_caller]); (try dsimp only); first | exact lt_up (by assumption) (Nat.le_of_ble_eq_true rfl) | exact lt_up2 (by assumption) (Nat.le_of_ble_eq_true rfl) | exact lt_up3 (by assumption) (Nat.le_of_ble_eq_true rfl) | exact lt_up0 (by assumption) | omega)
        k_with "eval Call" => (k_here; k_dflt (refine Call_ ?_))
        k_with "k_all" => assumption
        k_with "size_fits" => (simp only [List.size_toArray, sizeLine_eq]; omega)
        k_with "exec For Name Call cons nil" => (k_here; (rename Fr _ _ _ _ => lF'); (with_unfolding_all refine For_invVF lF' (by k_dflt (exact rfl)) (by k_dflt (exact rfl)) ?_ (by k_dflt ((intro _; rfl))) (by k_dflt (first | assumption | passes_own)); k_whole))
        k_with "exec For Name Name cons nil" => (k_here; (rename Fr _ _ _ _ => lF'); (with_unfolding_all refine For_invVF lF' (by k_dflt (exact rfl)) (by k_dflt (exact rfl)) ?_ (by k_dflt ((intro _; rfl))) (by k_dflt (first | assumption | passes_own)); k_whole))
        k_with "call ref" => (k_here; (with_reducible show wpAny _ _ (call (Value.ref 248) [Value.ref _, Value.ref _]) _ _ _); k_dflt (with_unfolding_all refine turned (by k_dflt (k_asm)) (by k_dflt (k_asm)) (by k_dflt (k_asm)) (by k_dflt (exact news_one (news_two (by k_asm) (by k_mem) (by k_mem) (fun _ hr => hr)) (List.Mem.tail _ (List.Mem.tail _ (by k_mem))))) (by k_dflt (k_asm)) (by k_dflt (first | exact rfl | assumption)) (by k_dflt (assumption)) (by k_dflt (k_room)) (by k_dflt (k_units)) (by k_dflt (first | assumption | omega)) (by k_dflt (first | assumption | omega)) (by k_dflt (first | assumption | omega)) ?_; (intro T9 r91 r92 r93 t91 t92 t93 h9 tk9 hT9 hL9 F9 N9); (replace N9 := news_four N9); (have hg9 := good_step (by assumption) (by assumption) hT9); (obtain ⟨hm9, hb91, hb92, hb93⟩ := hg9); (simp only [AllLt, and_true] at hL9); (try dsimp only); (try k_fold)))
        k_with "compareOp NotIn ref ref" => (k_here; (with_reducible show wpAny _ _ (compareOp CmpOp.NotIn (Value.ref _) (Value.ref _)) _ _ _); k_dflt (with_unfolding_all refine notin_tri (by k_dflt (k_asm)) (by k_dflt (k_mem)) (by k_dflt (assumption)) (by k_dflt (kcj_all)) (by k_dflt (k_mem)) (by k_dflt (assumption)) (by k_dflt (k_units)) ?_; (try dsimp only)))
        k_with "compareOp In ref ref" => (k_here; (with_reducible show wpAny _ _ (compareOp CmpOp.In (Value.ref _) (Value.ref _)) _ _ _); k_dflt (with_unfolding_all refine in_yes (by k_dflt (k_asm)) (by k_dflt (k_mem)) (by k_dflt (assumption)) (by k_dflt (kcj_all)) (by k_dflt (k_mem)) (by k_dflt (first | assumption | (rename turn _ = _ => hT8; rw [← hT8]; assumption))) (by k_dflt (k_units)) ?_; (try dsimp only)))
        k_with "compareOp In ref ref" => (k_here; (with_reducible show wpAny _ _ (compareOp CmpOp.In (Value.ref _) (Value.ref _)) _ _ _); k_dflt (with_unfolding_all refine in_no (by k_dflt (k_asm)) (by k_dflt (k_mem)) (by k_dflt (assumption)) (by k_dflt (kcj_all)) (by k_dflt (k_mem)) (by k_dflt (first | assumption | (rename turn _ = _ => hT8; rw [← hT8]; assumption))) (by k_dflt (k_units)) ?_; (try dsimp only)))
        k_with "call builtin:list.append" => (k_here; (with_reducible show wpAny _ _ (call (Value.builtin _) [Value.ref _, Value.ref _]) _ _ _); k_dflt (with_unfolding_all refine met_append (by k_dflt (k_asm)) (by k_dflt (k_asm)) (by k_dflt (k_upd)) (by k_dflt (assumption)) (by k_dflt (k_mem)) (by k_dflt (omega)) ?_; (intro h9 F9 N9 D9 Z9); (simp only [List.push_toArray] at N9); (try dsimp only at N9); (try k_fold)))
        k_with "call builtin:len" => (k_here; (with_reducible show wpAny _ _ (call (Value.builtin "len") [Value.ref _]) _ _ _); k_dflt (with_unfolding_all refine low_len (by k_dflt (k_asm)) (by k_dflt (k_mem)) (by k_dflt (omega)) ?_; (try dsimp only)))
        k_with "execs" => (exfalso; omega)
        (try k_fold)
        k_steps
        all_goals first
         | exact absurd (by assumption) hyz
         | (rename News _ _ _ _ => nN; rename DatAll _ _ _ => nD; exact j5_end (by assumption) nN nD hD2 hD3 htl hlen (by assumption) w6 w7 rfl rfl rfl rfl rfl rfl))
end
end

section
def lcParts : Stmt → PySem.Expr × PySem.Expr × Scope
  | .Assign _ (.ListComp elt (g :: _) sc _) _ => (elt, g.ifs.headD elt, sc)
  | _ => (.Constant .none 0 ⟨0, 0, 0, 0⟩, .Constant .none 0 ⟨0, 0, 0, 0⟩, lawScope)
def lowElt : PySem.Expr := (lcParts (stmtAt 8 lawBody)).1
def lowTest : PySem.Expr := (lcParts (stmtAt 8 lawBody)).2.1
def lowScope : Scope := (lcParts (stmtAt 8 lawBody)).2.2
def Glow (q : Int) (l : List Int) (k : Int) : List Int := if k * k < 4 * q + 1 ∧ Int.fmod (4 * q + 1) k = 0 then l ++ [k] else l
def lows (q : Int) : List Int := (rangeKs 1 (4 * q + 1 - 1).toNat).foldl (Glow q) []
theorem glow_grows (q : Int) : KPfGrows (Glow q) := by
  intro l k
  unfold Glow
  split
  · rw [List.length_append]; simp
  · omega
section
variable {pp9 : Program} {ll9 : List Str} {w : World} {mean : ExcName → Option Value} {mg mb : Str → Option Value} {dp un : Nat} {gd : Option (List Code)} {cn : Str} {a : Addr} {ccd : Value} {outer : List Env} {A₀ : Around} {base h₀ : Heap} {L : Addr} {m : Str → Option Value} {s : Shared} {E : Value → Shared → Prop} {Q : Flow → Shared → Prop}
  {W D : Addr} {es : List DictEntry} {n : Nat} {tw : Tok}

theorem low_rest {cA : Addr} {oc : Obj} {q : Int} {tv : Tok} {news : List (Addr × Obj)} {Fin : List Value → List (Addr × Obj) → Prop} {N0 : Nat}
    (B : Below A₀ base outer h₀) (X : (KK (World.params w)).In h₀) (T : Top pp9 ll9 mean mg mb h₀)
    (b1 : 1 ≤ q ∧ q ≤ 11) (hcd : oc.data = .cell (some (.int (4 * q + 1) tv))) (hco : (cA, oc) ∈ news) (hN0 : N0 = (4 * q + 1 - 1).toNat)
    (fin : ∀ ys, IntsAre ys (lows q) → ys.length ≤ N0 → Fin ys news) :
    LCt.CompRestT (RowW.prog (OpenRow.toRowW (OpenLaw.row Challenge.rw_xm0948_01))) w (ktrTop dp un gd cn lawScope L a ccd [(Str.ofString "whole", cA)] outer) h₀ L m (envX cn lawScope L a ccd [(Str.ofString "whole", cA)]) lowTest lowElt (Str.ofString "one") lowScope [(Str.ofString "whole", cA)] s (fun _ => True) (fun i v => ∃ t, v = .int (1 + (i : Int)) t) Fin N0 0 [] news := by
  subst hN0
  refine kci_range (Glow q) ?_ fin (glow_grows q)
  intro k t I oI C oC D' m2 ys l h tk E' hlo hhi hI hC hx F N off ne mk
  have off2 := off
  have N₂ : News h₀ L h ((cA, oc) :: (I, oI) :: (C, oC) :: (D', LCg.lst ys) :: news) := news_one N (List.Mem.tail _ (List.Mem.tail _ (List.Mem.tail _ hco)))
  clear mk
  have e2 : k * k ≤ 3600 := by
    have := Int.mul_le_mul (show k ≤ 60 by omega) (show k ≤ 60 by omega) (by omega) (by omega)
    omega
  have e3 : 1 ≤ k * k := by
    have := Int.mul_le_mul (show 1 ≤ k by omega) (show 1 ≤ k by omega) (by omega) (by omega)
    omega
  show wpAny _ _ (isTrue (PySem.Expr.BoolOp _ _ _) _ (eval (PySem.Expr.BoolOp _ _ _) _)) _ _ _
  revert X
  k_fill
  intro X
  w_strict (
      k_with_none
      k_with "k_get" => assumption
      k_with "k_room" => ((try dsimp only [depth_mark, depth_under_make, depth_under_kw, depth_in1, depth_deeper, depth_caller]); (try dsimp only); first | exact lt_up (by assumption) (Nat.le_of_ble_eq_true rfl) | exact lt_up2 (by assumption) (Nat.le_of_ble_eq_true rfl) | exact lt_up3 (by assumption) (Nat.le_of_ble_eq_true rfl) | exact lt_up0 (by assumption) | omega)
      k_with "k_units" => ((try dsimp only [units_in1, units_deeper, Around.mark_units, units_caller]); (try dsimp only); first | exact lt_up (by assumption) (Nat.le_of_ble_eq_true rfl) | exact lt_up2 (by assumption) (Nat.le_of_ble_eq_true rfl) | exact lt_up3 (by assumption) (Nat.le_of_ble_eq_true rfl) | exact lt_up0 (by assumption) | omega)
      k_with "eval Call" => (k_here; k_dflt (refine Call_ ?_))
      k_with "k_all" => assumption
      k_with "size_fits" => (simp only [List.size_toArray, sizeLine_eq]; omega)
      (try k_fold)
      k_steps
      all_goals first
        | (rename ¬ _ * _ < _ => hA; exact ⟨_, _, news, rfl, by assumption, N, off2, trivial, rfl, if_neg (fun e => hA e.1)⟩)
        | (rename Int.fmod _ _ ≠ 0 => hA; exact ⟨_, _, news, rfl, by assumption, N, off2, trivial, rfl, if_neg (fun e => hA e.2)⟩)
        | (rename Int.fmod _ _ = 0 => hA; rename _ * _ < _ => hB; (show wpAny _ _ (eval (PySem.Expr.Name _ _) _) _ _ _); k_steps; exact ⟨_, _, news, rfl, by assumption, N, off2, trivial, rfl, k, t, rfl, if_pos ⟨hB, hA⟩⟩))
end

section
variable {pp9 : Program} {ll9 : List Str} {w : World} {mean : ExcName → Option Value} {mg mb : Str → Option Value} {dp un : Nat} {gd : Option (List Code)} {cn : Str} {a : Addr} {ccd : Value} {outer : List Env} {A₀ : Around} {base h₀ : Heap} {L : Addr} {m : Str → Option Value} {s : Shared} {E : Value → Shared → Prop} {Q : Flow → Shared → Prop}
  {W D : Addr} {es : List DictEntry} {n : Nat} {tw : Tok}

theorem stage4a {S0 T0 cA : Addr} {oc : Obj} {ks k : Nat} {us vs : List Value} {tl : List (Addr × Obj)} {q : Int} {tq tv : Tok}
    (B : Below A₀ base outer h₀) (X : (KK (World.params w)).In h₀) (T : Top pp9 ll9 mean mg mb h₀)
    (hwid : getL (Str.ofString "width") es = some (some (.int 32 tw))) (hdp : dp + 60 < recursionLimit) (hun : un + 400 < cLine)
    (b1 : 1 ≤ q ∧ q ≤ 11)
    (F : Fr h₀ L s.heap m) 
    (N : News h₀ L s.heap ((S0, listOf us.toArray ks) :: (T0, listOf vs.toArray k) :: (W, instObj 237 D) :: (D, dictOf es n) :: (cA, oc) :: tl)) (hcd : oc.data = .cell (some (.int (4 * q + 1) tv)))
    (done : ∀ ys L0 h tk, IntsAre ys (lows q) → ys.length ≤ 100 → Fr h₀ L h (fun z => if z = Str.ofString "low" then some (.ref L0) else m z) → @Ne Nat S0 L0 → @Ne Nat T0 L0 →
      News h₀ L h ((L0, listOf ys.toArray ys.length) :: (S0, listOf us.toArray ks) :: (T0, listOf vs.toArray k) :: (W, instObj 237 D) :: (D, dictOf es n) :: (cA, oc) :: tl) → Q .next { s with heap := h, toks := tk }) :
    wpAny (model (RowW.prog (OpenRow.toRowW (OpenLaw.row Challenge.rw_xm0948_01))) w) (ktrTop dp un gd cn lawScope L a ccd [(Str.ofString "whole", cA)] outer) (exec (stmtAt 8 lawBody) (envX cn lawScope L a ccd [(Str.ofString "whole", cA)])) Q E s := by
  show wpAny _ _ (exec (PySem.Stmt.Assign _ _ _) _) _ _ _
  revert X
  k_fill
  intro X
  w_strict (
      k_with_none
      k_with "k_get" => assumption
      k_with "k_room" => ((try dsimp only [depth_mark, depth_under_make, depth_under_kw, depth_in1, depth_deeper, depth_caller]); (try dsimp only); first | exact lt_up (by assumption) (Nat.le_of_ble_eq_true rfl) | exact lt_up2 (by assumption) (Nat.le_of_ble_eq_true rfl) | exact lt_up3 (by assumption) (Nat.le_of_ble_eq_true rfl) | exact lt_up0 (by assumption) | omega)
      k_with "k_units" => ((try dsimp only [units_in1, units_deeper, Around.mark_units, units_caller]); (try dsimp only); first | exact lt_up (by assumption) (Nat.le_of_ble_eq_true rfl) | exact lt_up2 (by assumption) (Nat.le_of_ble_eq_true rfl) | exact lt_up3 (by assumption) (Nat.le_of_ble_eq_true rfl) | exact lt_up0 (by assumption) | omega)
      k_with "eval Call" => (k_here; k_dflt (refine Call_ ?_))
      k_with "k_all" => assumption
      k_with "size_fits" => (simp only [List.size_toArray, sizeLine_eq]; omega)
      k_with "CompSrcT" => (k_here; k_dflt (with_unfolding_all refine LCt.CompSrcT.range (by rfl) (by k_asm) (by k_asm) (by assumption) (small_one (by omega) (by omega) (by omega) (by omega)) (rangeSize_nat _ _) (by rw [PySem.sizeLine_eq]; omega) ?_; (intro g'); (refine low_rest (by k_dflt (k_asm)) (by k_dflt (k_asm)) (by k_dflt (k_asm)) (by k_dflt (assumption)) (by k_dflt (assumption)) (by k_dflt (k_mem)) (by k_dflt (omega)) ?_; (intro ys9 hys9 hyl9); (try dsimp only))))
      (try k_fold)
      k_steps
      rename (@Ne Nat S0 _) ∧ _ => ho1
      exact done _ _ _ _ (by assumption) (by omega) (by assumption) ho1.1 ho1.2.1 (by assumption))
end
end

section
theorem asc_ok {cmp : Nat → Nat → (Bool → Shared → Prop) → Shared → Prop} {N : Nat} {p : Array Nat} {H0 : Heap} {H : Nat → Shared → Prop}
    (hc : ∀ n (C : Bool → Shared → Prop) s, s.heap = H0 → 1 ≤ n → n < N → C false s → cmp (p.getD n 0) (p.getD (n - 1) 0) C s) :
    ∀ (f n : Nat) (s : Shared), s.heap = H0 → n + f = N → 1 ≤ n → H N s → (kas_asc p f n).kasWp cmp H s
  | 0, n, s, _, e, _, h => by
    have : n = N := by omega
    subst this
    exact h
  | f + 1, n, s, hs, e, h1, h => by
    show cmp (p.getD n 0) (p.getD (n - 1) 0) (fun c s' => (if c = true then KasT.ret n else kas_asc p f (n + 1)).kasWp cmp H s') s
    refine hc n _ s hs h1 (by omega) ?_
    rw [if_neg (by decide)]
    exact asc_ok hc f (n + 1) s hs (by omega) (by omega) h
theorem sort_ok {cmp : Nat → Nat → (Bool → Shared → Prop) → Shared → Prop} {N : Nat} {H0 : Heap} {G : Array Nat → Shared → Prop} {s : Shared} (hN : 1 ≤ N)
    (hc : ∀ n (C : Bool → Shared → Prop) s, s.heap = H0 → 1 ≤ n → n < N → C false s → cmp n (n - 1) C s) (hs : s.heap = H0) (h : G (List.toArray (List.range N)) s) : (kas_sort N).kasWp cmp G s := by
  unfold kas_sort
  rw [KasT.kasWp_bind]
  unfold kas_count
  rw [KasT.kasWp_bind]
  refine asc_ok (N := N) (H0 := H0) (fun n C s' e h1 h2 h3 => ?_) (N - 1) 1 s hs (by omega) (Nat.le_refl _) ?_
  · have e1 : (List.toArray (List.range N)).getD n 0 = n := by simp [Array.getD, h2]
    have e2 : (List.toArray (List.range N)).getD (n - 1) 0 = n - 1 := by simp [Array.getD, show n - 1 < N by omega]
    rw [e1, e2]
    exact hc n C s' e h1 h2 h3
  · rw [if_pos (by simp)]
    show (if N < N then _ else KasT.ret (List.toArray (List.range N))).kasWp cmp G s
    rw [if_neg (Nat.lt_irrefl _)]
    exact h
section
variable {prog : Program} {w : World} {A : Around} {E : Value → Shared → Prop} {s : Shared} {h₀ : Heap} {L S0 : Addr} {m : Str → Option Value} {led n1 : List (Addr × Obj)} {us : List Value} {ks : Nat} {ts : List Tri} {Q : Value → Shared → Prop}
theorem tri_tups {h : Heap} (N : News h₀ L h led) : ∀ {us : List Value} {ts : List Tri}, DatAll led us (ts.map triD) → ∃ fs : List Value, KatTups h us fs ∧ fs.length = us.length ∧ ∀ v ∈ fs, ∃ i t, v = Value.int i t
  | _, [], hd => by
    cases hd
    exact ⟨[], KatTups.nil, rfl, fun _ h => nomatch h⟩
  | _, t :: ts, hd => by
    rw [List.map_cons] at hd
    cases hd with
    | cons h1 r =>
      obtain ⟨a, k, t1, t2, t3, rfl, hm⟩ := getD_dat h1
      obtain ⟨fs, f1, f2, f3⟩ := tri_tups N r
      refine ⟨.int t.1 t1 :: fs, KatTups.cons (News.get N hm) rfl rfl rfl f1, by simp [f2], ?_⟩
      intro v hv
      rcases List.mem_cons.mp hv with rfl | hv
      · exact ⟨_, _, rfl⟩
      · exact f3 v hv
theorem tri_less {a b : Addr} {x y z x' y' z' : Int} {t1 t2 t3 u1 u2 u3 : Tok} {k1 k2 : Nat} {C : Bool → Shared → Prop} (N : News h₀ L s.heap led) (ha : (a, tupO [.int x t1, .int y t2, .int z t3] k1) ∈ led) (hb : (b, tupO [.int x' u1, .int y' u2, .int z' u3] k2) ∈ led)
    (hx : x < x') (h : C false s) : wpAny (model prog w) A (keyLt' (tuples' true) (.ref b) (.ref a)) C (fun _ _ => False) s := by
  refine kat_lt (News.get N hb) rfl (News.get N ha) rfl ?_
  show KatLex prog w A true _ C ((Value.int x' u1, Value.int x t1) :: _) 0 s
  refine kat_cons (wpAny_eqBool_int ?_)
  rw [show (x' == x) = false from by simp; omega]
  refine kat_no ?_
  show wpAny _ _ (oneLt' true _ _) _ _ _
  refine oneLt_int ?_
  rw [decide_eq_false (by omega)]
  exact h
theorem sorted_two (F : Fr h₀ L s.heap m) (N : News h₀ L s.heap led) (hS : (S0, listOf us.toArray ks) ∈ led) (hd : DatAll led us (ts.map triD)) (hasc : ts.Pairwise (fun t u => t.1 < u.1)) (h2 : 2 ≤ us.length) (h64 : us.length < 64)
    (h : ∀ D c h', Fr h₀ L h' m → News h₀ L h' ((D, listOf us.toArray c) :: led) → Q (.ref D) { s with heap := h' }) : wpAny (model prog w) A (call (.builtin "sorted") [.ref S0]) Q E s := by
  have hlen : us.length = ts.length := by rw [hd.length, List.length_map]
  refine kat_sorted F N ⟨_, (N _ hS).1, rfl, ks, rfl⟩ h2 h64 ?_
  intro D e1 h' F' N' hD
  have N1 : News h₀ L h' led := fun p hp => N' p (List.Mem.tail _ hp)
  obtain ⟨fs, f1, f2, f3⟩ := tri_tups N1 hd
  refine kat_kind (T := .type "int") f1 (by omega) (fun v hv => ?_) (by decide) ?_
  · obtain ⟨i, t, rfl⟩ := f3 v hv
    exact Looks.now
  rw [show (Value.type "int" != Value.type "tuple") = true from by decide]
  refine sort_ok (H0 := h') (by omega) (fun n C s' e h1 hn hC => ?_) rfl ?_
  · unfold kas_ask
    have i1 : n < ts.length := by omega
    have i0 : n - 1 < ts.length := by omega
    obtain ⟨v1, e1, d1⟩ := hd.get (k := n) (by rw [List.length_map]; exact i1)
    obtain ⟨v0, e0, d0⟩ := hd.get (k := n - 1) (by rw [List.length_map]; exact i0)
    rw [List.getElem_map] at d1 d0
    obtain ⟨b, kb, u1, u2, u3, rfl, mb⟩ := getD_dat d1
    obtain ⟨a, ka, t1, t2, t3, rfl, ma⟩ := getD_dat d0
    rw [show us.getD n Value.none = Value.ref b from by simp [List.getD_eq_getElem?_getD, e1], show us.getD (n - 1) Value.none = Value.ref a from by simp [List.getD_eq_getElem?_getD, e0]]
    refine tri_less (s := s') (by rw [e]; exact N1) ma mb ?_ hC
    exact List.pairwise_iff_getElem.mp hasc (n - 1) n i0 i1 (by omega)
  · refine KasFin.intro F' N' (UpdF.head fun p hp e => absurd (hD p hp) (by rw [e]; exact Nat.lt_irrefl _)) (fun h9 c F9 N9 => ?_)
    have eo : ((List.toArray (List.range us.length)).toList.map fun i => us.getD i Value.none) = us := by
      show (List.range us.length).map (fun i => us.getD i Value.none) = us
      refine List.ext_getElem (by simp) fun i h1 h2 => ?_
      simp [List.getD_eq_getElem?_getD]
      rw [List.getElem?_eq_getElem (by simpa using h1)]
      rfl
    rw [eo] at N9
    exact h D c h9 F9 N9
theorem list_sort_one {a : Addr} {v : Value} {n : Nat} {P : PySem.Fin → Shared → Prop} (ho : s.heap.get? a = some (seqObj "list" (List.toArray [v]) n))
    (h : P (.done (.ret .none)) { s with heap := sortedHeap s.heap a [v] #[v] }) : wpAny (model prog w) A (Builtin.«list.sort» ⟨[.ref a], []⟩) P E s := by
  rw [list_sort_plain]
  have ha : a < s.heap.objs.size := Heap.lt_size ho
  refine wpAny_bind (listItems_at ho rfl ?_)
  refine wpAny_bind (listUpdate_at ho rfl ?_)
  obtain ⟨e1, ho1⟩ : ∃ e1, (s.heap.update a (Obj.mapSeq fun _ => #[])).get? a = some (seqObj "list" #[] e1) := ⟨_, get?_update_seq ho (fun _ => #[])⟩
  refine wpAny_bind (seqEpoch_at ho1 rfl ?_)
  refine wpAny_bind (wpAny_newTuple ?_)
  refine wpAny_bind (wpAny_newList ?_)
  refine wpAny_holding ?_
  have ho6 : (((s.heap.update a (Obj.mapSeq fun _ => #[])).push (seqObj "tuple" (List.toArray [v]) 0)).push (seqObj "list" #[] 0)).get? a = some (seqObj "list" #[] e1) := by
    rw [Heap.get?_push_ne _ _ _ (by rw [size_push', Heap.size_update]; exact Nat.ne_of_lt (Nat.lt_succ_of_lt ha)), Heap.get?_push_ne _ _ _ (by rw [Heap.size_update]; exact Nat.ne_of_lt ha)]
    exact ho1
  show wpAny (model prog w) A _ P E { s with heap := ((s.heap.update a (Obj.mapSeq fun _ => #[])).push (seqObj "tuple" (List.toArray [v]) 0)).push (seqObj "list" #[] 0) }
  dsimp only
  have hz : (List.toArray [v]).size < 2 := by simp
  have ez : Array.map (fun x : Keyed => x.snd) (arrOf (SortSt.mk' general' ((List.toArray [v]).zip (List.toArray [v])) #[] 7 none)) = #[v] := by
    show Array.map _ ((List.toArray [v]).zip (List.toArray [v])) = #[v]
    simp
  rw [if_pos hz, if_pos hz]
  refine wpAny_bind (wpAny_pure ?_)
  rw [StateT.run_pure]
  refine wpAny_bind (wpAny_pure ?_)
  dsimp only
  refine wpAny_bind (seqEpoch_at ho6 rfl ?_)
  refine wpAny_bind (listUpdate_at ho6 rfl ?_ (hsz2 := by rw [ez, sizeLine_eq]; exact Nat.le_of_ble_eq_true rfl))
  simp only [bne_self_eq_false, Bool.false_eq_true, if_false]
  refine wpAny_pure ?_
  rw [ez]
  exact h
theorem sorted_one {v : Value} (F : Fr h₀ L s.heap m) (N : News h₀ L s.heap led) (hS : (S0, listOf (List.toArray [v]) ks) ∈ led)
    (h : ∀ D c h', Fr h₀ L h' m → News h₀ L h' ((D, listOf (List.toArray [v]) c) :: led) → Q (.ref D) { s with heap := h' }) : wpAny (model prog w) A (call (.builtin "sorted") [.ref S0]) Q E s := by
  have hl : s.heap.IsList S0 (List.toArray [v]) := ⟨_, (N _ hS).1, rfl, ks, rfl⟩
  refine Calls.call_function_entry kind_sorted plain_sorted entry_sorted (args_sorted1 _) ?_
  unfold Builtin.«sorted»
  refine wpAny_bind (m := checkCount "sorted" 1 1 _) (wpAny_pure ?_)
  refine wpAny_bind (collect_list hl ?_)
  refine wpAny_bind (wpAny_newList ?_)
  have hsz : ((s.heap.push (seqObj "list" #[] 0)).update s.heap.objs.size (Obj.mapSeq (· ++ (List.toArray [v])))).objs.size = s.heap.objs.size + 1 := by
    rw [Heap.size_update, size_push']
  have hoL : (((s.heap.push (seqObj "list" #[] 0)).update s.heap.objs.size (Obj.mapSeq (· ++ (List.toArray [v])))).push (seqObj "list" (List.toArray [v]) 0)).get? (s.heap.objs.size + 1) = some (seqObj "list" (List.toArray [v]) 0) := by
    rw [← hsz]; exact Heap.get?_push_size _ rfl
  show wpAny _ _ _ _ _ { s with heap := ((s.heap.push (seqObj "list" #[] 0)).update s.heap.objs.size (Obj.mapSeq (· ++ (List.toArray [v])))).push (seqObj "list" (List.toArray [v]) 0) }
  rw [hsz]
  refine wpAny_bind (wpAny_holding (wpAny_call_entry slot_list_sort ⟨_, hoL, rfl⟩ entry_list_sort (list_sort_one hoL ⟨_, rfl, ?_⟩) (args_list_sort _)))
  obtain ⟨e, he⟩ := sortedAll_at s.heap [v] #[v]
  exact wpAny_pure ⟨_, rfl, h _ e _ (F.kept fun _ _ => sortedAll_old) (N.kept_cons F (fun _ _ => sortedAll_old) (Nat.le_succ _) he)⟩
theorem sorted_tri (F : Fr h₀ L s.heap m) (N : News h₀ L s.heap led) (hS : (S0, listOf us.toArray ks) ∈ led) (hd : DatAll n1 us (ts.map triD)) (hs : ∀ p ∈ n1, p ∈ led) (hasc : ts.Pairwise (fun t u => t.1 < u.1)) (h1 : 1 ≤ us.length) (h64 : us.length < 64)
    (h : ∀ D c h', Fr h₀ L h' m → News h₀ L h' ((D, listOf us.toArray c) :: led) → Q (.ref D) { s with heap := h' }) : wpAny (model prog w) A (call (.builtin "sorted") [.ref S0]) Q E s := by
  match us, h1 with
  | [v], _ => exact sorted_one F N hS h
  | v :: v' :: r, _ => exact sorted_two F N hS (hd.mono hs) hasc (by simp) h64 h
end
end

section
def partsOf : Stmt → PySem.Expr × Scope
  | .If (.Compare _ _ (.ListComp elt _ sc _ :: _) _) _ _ _ => (elt, sc)
  | _ => (.Constant .none 0 ⟨0, 0, 0, 0⟩, lawScope)
def pairElt : PySem.Expr := (partsOf (stmtAt 9 lawBody)).1
def pairScope : Scope := (partsOf (stmtAt 9 lawBody)).2
theorem ne_tris {prog : Program} {w : World} {A : Around} {E : Value → Shared → Prop} {s : Shared} {h₀ : Heap} {L a b : Addr} {led n1 n2 : List (Addr × Obj)} {us ws : List Value} {k1 k2 : Nat} {ts us' : List Tri} {Q : Value → Shared → Prop}
    (N : News h₀ L s.heap led) (ha : (a, listOf us.toArray k1) ∈ led) (hd : DatAll n1 us (ts.map triD)) (hs : ∀ p ∈ n1, p ∈ led) (hb : (b, listOf ws.toArray k2) ∈ led) (he : DatAll n2 ws (us'.map triD)) (ht : ∀ p ∈ n2, p ∈ led) (hq : ts = us') (hu : A.units + 64 < cLine)
    (h : Q (.bool false) s) : wpAny (model prog w) A (compareOp .NotEq (.ref a) (.ref b)) Q E s := by
  refine kqd_ne N ha rfl rfl hd hs hb rfl rfl he ht (triD_oks ts) (triD_oks us') hu ?_
  have e : ∀ i : Decidable (ts.map triD = us'.map triD), @decide _ i = true := fun i => @decide_eq_true _ i (by rw [hq])
  rw [e]
  exact h
theorem pair_end {h₀ h' : Heap} {L : Addr} {m : Str → Option Value} {s₁ : Shared} {tk : Nat} {I C D' T1 : Addr} {oI oC oD : Obj} {cp : Addr × Obj} {news : List (Addr × Obj)} {S : List (Addr × Obj) → Prop} {R : Value → List (Addr × Obj) → Prop} {to : Obj}
    (F : Fr h₀ L h' m) (N : News h₀ L h' ((T1, to) :: cp :: (I, oI) :: (C, oC) :: (D', oD) :: news)) (off : LCg.Off3 I C D' news) (h1 : @LT.lt Nat _ I T1) (h2 : @LT.lt Nat _ C T1) (h3 : @LT.lt Nat _ D' T1) (hS : S ((T1, to) :: news)) (hR : R (.ref T1) ((T1, to) :: news)) :
    LCg.CompEnd h₀ L m s₁ I oI C oC D' oD S R (.ref T1) { s₁ with heap := h', toks := tk } := by
  refine ⟨h', tk, (T1, to) :: news, rfl, F, fun p hp => N p ?_, ⟨⟨fun e => Nat.lt_irrefl _ (e ▸ h1), fun e => Nat.lt_irrefl _ (e ▸ h2), fun e => Nat.lt_irrefl _ (e ▸ h3)⟩, off⟩, hS, hR⟩
  simp only [List.mem_cons] at hp ⊢
  rcases hp with hp | hp | hp | hp | hp
  · exact .inr (.inr (.inl hp))
  · exact .inr (.inr (.inr (.inl hp)))
  · exact .inr (.inr (.inr (.inr (.inl hp))))
  · exact .inl hp
  · exact .inr (.inr (.inr (.inr (.inr hp))))

section
variable {pp9 : Program} {ll9 : List Str} {w : World} {mean : ExcName → Option Value} {mg mb : Str → Option Value} {dp un : Nat} {gd : Option (List Code)} {cn : Str} {a : Addr} {ccd : Value} {outer : List Env} {A₀ : Around} {base h₀ : Heap} {L : Addr} {m : Str → Option Value} {s : Shared} {E : Value → Shared → Prop} {Q : Flow → Shared → Prop}
  {W D : Addr} {es : List DictEntry} {n : Nat} {tw : Tok}

theorem pair_rest {L0 cA : Addr} {oc : Obj} {q : Int} {tv : Tok} {news0 : List (Addr × Obj)} {Fin : List Value → List (Addr × Obj) → Prop} {its : List Value} {ls : List Int} {kl : Nat}
    (B : Below A₀ base outer h₀) (X : (KK (World.params w)).In h₀) (T : Top pp9 ll9 mean mg mb h₀)
    (b1 : 1 ≤ q ∧ q ≤ 11) (hcd : oc.data = .cell (some (.int (4 * q + 1) tv))) (hco : (cA, oc) ∈ news0) (hL : (L0, listOf its.toArray kl) ∈ news0) (hI : IntsAre its ls) (hpos : ∀ d ∈ ls, 1 ≤ d ∧ d ≤ 60)
    (fin : ∀ ys tl, DatAll (tl ++ news0) ys ((ls.map (fixOf q)).map triD) → Fin ys (tl ++ news0)) :
    LCg.CompRest (RowW.prog (OpenRow.toRowW (OpenLaw.row Challenge.rw_xm0948_01))) w (ktrTop dp un gd cn lawScope L a ccd [(Str.ofString "whole", cA)] outer) h₀ L m (envX cn lawScope L a ccd [(Str.ofString "whole", cA)]) pairElt (Str.ofString "one") pairScope [(Str.ofString "whole", cA)] s (LCg.SrcAt h₀ L0 its.toArray) (fun i v => its.toArray[i]? = some v) Fin its.toArray.size 0 [] news0 := by
  have hn : its.length = ls.length := hI.length
  have key : ∀ (j i : Nat) (ys : List Value) (tl : List (Addr × Obj)), i + j = its.length → DatAll (tl ++ news0) ys (((ls.take i).map (fixOf q)).map triD) →
      LCg.CompRest (RowW.prog (OpenRow.toRowW (OpenLaw.row Challenge.rw_xm0948_01))) w (ktrTop dp un gd cn lawScope L a ccd [(Str.ofString "whole", cA)] outer) h₀ L m (envX cn lawScope L a ccd [(Str.ofString "whole", cA)]) pairElt (Str.ofString "one") pairScope [(Str.ofString "whole", cA)] s (LCg.SrcAt h₀ L0 its.toArray) (fun i v => its.toArray[i]? = some v) Fin j i ys (tl ++ news0) := by
    intro j
    induction j with
    | zero =>
      intro i ys tl e hD
      have e2 : i = ls.length := by omega
      subst e2
      rw [List.take_length] at hD
      exact LCg.CompRest.zero (fin ys tl hD)
    | succ j ih =>
      intro i ys tl e hD
      refine LCg.CompRest.succ ?_
      intro v I oI C oC D' m2 h tk E' hv hC hx F N off ne
      have hi : i < ls.length := by omega
      obtain ⟨t, hv2⟩ := hI.get i ls[i] (List.getElem?_eq_getElem hi)
      have hv3 : its[i]? = some v := by simpa using hv
      rw [hv2] at hv3
      have hv4 := Option.some.inj hv3
      subst hv4
      obtain ⟨k, hk⟩ : ∃ k, k = ls[i] := ⟨_, rfl⟩
      have hkp := hpos _ (List.getElem_mem hi)
      rw [← hk] at hx hkp
      have e1 : ¬ k = 0 := by omega
      have N₂ : News h₀ L h ((cA, oc) :: (I, oI) :: (C, oC) :: (D', LCg.lst ys) :: (tl ++ news0)) := news_one N (List.Mem.tail _ (List.Mem.tail _ (List.Mem.tail _ (List.mem_append.mpr (.inr hco)))))
      have off2 := off
      have nxt : ∀ T1 t1 t2 t3, LCg.CompRest (RowW.prog (OpenRow.toRowW (OpenLaw.row Challenge.rw_xm0948_01))) w (ktrTop dp un gd cn lawScope L a ccd [(Str.ofString "whole", cA)] outer) h₀ L m (envX cn lawScope L a ccd [(Str.ofString "whole", cA)]) pairElt (Str.ofString "one") pairScope [(Str.ofString "whole", cA)] s (LCg.SrcAt h₀ L0 its.toArray) (fun i v => its.toArray[i]? = some v) Fin j (i + 1) (ys ++ [Value.ref T1]) ((T1, tupO [.int k t1, .int k t2, .int (Int.fdiv (Int.fdiv (4 * q + 1) k - k) 4) t3] 0) :: (tl ++ news0)) := by
        intro T1 t1 t2 t3
        refine ih (i + 1) (ys ++ [Value.ref T1]) ((T1, tupO [.int k t1, .int k t2, .int (Int.fdiv (Int.fdiv (4 * q + 1) k - k) 4) t3] 0) :: tl) (by omega) ?_
        rw [List.take_add_one, List.getElem?_eq_getElem hi, ← hk, List.map_append, List.map_append]
        exact (hD.mono fun p hp => List.Mem.tail _ hp).append (DatAll.one (triIn (List.Mem.head _)))
      have src : ∀ p : Addr × Obj, LCg.SrcAt h₀ L0 its.toArray (p :: (tl ++ news0)) := fun p => .inr ⟨_, List.Mem.tail _ (List.mem_append.mpr (.inr hL)), rfl, _, rfl⟩
      clear ih N hk
      show wpAny _ _ (eval (PySem.Expr.Tuple _ _ _) _) _ _ _
      revert X
      k_fill
      intro X
      w_strict (
        k_with_none
        k_with "k_get" => assumption
        k_with "k_room" => ((try dsimp only [depth_mark, depth_under_make, depth_under_kw, depth_in1, depth_deeper, depth_caller]); (try dsimp only); first | exact lt_up (by assumption) (Nat.le_of_ble_eq_true rfl) | exact lt_up2 (by assumption) (Nat.le_of_ble_eq_true rfl) | exact lt_up3 (by assumption) (Nat.le_of_ble_eq_true rfl) | exact lt_up0 (by assumption) | omega)
        k_with "k_units" => ((try dsimp only [units_in1, units_deeper, Around.mark_units, units_caller]); (try dsimp only); first | exact lt_up (by assumption) (Nat.le_of_ble_eq_true rfl) | exact lt_up2 (by assumption) (Nat.le_of_ble_eq_true rfl) | exact lt_up3 (by assumption) (Nat.le_of_ble_eq_true rfl) | exact lt_up0 (by assumption) | omega)
        k_with "eval Call" => (k_here; k_dflt (refine Call_ ?_))
        k_with "k_all" => assumption
        k_with "size_fits" => (simp only [List.size_toArray, sizeLine_eq]; omega)
        (try k_fold)
        k_steps
        rename News _ _ _ _ => nN
        rename Fr _ _ _ _ => nF
        exact pair_end nF nN off2 (by omega) (by omega) (by omega) (src _) (nxt _ _ _ _))
  simpa using key its.length 0 [] [] (by omega) (by simpa using DatAll.nil)
end

section
variable {pp9 : Program} {ll9 : List Str} {w : World} {mean : ExcName → Option Value} {mg mb : Str → Option Value} {dp un : Nat} {gd : Option (List Code)} {cn : Str} {a : Addr} {ccd : Value} {outer : List Env} {A₀ : Around} {base h₀ : Heap} {L : Addr} {m : Str → Option Value} {s : Shared} {E : Value → Shared → Prop} {Q : Flow → Shared → Prop}
  {W D : Addr} {es : List DictEntry} {n : Nat} {tw : Tok}

theorem stage4b {S0 T0 L0 cA : Addr} {oc : Obj} {ks k kl : Nat} {us vs lvs : List Value} {tl : List (Addr × Obj)} {q : Int} {tv : Tok} {st : List Tri}
    (B : Below A₀ base outer h₀) (X : (KK (World.params w)).In h₀) (T : Top pp9 ll9 mean mg mb h₀)
    (hwid : getL (Str.ofString "width") es = some (some (.int 32 tw))) (hdp : dp + 60 < recursionLimit) (hun : un + 400 < cLine)
    (hPE : PassesOwn (model (RowW.prog (OpenRow.toRowW (OpenLaw.row Challenge.rw_xm0948_01))) w) (ktrTop dp un gd cn lawScope L a ccd [(Str.ofString "whole", cA)] outer) (envX cn lawScope L a ccd [(Str.ofString "whole", cA)]) E)
    (b1 : 1 ≤ q ∧ q ≤ 11)
    (F : Fr h₀ L s.heap m) (hst : m (Str.ofString "stays") = some (.ref S0)) (hlo : m (Str.ofString "low") = some (.ref L0))
    (N : News h₀ L s.heap ((L0, listOf lvs.toArray kl) :: (S0, listOf us.toArray ks) :: (T0, listOf vs.toArray k) :: (W, instObj 237 D) :: (D, dictOf es n) :: (cA, oc) :: tl)) (hcd : oc.data = .cell (some (.int (4 * q + 1) tv)))
    (hd : DatAll tl us (st.map triD)) (hI : IntsAre lvs (lows q)) (hpos : ∀ d ∈ lows q, 1 ≤ d ∧ d ≤ 60) (hsl : st = (lows q).map (fixOf q)) (hasc : st.Pairwise (fun t u => t.1 < u.1)) (hu1 : 1 ≤ us.length) (hu2 : us.length < 64) (hl2 : lvs.length ≤ 100)
    (done : ∀ h tk, Fr h₀ L h m → News h₀ L h ((L0, listOf lvs.toArray kl) :: (S0, listOf us.toArray ks) :: (T0, listOf vs.toArray k) :: (W, instObj 237 D) :: (D, dictOf es n) :: (cA, oc) :: tl) → Q .next { s with heap := h, toks := tk }) :
    wpAny (model (RowW.prog (OpenRow.toRowW (OpenLaw.row Challenge.rw_xm0948_01))) w) (ktrTop dp un gd cn lawScope L a ccd [(Str.ofString "whole", cA)] outer) (exec (stmtAt 9 lawBody) (envX cn lawScope L a ccd [(Str.ofString "whole", cA)])) Q E s := by
  have hmm := mm_eq (l := [(Str.ofString "stays", .ref S0), (Str.ofString "low", .ref L0)]) (m := m) (by
      intro p hp
      simp only [List.mem_cons, List.not_mem_nil, or_false] at hp
      rcases hp with rfl | rfl
      · exact hst
      · exact hlo)
  rw [← hmm] at F done
  show wpAny _ _ (exec (PySem.Stmt.If _ _ _ _) _) _ _ _
  revert X
  k_fill
  intro X
  w_strict (
      k_with_none
      k_with "k_get" => assumption
      k_with "k_room" => ((try dsimp only [depth_mark, depth_under_make, depth_under_kw, depth_in1, depth_deeper, depth_caller]); (try dsimp only); first | exact lt_up (by assumption) (Nat.le_of_ble_eq_true rfl) | exact lt_up2 (by assumption) (Nat.le_of_ble_eq_true rfl) | exact lt_up3 (by assumption) (Nat.le_of_ble_eq_true rfl) | exact lt_up0 (by assumption) | omega)
      k_with "k_units" => ((try dsimp only [units_in1, units_deeper, Around.mark_units, units_caller]); (try dsimp only); first | exact lt_up (by assumption) (Nat.le_of_ble_eq_true rfl) | exact lt_up2 (by assumption) (Nat.le_of_ble_eq_true rfl) | exact lt_up3 (by assumption) (Nat.le_of_ble_eq_true rfl) | exact lt_up0 (by assumption) | omega)
      k_with "eval Call" => (k_here; k_dflt (refine Call_ ?_))
      k_with "k_all" => assumption
      k_with "size_fits" => (simp only [List.size_toArray, sizeLine_eq]; omega)
      k_with "call builtin:sorted" => (k_here; (with_reducible show wpAny _ _ (call (Value.builtin _) [Value.ref _]) _ _ _); k_dflt (with_unfolding_all refine sorted_tri (by k_dflt (k_asm)) (by k_dflt (k_asm)) (by k_dflt (k_mem)) (by k_dflt (assumption)) (by k_dflt (kcj_all)) (by k_dflt (assumption)) (by k_dflt (omega)) (by k_dflt (omega)) ?_; (intro D9 c9 h9 F9 N9); (try dsimp only); (try k_fold)))
      k_with "CompSrc" => (k_here; k_dflt (with_unfolding_all refine LCg.CompSrc.ledger (by rfl) (by k_asm) (by k_asm) (by k_mem) (by rw [List.size_toArray, PySem.sizeLine_eq]; omega) ?_; (intro g'); (refine pair_rest (by k_dflt (k_asm)) (by k_dflt (k_asm)) (by k_dflt (k_asm)) (by k_dflt (assumption)) (by k_dflt (assumption)) (by k_dflt (k_mem)) (by k_dflt (k_mem)) (by k_dflt (assumption)) (by k_dflt (assumption)) ?_; (intro ys9 tl9 hys9); (try dsimp only))))
      k_with "compareOp NotEq ref ref" => (k_here; (with_reducible show wpAny _ _ (compareOp CmpOp.NotEq (Value.ref _) (Value.ref _)) _ _ _); k_dflt (with_unfolding_all refine ne_tris (by k_dflt (k_asm)) (by k_dflt (kcj_m)) (by k_dflt (assumption)) (by k_dflt (kcj_all)) (by k_dflt (kcj_m)) (by k_dflt (assumption)) (by k_dflt (kcj_all)) (by k_dflt (assumption)) (by k_dflt (k_units)) ?_; (try dsimp only)))
      (try k_fold)
      k_steps
      rename News _ _ _ _ => nN
      exact done _ _ (by assumption) (cb_drop nN (by kcj_all)))
end
end

section
theorem allLt_mem {d : Nat} : ∀ {l : List (Addr × Obj)}, AllLt d l → ∀ p ∈ l, @LT.lt Nat _ p.1 d
  | [], _, _, hp => nomatch hp
  | _ :: _, h, p, hp => by
    rcases List.mem_cons.mp hp with rfl | hp
    · exact h.1
    · exact allLt_mem h.2 p hp
section
variable {pp9 : Program} {ll9 : List Str} {w : World} {mean : ExcName → Option Value} {mg mb : Str → Option Value} {dp un : Nat} {gd : Option (List Code)} {cn : Str} {a : Addr} {ccd : Value} {outer : List Env} {A₀ : Around} {base h₀ : Heap} {L : Addr} {m : Str → Option Value} {s : Shared} {E : Value → Shared → Prop} {Q : Flow → Shared → Prop}
  {W D : Addr} {es : List DictEntry} {n : Nat} {tw : Tok}

theorem stage5 {T0 cA : Addr} {oc : Obj} {k0 : Nat} {q : Int} {tq tv : Tok}
    (B : Below A₀ base outer h₀) (X : (KK (World.params w)).In h₀) (T : Top pp9 ll9 mean mg mb h₀)
    (hwid : getL (Str.ofString "width") es = some (some (.int 32 tw))) (hdp : dp + 60 < recursionLimit) (hun : un + 400 < cLine)
    (hPE : PassesOwn (model (RowW.prog (OpenRow.toRowW (OpenLaw.row Challenge.rw_xm0948_01))) w) (ktrTop dp un gd cn lawScope L a ccd [(Str.ofString "whole", cA)] outer) (envX cn lawScope L a ccd [(Str.ofString "whole", cA)]) E)
    (b1 : 1 ≤ q ∧ q ≤ 11)
    (F : Fr h₀ L s.heap m) (hw : m (Str.ofString "world") = some (.ref W)) (ht : m (Str.ofString "triples") = some (.ref T0)) (hq : m (Str.ofString "quarter") = some (.int q tq))
    (N : News h₀ L s.heap ((T0, listOf (List.toArray []) k0) :: (W, instObj 237 D) :: (D, dictOf es n) :: (cA, oc) :: [])) (hcd : oc.data = .cell (some (.int (4 * q + 1) tv))) (hcc : NotSeq oc)
    (done : ∀ vs tl k h tk m', DatAll tl vs ((tripsN q (2 * q).toNat).map triD) → (∀ p ∈ tl, p.2.cls = .type "tuple") → vs.length ≤ 1000 → Fr h₀ L h m' → m' (Str.ofString "world") = some (.ref W) → m' (Str.ofString "triples") = some (.ref T0) → m' (Str.ofString "quarter") = some (.int q tq) →
      News h₀ L h ((T0, listOf vs.toArray k) :: (W, instObj 237 D) :: (D, dictOf es n) :: (cA, oc) :: tl) → Q .next { s with heap := h, toks := tk }) :
    wpAny (model (RowW.prog (OpenRow.toRowW (OpenLaw.row Challenge.rw_xm0948_01))) w) (ktrTop dp un gd cn lawScope L a ccd [(Str.ofString "whole", cA)] outer) (exec (stmtAt 5 lawBody) (envX cn lawScope L a ccd [(Str.ofString "whole", cA)])) Q E s := by
  have hmm := mm_eq (l := [(Str.ofString "world", .ref W), (Str.ofString "triples", .ref T0), (Str.ofString "quarter", .int q tq)]) (m := m) (by
      intro p hp
      simp only [List.mem_cons, List.not_mem_nil, or_false] at hp
      rcases hp with rfl | rfl | rfl
      · exact hw
      · exact ht
      · exact hq)
  rw [← hmm] at F
  show wpAny _ _ (exec (PySem.Stmt.For _ _ _ _ _) _) _ _ _
  revert X
  k_fill
  intro X
  w_strict (
      k_with_none
      k_with "k_get" => assumption
      k_with "k_room" => ((try dsimp only [depth_mark, depth_under_make, depth_under_kw, depth_in1, depth_deeper, depth_caller]); (try dsimp only); first | exact lt_up (by assumption) (Nat.le_of_ble_eq_true rfl) | exact lt_up2 (by assumption) (Nat.le_of_ble_eq_true rfl) | exact lt_up3 (by assumption) (Nat.le_of_ble_eq_true rfl) | exact lt_up0 (by assumption) | omega)
      k_with "k_units" => ((try dsimp only [units_in1, units_deeper, Around.mark_units, units_caller]); (try dsimp only); first | exact lt_up (by assumption) (Nat.le_of_ble_eq_true rfl) | exact lt_up2 (by assumption) (Nat.le_of_ble_eq_true rfl) | exact lt_up3 (by assumption) (Nat.le_of_ble_eq_true rfl) | exact lt_up0 (by assumption) | omega)
      k_with "eval Call" => (k_here; k_dflt (refine Call_ ?_))
      k_with "k_all" => assumption
      k_with "size_fits" => (simp only [List.size_toArray, sizeLine_eq]; omega)
      k_with "exec For Name Call cons nil" => (k_here; (rename Fr _ _ _ _ => lF'); (with_unfolding_all refine For_invVF lF' (by k_dflt (exact rfl)) (by k_dflt (exact rfl)) ?_ (by k_dflt ((intro _; rfl))) (by k_dflt (first | assumption | passes_own)); k_whole))
      k_with "exec For Name Name cons nil" => (k_here; (rename Fr _ _ _ _ => lF'); (with_unfolding_all refine For_invVF lF' (by k_dflt (exact rfl)) (by k_dflt (exact rfl)) ?_ (by k_dflt ((intro _; rfl))) (by k_dflt (first | assumption | passes_own)); k_whole))
      k_with "pyIter ref" => (k_here; k_dflt (with_unfolding_all refine outer_loop (by k_dflt (k_asm)) (by k_dflt (k_asm)) (by k_dflt (k_asm)) (by k_dflt (assumption)) (by k_dflt (assumption)) (by k_dflt (assumption)) (by k_dflt (assumption)) (by k_dflt (assumption)) (by k_dflt (k_asm)) (by k_dflt (rfl)) (by k_dflt (rfl)) (by k_dflt (rfl)) (by k_dflt (k_asm)) (by k_dflt (assumption)) (by k_dflt (assumption)) (by k_dflt (assumption)) ?_; (intro vs9 tl9 k9 h9 tk9 m9 p1 p2 p3 p4 p5 p6 p7 p8); (try dsimp only)))
      k_with "pyIter ref" => (k_here; k_dflt (with_unfolding_all refine loop2 (by k_dflt (k_asm)) (by k_dflt (k_asm)) (by k_dflt (k_asm)) (by k_dflt (assumption)) (by k_dflt (assumption)) (by k_dflt (assumption)) (by k_dflt (k_asm)) (by k_dflt (rfl)) (by k_dflt (rfl)) (by k_dflt (rfl)) (by k_dflt (rfl)) (by k_dflt (k_asm)) (by k_dflt (assumption)) (by k_dflt (assumption)) (by k_dflt (assumption)) (by k_dflt (assumption)) (by k_dflt (assumption)) (by k_dflt (assumption)) ?_; (intro us9 k9 h9 tk9 m9 p1 p2 p3 p4 p5 p6 p7); (try dsimp only)))
      (try k_fold)
      k_steps
      exact done _ _ _ _ _ _ (by assumption) (by assumption) (by assumption) (by assumption) (by assumption) (by assumption) (by assumption) (by assumption))

theorem stage6 {cA : Addr} {led : List (Addr × Obj)}
    (B : Below A₀ base outer h₀) (X : (KK (World.params w)).In h₀) (T : Top pp9 ll9 mean mg mb h₀)
    (hwid : getL (Str.ofString "width") es = some (some (.int 32 tw))) (hdp : dp + 60 < recursionLimit) (hun : un + 400 < cLine)
    (F : Fr h₀ L s.heap m) (N : News h₀ L s.heap led)
    (done : ∀ S0 h tk, (∀ p ∈ led, p.1 < S0) → Fr h₀ L h (fun y => if y = Str.ofString "stays" then some (.ref S0) else m y) → News h₀ L h ((S0, listOf (List.toArray []) 0) :: led) → Q .next { s with heap := h, toks := tk }) :
    wpAny (model (RowW.prog (OpenRow.toRowW (OpenLaw.row Challenge.rw_xm0948_01))) w) (ktrTop dp un gd cn lawScope L a ccd [(Str.ofString "whole", cA)] outer) (exec (stmtAt 6 lawBody) (envX cn lawScope L a ccd [(Str.ofString "whole", cA)])) Q E s := by
  show wpAny _ _ (exec (PySem.Stmt.Assign _ _ _) _) _ _ _
  revert X
  k_fill
  intro X
  w_strict (
      k_with_none
      k_with "k_get" => assumption
      k_with "k_room" => ((try dsimp only [depth_mark, depth_under_make, depth_under_kw, depth_in1, depth_deeper, depth_caller]); (try dsimp only); first | exact lt_up (by assumption) (Nat.le_of_ble_eq_true rfl) | exact lt_up2 (by assumption) (Nat.le_of_ble_eq_true rfl) | exact lt_up3 (by assumption) (Nat.le_of_ble_eq_true rfl) | exact lt_up0 (by assumption) | omega)
      k_with "k_units" => ((try dsimp only [units_in1, units_deeper, Around.mark_units, units_caller]); (try dsimp only); first | exact lt_up (by assumption) (Nat.le_of_ble_eq_true rfl) | exact lt_up2 (by assumption) (Nat.le_of_ble_eq_true rfl) | exact lt_up3 (by assumption) (Nat.le_of_ble_eq_true rfl) | exact lt_up0 (by assumption) | omega)
      k_with "eval Call" => (k_here; k_dflt (refine Call_ ?_))
      k_with "k_all" => assumption
      k_with "size_fits" => (simp only [List.size_toArray, sizeLine_eq]; omega)
      k_with "exec For Name Call cons nil" => (k_here; (rename Fr _ _ _ _ => lF'); (with_unfolding_all refine For_invVF lF' (by k_dflt (exact rfl)) (by k_dflt (exact rfl)) ?_ (by k_dflt ((intro _; rfl))) (by k_dflt (first | assumption | passes_own)); k_whole))
      k_with "exec For Name Name cons nil" => (k_here; (rename Fr _ _ _ _ => lF'); (with_unfolding_all refine For_invVF lF' (by k_dflt (exact rfl)) (by k_dflt (exact rfl)) ?_ (by k_dflt ((intro _; rfl))) (by k_dflt (first | assumption | passes_own)); k_whole))
      k_with "pyIter ref" => (k_here; k_dflt (with_unfolding_all refine outer_loop (by k_dflt (k_asm)) (by k_dflt (k_asm)) (by k_dflt (k_asm)) (by k_dflt (assumption)) (by k_dflt (assumption)) (by k_dflt (assumption)) (by k_dflt (assumption)) (by k_dflt (assumption)) (by k_dflt (k_asm)) (by k_dflt (rfl)) (by k_dflt (rfl)) (by k_dflt (rfl)) (by k_dflt (k_asm)) (by k_dflt (assumption)) (by k_dflt (assumption)) (by k_dflt (assumption)) ?_; (intro vs9 tl9 k9 h9 tk9 m9 p1 p2 p3 p4 p5 p6 p7 p8); (try dsimp only)))
      k_with "pyIter ref" => (k_here; k_dflt (with_unfolding_all refine loop2 (by k_dflt (k_asm)) (by k_dflt (k_asm)) (by k_dflt (k_asm)) (by k_dflt (assumption)) (by k_dflt (assumption)) (by k_dflt (assumption)) (by k_dflt (k_asm)) (by k_dflt (rfl)) (by k_dflt (rfl)) (by k_dflt (rfl)) (by k_dflt (rfl)) (by k_dflt (k_asm)) (by k_dflt (assumption)) (by k_dflt (assumption)) (by k_dflt (assumption)) (by k_dflt (assumption)) (by k_dflt (assumption)) (by k_dflt (assumption)) ?_; (intro us9 k9 h9 tk9 m9 p1 p2 p3 p4 p5 p6 p7); (try dsimp only)))
      (try k_fold)
      k_steps
      rename News _ _ _ _ => nN
      refine done _ _ _ ?sa (by assumption) nN
      case sa => assumption)
theorem stage7 {S0 T0 cA : Addr} {oc : Obj} {k0 k : Nat} {vs : List Value} {tl : List (Addr × Obj)} {ts : List Tri} {q : Int} {tq : Tok}
    (B : Below A₀ base outer h₀) (X : (KK (World.params w)).In h₀) (T : Top pp9 ll9 mean mg mb h₀)
    (hwid : getL (Str.ofString "width") es = some (some (.int 32 tw))) (hdp : dp + 60 < recursionLimit) (hun : un + 400 < cLine)
    (hPE : PassesOwn (model (RowW.prog (OpenRow.toRowW (OpenLaw.row Challenge.rw_xm0948_01))) w) (ktrTop dp un gd cn lawScope L a ccd [(Str.ofString "whole", cA)] outer) (envX cn lawScope L a ccd [(Str.ofString "whole", cA)]) E)
    (F : Fr h₀ L s.heap m) (hw : m (Str.ofString "world") = some (.ref W)) (ht : m (Str.ofString "triples") = some (.ref T0)) (hq : m (Str.ofString "quarter") = some (.int q tq)) (hst : m (Str.ofString "stays") = some (.ref S0))
    (N : News h₀ L s.heap (Led2 S0 T0 W D cA oc es n [] vs k0 k tl)) (hd : DatAll tl vs (ts.map triD)) (hG : Good ts) (hlen : vs.length ≤ 1000) (htl : ∀ p ∈ tl, p.2.cls = .type "tuple") (hcc : NotSeq oc) (hST : @Ne Nat S0 T0)
    (done : ∀ us k' h tk m', DatAll tl us ((staysOf ts).map triD) → Fr h₀ L h m' → m' (Str.ofString "world") = some (.ref W) → m' (Str.ofString "triples") = some (.ref T0) → m' (Str.ofString "quarter") = some (.int q tq) → m' (Str.ofString "stays") = some (.ref S0) →
      News h₀ L h (Led2 S0 T0 W D cA oc es n us vs k' k tl) → Q .next { s with heap := h, toks := tk }) :
    wpAny (model (RowW.prog (OpenRow.toRowW (OpenLaw.row Challenge.rw_xm0948_01))) w) (ktrTop dp un gd cn lawScope L a ccd [(Str.ofString "whole", cA)] outer) (exec (stmtAt 7 lawBody) (envX cn lawScope L a ccd [(Str.ofString "whole", cA)])) Q E s := by
  have hmm := mm_eq (l := [(Str.ofString "world", .ref W), (Str.ofString "triples", .ref T0), (Str.ofString "quarter", .int q tq), (Str.ofString "stays", .ref S0)]) (m := m) (by
      intro p hp
      simp only [List.mem_cons, List.not_mem_nil, or_false] at hp
      rcases hp with rfl | rfl | rfl | rfl
      · exact hw
      · exact ht
      · exact hq
      · exact hst)
  rw [← hmm] at F
  show wpAny _ _ (exec (PySem.Stmt.For _ _ _ _ _) _) _ _ _
  revert X
  k_fill
  intro X
  w_strict (
      k_with_none
      k_with "k_get" => assumption
      k_with "k_room" => ((try dsimp only [depth_mark, depth_under_make, depth_under_kw, depth_in1, depth_deeper, depth_caller]); (try dsimp only); first | exact lt_up (by assumption) (Nat.le_of_ble_eq_true rfl) | exact lt_up2 (by assumption) (Nat.le_of_ble_eq_true rfl) | exact lt_up3 (by assumption) (Nat.le_of_ble_eq_true rfl) | exact lt_up0 (by assumption) | omega)
      k_with "k_units" => ((try dsimp only [units_in1, units_deeper, Around.mark_units, units_caller]); (try dsimp only); first | exact lt_up (by assumption) (Nat.le_of_ble_eq_true rfl) | exact lt_up2 (by assumption) (Nat.le_of_ble_eq_true rfl) | exact lt_up3 (by assumption) (Nat.le_of_ble_eq_true rfl) | exact lt_up0 (by assumption) | omega)
      k_with "eval Call" => (k_here; k_dflt (refine Call_ ?_))
      k_with "k_all" => assumption
      k_with "size_fits" => (simp only [List.size_toArray, sizeLine_eq]; omega)
      k_with "exec For Name Call cons nil" => (k_here; (rename Fr _ _ _ _ => lF'); (with_unfolding_all refine For_invVF lF' (by k_dflt (exact rfl)) (by k_dflt (exact rfl)) ?_ (by k_dflt ((intro _; rfl))) (by k_dflt (first | assumption | passes_own)); k_whole))
      k_with "exec For Name Name cons nil" => (k_here; (rename Fr _ _ _ _ => lF'); (with_unfolding_all refine For_invVF lF' (by k_dflt (exact rfl)) (by k_dflt (exact rfl)) ?_ (by k_dflt ((intro _; rfl))) (by k_dflt (first | assumption | passes_own)); k_whole))
      k_with "pyIter ref" => (k_here; k_dflt (with_unfolding_all refine outer_loop (by k_dflt (k_asm)) (by k_dflt (k_asm)) (by k_dflt (k_asm)) (by k_dflt (assumption)) (by k_dflt (assumption)) (by k_dflt (assumption)) (by k_dflt (assumption)) (by k_dflt (assumption)) (by k_dflt (k_asm)) (by k_dflt (rfl)) (by k_dflt (rfl)) (by k_dflt (rfl)) (by k_dflt (k_asm)) (by k_dflt (assumption)) (by k_dflt (assumption)) (by k_dflt (assumption)) ?_; (intro vs9 tl9 k9 h9 tk9 m9 p1 p2 p3 p4 p5 p6 p7 p8); (try dsimp only)))
      k_with "pyIter ref" => (k_here; k_dflt (with_unfolding_all refine loop2 (by k_dflt (k_asm)) (by k_dflt (k_asm)) (by k_dflt (k_asm)) (by k_dflt (assumption)) (by k_dflt (assumption)) (by k_dflt (assumption)) (by k_dflt (k_asm)) (by k_dflt (rfl)) (by k_dflt (rfl)) (by k_dflt (rfl)) (by k_dflt (rfl)) (by k_dflt (k_asm)) (by k_dflt (assumption)) (by k_dflt (assumption)) (by k_dflt (assumption)) (by k_dflt (assumption)) (by k_dflt (assumption)) (by k_dflt (assumption)) ?_; (intro us9 k9 h9 tk9 m9 p1 p2 p3 p4 p5 p6 p7); (try dsimp only)))
      (try k_fold)
      k_steps
      exact done _ _ _ _ _ (by assumption) (by assumption) (by assumption) (by assumption) (by assumption) (by assumption) (by assumption))

theorem stage10 {cA : Addr} {led : List (Addr × Obj)} {q : Int} {tq : Tok}
    (B : Below A₀ base outer h₀) (X : (KK (World.params w)).In h₀) (T : Top pp9 ll9 mean mg mb h₀)
    (hwid : getL (Str.ofString "width") es = some (some (.int 32 tw))) (hdp : dp + 60 < recursionLimit) (hun : un + 400 < cLine)
    (F : Fr h₀ L s.heap m) (hq : m (Str.ofString "quarter") = some (.int q tq)) (N : News h₀ L s.heap led)
    (done : ∀ a b M0 t1 t2 u1 u2 h tk m', (∀ p ∈ led, p.1 < M0) → Fr h₀ L h m' → (∀ z, z ≠ Str.ofString "here" → z ≠ Str.ofString "met" → m' z = m z) → m' (Str.ofString "here") = some (.ref a) → m' (Str.ofString "met") = some (.ref M0) →
      News h₀ L h ((M0, listOf (List.toArray [Value.ref b]) 0) :: (b, tupO [.int 1 u1, .int 1 u2, .int q tq] 0) :: (a, tupO [.int 1 t1, .int 1 t2, .int q tq] 0) :: led) → Q .next { s with heap := h, toks := tk }) :
    wpAny (model (RowW.prog (OpenRow.toRowW (OpenLaw.row Challenge.rw_xm0948_01))) w) (ktrTop dp un gd cn lawScope L a ccd [(Str.ofString "whole", cA)] outer) (exec (stmtAt 10 lawBody) (envX cn lawScope L a ccd [(Str.ofString "whole", cA)])) Q E s := by
  have hmm := mm_eq (l := [(Str.ofString "quarter", .int q tq)]) (m := m) (by
      intro p hp
      simp only [List.mem_cons, List.not_mem_nil, or_false] at hp
      rcases hp with rfl
      · exact hq)
  rw [← hmm] at F
  show wpAny _ _ (exec (PySem.Stmt.Assign _ _ _) _) _ _ _
  revert X
  k_fill
  intro X
  w_strict (
      k_with_none
      k_with "k_get" => assumption
      k_with "k_room" => ((try dsimp only [depth_mark, depth_under_make, depth_under_kw, depth_in1, depth_deeper, depth_caller]); (try dsimp only); first | exact lt_up (by assumption) (Nat.le_of_ble_eq_true rfl) | exact lt_up2 (by assumption) (Nat.le_of_ble_eq_true rfl) | exact lt_up3 (by assumption) (Nat.le_of_ble_eq_true rfl) | exact lt_up0 (by assumption) | omega)
      k_with "k_units" => ((try dsimp only [units_in1, units_deeper, Around.mark_units, units_caller]); (try dsimp only); first | exact lt_up (by assumption) (Nat.le_of_ble_eq_true rfl) | exact lt_up2 (by assumption) (Nat.le_of_ble_eq_true rfl) | exact lt_up3 (by assumption) (Nat.le_of_ble_eq_true rfl) | exact lt_up0 (by assumption) | omega)
      k_with "eval Call" => (k_here; k_dflt (refine Call_ ?_))
      k_with "k_all" => assumption
      k_with "size_fits" => (simp only [List.size_toArray, sizeLine_eq]; omega)
      k_with "exec For Name Call cons nil" => (k_here; (rename Fr _ _ _ _ => lF'); (with_unfolding_all refine For_invVF lF' (by k_dflt (exact rfl)) (by k_dflt (exact rfl)) ?_ (by k_dflt ((intro _; rfl))) (by k_dflt (first | assumption | passes_own)); k_whole))
      k_with "exec For Name Name cons nil" => (k_here; (rename Fr _ _ _ _ => lF'); (with_unfolding_all refine For_invVF lF' (by k_dflt (exact rfl)) (by k_dflt (exact rfl)) ?_ (by k_dflt ((intro _; rfl))) (by k_dflt (first | assumption | passes_own)); k_whole))
      k_with "pyIter ref" => (k_here; k_dflt (with_unfolding_all refine outer_loop (by k_dflt (k_asm)) (by k_dflt (k_asm)) (by k_dflt (k_asm)) (by k_dflt (assumption)) (by k_dflt (assumption)) (by k_dflt (assumption)) (by k_dflt (assumption)) (by k_dflt (assumption)) (by k_dflt (k_asm)) (by k_dflt (rfl)) (by k_dflt (rfl)) (by k_dflt (rfl)) (by k_dflt (k_asm)) (by k_dflt (assumption)) (by k_dflt (assumption)) (by k_dflt (assumption)) ?_; (intro vs9 tl9 k9 h9 tk9 m9 p1 p2 p3 p4 p5 p6 p7 p8); (try dsimp only)))
      k_with "pyIter ref" => (k_here; k_dflt (with_unfolding_all refine loop2 (by k_dflt (k_asm)) (by k_dflt (k_asm)) (by k_dflt (k_asm)) (by k_dflt (assumption)) (by k_dflt (assumption)) (by k_dflt (assumption)) (by k_dflt (k_asm)) (by k_dflt (rfl)) (by k_dflt (rfl)) (by k_dflt (rfl)) (by k_dflt (rfl)) (by k_dflt (k_asm)) (by k_dflt (assumption)) (by k_dflt (assumption)) (by k_dflt (assumption)) (by k_dflt (assumption)) (by k_dflt (assumption)) (by k_dflt (assumption)) ?_; (intro us9 k9 h9 tk9 m9 p1 p2 p3 p4 p5 p6 p7); (try dsimp only)))
      (try k_fold)
      k_steps
      with_reducible rename (@LT.lt Nat _ _ _) ∧ (@LT.lt Nat _ _ _) ∧ AllLt _ led => hl
      with_reducible rename News _ _ _ _ => nN
      exact done _ _ _ _ _ _ _ _ _ _ (allLt_mem hl.2.2) (by assumption) (fun z h1 h2 => by show (if z = _ then _ else if z = _ then _ else mm _ m z) = m z; rw [if_neg h1, if_neg h2, hmm]) rfl rfl (fun p hp => nN p (List.Mem.tail _ hp)))

theorem stage12 {aT cA : Addr} {oc : Obj} {ka : Nat} {led : List (Addr × Obj)} {x y z q : Int} {t1 t2 t3 tv : Tok}
    (B : Below A₀ base outer h₀) (X : (KK (World.params w)).In h₀) (T : Top pp9 ll9 mean mg mb h₀)
    (hwid : getL (Str.ofString "width") es = some (some (.int 32 tw))) (hdp : dp + 60 < recursionLimit) (hun : un + 400 < cLine)
    (b1 : -60 ≤ x ∧ x ≤ 60) (b2 : -60 ≤ y ∧ y ≤ 60) (hxy : x * x + 4 * y * y = 4 * q + 1)
    (F : Fr h₀ L s.heap m) (hh : m (Str.ofString "here") = some (.ref aT)) (N : News h₀ L s.heap ((aT, tupO [.int x t1, .int y t2, .int z t3] ka) :: (cA, oc) :: led)) (hcd : oc.data = .cell (some (.int (4 * q + 1) tv)))
    (hret : ∀ h tk m', Fr h₀ L h m' → Q (.ret (.bool true)) { s with heap := h, toks := tk }) :
    wpAny (model (RowW.prog (OpenRow.toRowW (OpenLaw.row Challenge.rw_xm0948_01))) w) (ktrTop dp un gd cn lawScope L a ccd [(Str.ofString "whole", cA)] outer) (exec (stmtAt 12 lawBody) (envX cn lawScope L a ccd [(Str.ofString "whole", cA)])) Q E s := by
  have hmm := mm_eq (l := [(Str.ofString "here", .ref aT)]) (m := m) (by
      intro p hp
      simp only [List.mem_cons, List.not_mem_nil, or_false] at hp
      rcases hp with rfl
      · exact hh)
  rw [← hmm] at F
  show wpAny _ _ (exec (PySem.Stmt.Return _ _) _) _ _ _
  revert X
  k_fill
  intro X
  w_strict (
      k_with_none
      k_with "k_get" => assumption
      k_with "k_room" => ((try dsimp only [depth_mark, depth_under_make, depth_under_kw, depth_in1, depth_deeper, depth_caller]); (try dsimp only); first | exact lt_up (by assumption) (Nat.le_of_ble_eq_true rfl) | exact lt_up2 (by assumption) (Nat.le_of_ble_eq_true rfl) | exact lt_up3 (by assumption) (Nat.le_of_ble_eq_true rfl) | exact lt_up0 (by assumption) | omega)
      k_with "k_units" => ((try dsimp only [units_in1, units_deeper, Around.mark_units, units_caller]); (try dsimp only); first | exact lt_up (by assumption) (Nat.le_of_ble_eq_true rfl) | exact lt_up2 (by assumption) (Nat.le_of_ble_eq_true rfl) | exact lt_up3 (by assumption) (Nat.le_of_ble_eq_true rfl) | exact lt_up0 (by assumption) | omega)
      k_with "eval Call" => (k_here; k_dflt (refine Call_ ?_))
      k_with "k_all" => assumption
      k_with "size_fits" => (simp only [List.size_toArray, sizeLine_eq]; omega)
      k_with "exec For Name Call cons nil" => (k_here; (rename Fr _ _ _ _ => lF'); (with_unfolding_all refine For_invVF lF' (by k_dflt (exact rfl)) (by k_dflt (exact rfl)) ?_ (by k_dflt ((intro _; rfl))) (by k_dflt (first | assumption | passes_own)); k_whole))
      k_with "exec For Name Name cons nil" => (k_here; (rename Fr _ _ _ _ => lF'); (with_unfolding_all refine For_invVF lF' (by k_dflt (exact rfl)) (by k_dflt (exact rfl)) ?_ (by k_dflt ((intro _; rfl))) (by k_dflt (first | assumption | passes_own)); k_whole))
      k_with "pyIter ref" => (k_here; k_dflt (with_unfolding_all refine outer_loop (by k_dflt (k_asm)) (by k_dflt (k_asm)) (by k_dflt (k_asm)) (by k_dflt (assumption)) (by k_dflt (assumption)) (by k_dflt (assumption)) (by k_dflt (assumption)) (by k_dflt (assumption)) (by k_dflt (k_asm)) (by k_dflt (rfl)) (by k_dflt (rfl)) (by k_dflt (rfl)) (by k_dflt (k_asm)) (by k_dflt (assumption)) (by k_dflt (assumption)) (by k_dflt (assumption)) ?_; (intro vs9 tl9 k9 h9 tk9 m9 p1 p2 p3 p4 p5 p6 p7 p8); (try dsimp only)))
      k_with "pyIter ref" => (k_here; k_dflt (with_unfolding_all refine loop2 (by k_dflt (k_asm)) (by k_dflt (k_asm)) (by k_dflt (k_asm)) (by k_dflt (assumption)) (by k_dflt (assumption)) (by k_dflt (assumption)) (by k_dflt (k_asm)) (by k_dflt (rfl)) (by k_dflt (rfl)) (by k_dflt (rfl)) (by k_dflt (rfl)) (by k_dflt (k_asm)) (by k_dflt (assumption)) (by k_dflt (assumption)) (by k_dflt (assumption)) (by k_dflt (assumption)) (by k_dflt (assumption)) (by k_dflt (assumption)) ?_; (intro us9 k9 h9 tk9 m9 p1 p2 p3 p4 p5 p6 p7); (try dsimp only)))
      (try k_fold)
      k_steps
      rw [show (x * x + 4 * y * y == 4 * q + 1) = true from by rw [hxy]; exact beq_self_eq_true _]
      exact hret _ _ _ (by assumption))

end
end

section
def tsOf (q : Int) : List Tri := tripsN q (2 * q).toNat
def inB (l u x : Int) : Bool := decide (l ≤ x) && decide (x ≤ u)
def goodB (ts : List Tri) : Bool := ts.all fun t => decide (turn t ∈ ts) && decide (turn (turn t) = t) && inB (-60) 60 t.1 && inB (-60) 60 t.2.1 && inB (-60) 60 t.2.2
def ascB : List Tri → Bool
  | [] => true
  | t :: r => r.all (fun u => decide (t.1 < u.1)) && ascB r
def factsB (q : Int) : Bool := goodB (tsOf q) && decide (staysOf (tsOf q) = (lows q).map (fixOf q)) && ascB (staysOf (tsOf q)) && (lows q).all (inB 1 60) &&
  walkB (tsOf q) (staysOf (tsOf q)) (lows q).length (4 * q + 1) 60 (1, 1, q) [(1, 1, q)] && decide ((1, 1, q) ∈ tsOf q) && decide (1 ≤ (staysOf (tsOf q)).length) && decide ((staysOf (tsOf q)).length < 64) && inB 1 11 q
theorem facts_ok : ∀ q ∈ [1, 3, 4, 5, 7, 8, 9, 10, 11], factsB q = true := by decide +kernel
theorem inB_iff {l u x : Int} (h : inB l u x = true) : l ≤ x ∧ x ≤ u := by
  unfold inB at h
  simp only [Bool.and_eq_true, decide_eq_true_eq] at h
  exact h
theorem goodB_ok {ts : List Tri} (h : goodB ts = true) : Good ts := by
  intro t ht
  have h1 := List.all_eq_true.mp h t ht
  simp only [Bool.and_eq_true, decide_eq_true_eq] at h1
  obtain ⟨⟨⟨⟨a, b⟩, c⟩, d⟩, e⟩ := h1
  exact ⟨a, b, inB_iff c, inB_iff d, inB_iff e⟩
theorem ascB_ok : ∀ {ts : List Tri}, ascB ts = true → ts.Pairwise (fun t u => t.1 < u.1)
  | [], _ => List.Pairwise.nil
  | t :: r, h => by
    unfold ascB at h
    simp only [Bool.and_eq_true] at h
    refine List.Pairwise.cons (fun u hu => ?_) (ascB_ok h.2)
    exact of_decide_eq_true (List.all_eq_true.mp h.1 u hu)
section
variable {pp9 : Program} {ll9 : List Str} {w : World} {mean : ExcName → Option Value} {mg mb : Str → Option Value} {dp un : Nat} {gd : Option (List Code)} {cn : Str} {a : Addr} {ccd : Value} {outer : List Env} {A₀ : Around} {base h₀ : Heap} {L : Addr} {m : Str → Option Value} {s : Shared} {E : Value → Shared → Prop} {Q : Flow → Shared → Prop}
  {W D : Addr} {es : List DictEntry} {n : Nat} {tw : Tok}

theorem rest_ok {T0 cA : Addr} {oc : Obj} {k0 : Nat} {q : Int} {tq tv : Tok}
    (B : Below A₀ base outer h₀) (X : (KK (World.params w)).In h₀) (T : Top pp9 ll9 mean mg mb h₀)
    (hwid : getL (Str.ofString "width") es = some (some (.int 32 tw))) (hdp : dp + 60 < recursionLimit) (hun : un + 400 < cLine)
    (hPE : PassesOwn (model (RowW.prog (OpenRow.toRowW (OpenLaw.row Challenge.rw_xm0948_01))) w) (ktrTop dp un gd cn lawScope L a ccd [(Str.ofString "whole", cA)] outer) (envX cn lawScope L a ccd [(Str.ofString "whole", cA)]) E)
    (hq9 : q ∈ [1, 3, 4, 5, 7, 8, 9, 10, 11])
    (F : Fr h₀ L s.heap m) (hw : m (Str.ofString "world") = some (.ref W)) (ht : m (Str.ofString "triples") = some (.ref T0)) (hq : m (Str.ofString "quarter") = some (.int q tq))
    (N : News h₀ L s.heap ((T0, listOf (List.toArray []) k0) :: (W, instObj 237 D) :: (D, dictOf es n) :: (cA, oc) :: [])) (hcd : oc.data = .cell (some (.int (4 * q + 1) tv))) (hcc : NotSeq oc)
    (hret : ∀ h tk m', Fr h₀ L h m' → Q (.ret (.bool true)) { s with heap := h, toks := tk }) :
    wpAny (model (RowW.prog (OpenRow.toRowW (OpenLaw.row Challenge.rw_xm0948_01))) w) (ktrTop dp un gd cn lawScope L a ccd [(Str.ofString "whole", cA)] outer) (execs (lawBody.drop 5) (envX cn lawScope L a ccd [(Str.ofString "whole", cA)])) Q E s := by
  have hf := facts_ok q hq9
  unfold factsB at hf
  simp only [Bool.and_eq_true, decide_eq_true_eq] at hf
  obtain ⟨⟨⟨⟨⟨⟨⟨⟨f1, f2⟩, f3⟩, f4⟩, f5⟩, f6⟩, f7⟩, f8⟩, f9⟩ := hf
  have hG := goodB_ok f1
  have hasc := ascB_ok f3
  have b1 := inB_iff f9
  have hpos : ∀ d ∈ lows q, 1 ≤ d ∧ d ≤ 60 := fun d hd => inB_iff (List.all_eq_true.mp f4 d hd)
  refine wpAny_execs_cons (stage5 B X T hwid hdp hun hPE b1 F hw ht hq N hcd hcc ?_)
  intro vs tl k h1 tk1 m1 d1 d2 d3 F1 a1 a2 a3 N1
  refine wpAny_execs_cons (stage6 (cA := cA) B X T hwid hdp hun F1 N1 ?_)
  intro S0 h2 tk2 l2 F2 N2
  have hST : @Ne Nat S0 T0 := fun e => absurd (l2 _ (List.Mem.head _)) (by show ¬ @LT.lt Nat _ T0 S0; rw [e]; exact Nat.lt_irrefl _)
  refine wpAny_execs_cons (stage7 (ts := tsOf q) B X T hwid hdp hun hPE F2 ((if_neg (by decide)).trans a1) ((if_neg (by decide)).trans a2) ((if_neg (by decide)).trans a3) (if_pos rfl) N2 d1 hG d3 d2 hcc hST ?_)
  intro us ks h3 tk3 m3 d4 F3 c1 c2 c3 c4 N3
  have hus : us.length = (staysOf (tsOf q)).length := by rw [d4.length, List.length_map]
  refine wpAny_execs_cons (stage4a (tq := tq) B X T hwid hdp hun b1 F3 N3 hcd ?_)
  intro lvs L0 h4 tk4 hI hl4 F4 hSL hTL N4
  have e1 : ∀ z, z ≠ Str.ofString "low" → (fun z => if z = Str.ofString "low" then some (Value.ref L0) else m3 z) z = m3 z := fun z hz => if_neg hz
  refine wpAny_execs_cons (stage4b B X T hwid hdp hun hPE b1 F4 ((e1 _ (by decide)).trans c4) (if_pos rfl) N4 hcd d4 hI hpos f2 hasc (by omega) (by omega) hl4 ?_)
  intro h5 tk5 F5 N5
  refine wpAny_execs_cons (stage10 (cA := cA) B X T hwid hdp hun F5 ((e1 _ (by decide)).trans c3) N5 ?_)
  intro a b M0 t1 t2 u1 u2 h6 tk6 m6 l6 F6 e6 g1 g2 N6
  have e7 : ∀ z, z ≠ Str.ofString "here" → z ≠ Str.ofString "met" → z ≠ Str.ofString "low" → m6 z = m3 z := fun z x1 x2 x3 => (e6 z x1 x2).trans (e1 z x3)
  have ne : ∀ p : Addr × Obj, p ∈ (L0, listOf lvs.toArray lvs.length) :: (S0, listOf us.toArray ks) :: (T0, listOf vs.toArray k) :: (W, instObj 237 D) :: (D, dictOf es n) :: (cA, oc) :: tl → @Ne Nat p.1 M0 := fun p hp e => absurd (l6 p hp) (by rw [e]; exact Nat.lt_irrefl _)
  have hlen : lvs.length = (lows q).length := hI.length
  have N7 : News h₀ L h6 (Led5 M0 a S0 L0 T0 W D cA oc es n [Value.ref b] us lvs vs 0 ks lvs.length k (tupO [.int 1 t1, .int 1 t2, .int q tq] 0) ((b, tupO [.int 1 u1, .int 1 u2, .int q tq] 0) :: tl)) := by
    intro p hp
    refine N6 p ?_
    unfold Led5 at hp
    simp only [List.mem_cons] at hp ⊢
    rcases hp with hp | hp | hp | hp | hp | hp | hp | hp | hp | hp
    · exact .inl hp
    · exact .inr (.inr (.inl hp))
    · exact .inr (.inr (.inr (.inr (.inl hp))))
    · exact .inr (.inr (.inr (.inl hp)))
    · exact .inr (.inr (.inr (.inr (.inr (.inl hp)))))
    · exact .inr (.inr (.inr (.inr (.inr (.inr (.inl hp))))))
    · exact .inr (.inr (.inr (.inr (.inr (.inr (.inr (.inl hp)))))))
    · exact .inr (.inr (.inr (.inr (.inr (.inr (.inr (.inr (.inl hp))))))))
    · exact .inr (.inl hp)
    · exact .inr (.inr (.inr (.inr (.inr (.inr (.inr (.inr (.inr hp))))))))
  have up : ∀ p ∈ tl, p ∈ (b, tupO [.int 1 u1, .int 1 u2, .int q tq] 0) :: tl := fun p hp => List.Mem.tail _ hp
  have hJ : J5 M0 S0 L0 T0 W D cA oc es n us lvs vs ks lvs.length k (tsOf q) (staysOf (tsOf q)) (4 * q + 1) 60 m6 (Led5 M0 a S0 L0 T0 W D cA oc es n [Value.ref b] us lvs vs 0 ks lvs.length k (tupO [.int 1 t1, .int 1 t2, .int q tq] 0) ((b, tupO [.int 1 u1, .int 1 u2, .int q tq] 0) :: tl)) := by
    refine ⟨a, 0, 1, 1, q, t1, t2, tq, [Value.ref b], 0, [(1, 1, q)], (b, tupO [.int 1 u1, .int 1 u2, .int q tq] 0) :: tl, rfl, ?_, d1.mono up, d4.mono up, ?_, by simp, ?_, f6, g1, g2, ?_, ?_, ?_, ?_⟩
    · exact DatAll.one (triIn (List.Mem.head _))
    · intro p hp
      rcases List.mem_cons.mp hp with rfl | hp
      · rfl
      · exact d2 p hp
    · rw [hlen]; exact f5
    · exact (e7 _ (by decide) (by decide) (by decide)).trans c1
    · exact (e7 _ (by decide) (by decide) (by decide)).trans c2
    · exact (e7 _ (by decide) (by decide) (by decide)).trans c4
    · exact (e6 _ (by decide) (by decide)).trans (if_pos rfl)
  refine wpAny_execs_cons (loop3 (ts := tsOf q) (st := staysOf (tsOf q)) (whole := 4 * q + 1) (i0 := 60) B X T hwid hdp hun hPE F6 N7 hJ hG hcc (by omega) (ne _ (List.Mem.tail _ (List.Mem.head _))) (ne _ (List.Mem.head _)) (ne _ (List.Mem.tail _ (List.Mem.tail _ (List.Mem.head _)))) ?_ ?_)
  · intro h tk m' Fh
    exact hret h tk m' Fh
  · intro a' ka x y z v1 v2 v3 l h7 tk7 m7 g3 hxy hx1 hy1 F7 N8
    refine wpAny_execs_cons (stage12 B X T hwid hdp hun hx1 hy1 hxy F7 g3 N8 hcd ?_)
    intro h tk m' Fh
    exact hret h tk m' Fh
end
end

section
theorem any_len {prog : Program} {w : World} {A : Around} {E : Value → Shared → Prop} {s : Shared} {h₀ : Heap} {L T0 : Addr} {led : List (Addr × Obj)} {vs : List Value} {k : Nat} {Q : Value → Shared → Prop} (N : News h₀ L s.heap led) (hT : (T0, listOf vs.toArray k) ∈ led) (hz : vs.length ≤ 1000000000) (h : Q (.int (vs.length : Int) (s.toks + 1)) { s with toks := s.toks + 1 + 1 }) : wpAny (model prog w) A (call (.builtin "len") [.ref T0]) Q E s := by
  have hl : s.heap.IsList T0 vs.toArray := ⟨_, (N _ hT).1, rfl, k, rfl⟩
  have e : vs.toArray.size = vs.length := List.size_toArray ..
  exact len_list hl (by rw [e]; omega) (by rw [e]; exact h)

section
variable {pp9 : Program} {ll9 : List Str} {w : World} {mean : ExcName → Option Value} {mg mb : Str → Option Value} {dp un : Nat} {gd : Option (List Code)} {cn : Str} {a : Addr} {ccd : Value} {outer : List Env} {A₀ : Around} {base h₀ : Heap} {L : Addr} {m : Str → Option Value} {s : Shared} {E : Value → Shared → Prop} {Q : Flow → Shared → Prop}
  {W D : Addr} {es : List DictEntry} {n : Nat} {tw : Tok}

theorem st1_nil {l cA U0 : Addr} {oc0 : Obj} {tu : Tok} 
    (B : Below A₀ base outer h₀) (X : (KK (World.params w)).In h₀) (T : Top pp9 ll9 mean mg mb h₀)
    (hdp : dp + 60 < recursionLimit) (hun : un + 400 < cLine)
    (F : Fr h₀ L s.heap m) (hs : m (Str.ofString "script") = some (.ref l)) (hus : m (Str.ofString "usual") = some (.ref U0)) (hl : h₀.IsList l (List.toArray [])) (hI : IntsAre [] [])
    (N : News h₀ L s.heap [(U0, listOf #[.int 2 tu] 0), (cA, oc0)])
    (done : ∀ C0 c tc h tk, 0 ≤ c → Fr h₀ L h (fun y => if y = Str.ofString "cells" then some (.ref C0) else m y) → News h₀ L h [(C0, listOf #[.int c tc] 0), (cA, oc0)] → Q .next { s with heap := h, toks := tk }) :
    wpAny (model (RowW.prog (OpenRow.toRowW (OpenLaw.row Challenge.rw_xm0948_01))) w) (ktrTop dp un gd cn lawScope L a ccd [(Str.ofString "whole", cA)] outer) (exec (stmtAt 1 lawBody) (envX cn lawScope L a ccd [(Str.ofString "whole", cA)])) Q E s := by
  have hmm := mm_eq (l := [(Str.ofString "script", .ref l), (Str.ofString "usual", .ref U0)]) (m := m) (by
      intro p hp
      simp only [List.mem_cons, List.not_mem_nil, or_false] at hp
      rcases hp with rfl | rfl
      · exact hs
      · exact hus)
  rw [← hmm] at F
  show wpAny _ _ (exec (PySem.Stmt.Assign _ _ _) _) _ _ _
  revert X
  k_fill
  intro X
  w_strict (
      k_with_none
      k_with "k_room" => ((try dsimp only [depth_mark, depth_under_make, depth_under_kw, depth_in1, depth_deeper, depth_caller]); (try dsimp only); first | exact lt_up (by assumption) (Nat.le_of_ble_eq_true rfl) | exact lt_up2 (by assumption) (Nat.le_of_ble_eq_true rfl) | exact lt_up3 (by assumption) (Nat.le_of_ble_eq_true rfl) | exact lt_up0 (by assumption) | omega)
      k_with "k_units" => ((try dsimp only [units_in1, units_deeper, Around.mark_units, units_caller]); (try dsimp only); first | exact lt_up (by assumption) (Nat.le_of_ble_eq_true rfl) | exact lt_up2 (by assumption) (Nat.le_of_ble_eq_true rfl) | exact lt_up3 (by assumption) (Nat.le_of_ble_eq_true rfl) | exact lt_up0 (by assumption) | omega)
      k_with "eval Call" => (k_here; k_dflt (refine Call_ ?_))
      k_with "k_all" => assumption
      k_with "size_fits" => (simp only [List.size_toArray, sizeLine_eq]; omega)
      (try k_fold)
      k_steps
      rename News _ _ _ _ => nN
      rename Fr _ _ _ _ => nF
      rw [hmm] at nF
      refine' done _ _ _ _ _ ?zz9 nF (news_two nN (by k_mem) (by k_mem) (fun _ h => nomatch h))
      case zz9 => omega)

theorem st1_cons {l cA U0 : Addr} {oc0 : Obj} {tu t0 : Tok} {r : List Value} {nr : List Int} {n0 : Int}
    (B : Below A₀ base outer h₀) (X : (KK (World.params w)).In h₀) (T : Top pp9 ll9 mean mg mb h₀)
    (hdp : dp + 60 < recursionLimit) (hun : un + 400 < cLine)
    (F : Fr h₀ L s.heap m) (hs : m (Str.ofString "script") = some (.ref l)) (hus : m (Str.ofString "usual") = some (.ref U0)) (hl : h₀.IsList l (List.toArray (Value.int n0 t0 :: r))) (hI : IntsAre (Value.int n0 t0 :: r) (n0 :: nr)) (hlen : (n0 :: nr).length ≤ 63)
    (N : News h₀ L s.heap [(U0, listOf #[.int 2 tu] 0), (cA, oc0)])
    (done : ∀ C0 c tc h tk, 0 ≤ c → Fr h₀ L h (fun y => if y = Str.ofString "cells" then some (.ref C0) else m y) → News h₀ L h [(C0, listOf #[.int c tc] 0), (cA, oc0)] → Q .next { s with heap := h, toks := tk }) :
    wpAny (model (RowW.prog (OpenRow.toRowW (OpenLaw.row Challenge.rw_xm0948_01))) w) (ktrTop dp un gd cn lawScope L a ccd [(Str.ofString "whole", cA)] outer) (exec (stmtAt 1 lawBody) (envX cn lawScope L a ccd [(Str.ofString "whole", cA)])) Q E s := by
  have hmm := mm_eq (l := [(Str.ofString "script", .ref l), (Str.ofString "usual", .ref U0)]) (m := m) (by
      intro p hp
      simp only [List.mem_cons, List.not_mem_nil, or_false] at hp
      rcases hp with rfl | rfl
      · exact hs
      · exact hus)
  rw [← hmm] at F
  show wpAny _ _ (exec (PySem.Stmt.Assign _ _ _) _) _ _ _
  revert X
  k_fill
  intro X
  w_strict (
      k_with_none
      k_with "k_room" => ((try dsimp only [depth_mark, depth_under_make, depth_under_kw, depth_in1, depth_deeper, depth_caller]); (try dsimp only); first | exact lt_up (by assumption) (Nat.le_of_ble_eq_true rfl) | exact lt_up2 (by assumption) (Nat.le_of_ble_eq_true rfl) | exact lt_up3 (by assumption) (Nat.le_of_ble_eq_true rfl) | exact lt_up0 (by assumption) | omega)
      k_with "k_units" => ((try dsimp only [units_in1, units_deeper, Around.mark_units, units_caller]); (try dsimp only); first | exact lt_up (by assumption) (Nat.le_of_ble_eq_true rfl) | exact lt_up2 (by assumption) (Nat.le_of_ble_eq_true rfl) | exact lt_up3 (by assumption) (Nat.le_of_ble_eq_true rfl) | exact lt_up0 (by assumption) | omega)
      k_with "eval Call" => (k_here; k_dflt (refine Call_ ?_))
      k_with "k_all" => assumption
      k_with "size_fits" => (simp only [List.size_toArray, sizeLine_eq]; omega)
      (try k_fold)
      k_steps
      rename News _ _ _ _ => nN
      rename Fr _ _ _ _ => nF
      rw [hmm] at nF
      refine' done _ _ _ _ _ ?zz9 nF (news_two nN (by k_mem) (by k_mem) (fun _ h => nomatch h))
      case zz9 => (split <;> omega))

end
end

section
theorem nine_yes {q : Int} (_ : 1 ≤ q ∧ q ≤ 11) (hy : q = 2 ∨ q = 6) : q + 1 ∈ [1, 3, 4, 5, 7, 8, 9, 10, 11] := by
  rcases hy with rfl | rfl <;> decide
theorem nine_no {q : Int} (h : 1 ≤ q ∧ q ≤ 11) (hn : ¬ (q = 2 ∨ q = 6)) : q ∈ [1, 3, 4, 5, 7, 8, 9, 10, 11] := by
  obtain ⟨k, rfl⟩ := Int.eq_ofNat_of_zero_le (a := q) (by omega)
  exact (by decide : ∀ k < 12, 1 ≤ ((k : Nat) : Int) → ¬ (((k : Nat) : Int) = 2 ∨ ((k : Nat) : Int) = 6) → ((k : Nat) : Int) ∈ [1, 3, 4, 5, 7, 8, 9, 10, 11]) k (by omega) h.1 hn
theorem in_two {prog : Program} {w : World} {A : Around} {E : Value → Shared → Prop} {s : Shared} {h₀ : Heap} {L a : Addr} {led : List (Addr × Obj)} {q i j : Int} {tq t1 t2 : Tok} {k : Nat} {Q : Value → Shared → Prop}
    (N : News h₀ L s.heap led) (ha : (a, tupO [.int i t1, .int j t2] k) ∈ led) (hu : A.units + 64 < cLine) (h : Q (.bool (decide (q = i ∨ q = j))) s) : wpAny (model prog w) A (compareOp .In (.int q tq) (.ref a)) Q E s := by
  have hd : DatIn led (.ref a) (.tuple [.int i, .int j]) := .tuple ha (.cons (.int _ _) (.cons (.int _ _) .nil))
  obtain ⟨as, ra⟩ := kqd_in N 8 hd rfl
  obtain ⟨bs, rb⟩ := kqd_in N 8 (DatIn.int (news := led) q tq) rfl
  rw [kqdP] at ra
  have l := kqd_layL (ds := [.int i, .int j]) (by intro d hd; simp only [List.mem_cons, List.not_mem_nil, or_false] at hd; rcases hd with rfl | rfl <;> rfl)
  have ld := kqd_lay 8 (.int q) rfl
  have l2 := ld.2
  have ok : ∀ e ∈ [Dat.int i, Dat.int j], kqdOk 8 e = true := by intro d hd; simp only [List.mem_cons, List.not_mem_nil, or_false] at hd; rcases hd with rfl | rfl <;> rfl
  have e : ((kqdPs [.int i, .int j]).any fun y => PyData.eqv y (kqdP (.int q))) = decide (q = i ∨ q = j) := by
    have ka := kqd_any [.int i, .int j] (.int q) ok rfl
    by_cases hq : q = i ∨ q = j
    · rw [decide_eq_true hq]
      refine ka.mpr ?_
      rcases hq with rfl | rfl
      · exact List.Mem.head _
      · exact List.Mem.tail _ (List.Mem.head _)
    · rw [decide_eq_false hq]
      refine Bool.eq_false_iff.mpr fun z => hq ?_
      have z' := ka.mp z
      simp only [List.mem_cons, Dat.int.injEq, List.not_mem_nil, or_false] at z'
      exact z'
  refine SeqAt.in_tuple_reads ra rb l.1 ld.1 ?_ (by rw [e]; exact h)
  have := Nat.min_le_right (PyData.depthAll (kqdPs [.int i, .int j])) (kqdP (.int q)).depth
  omega

section
variable {pp9 : Program} {ll9 : List Str} {w : World} {mean : ExcName → Option Value} {mg mb : Str → Option Value} {dp un : Nat} {gd : Option (List Code)} {cn : Str} {a : Addr} {ccd : Value} {outer : List Env} {A₀ : Around} {base h₀ : Heap} {L : Addr} {m : Str → Option Value} {s : Shared} {E : Value → Shared → Prop} {Q : Flow → Shared → Prop}
  {W D : Addr} {es : List DictEntry} {n : Nat} {tw : Tok}

theorem st0 {cA : Addr} {led : List (Addr × Obj)}
    (B : Below A₀ base outer h₀) (X : (KK (World.params w)).In h₀) (T : Top pp9 ll9 mean mg mb h₀)
    (hdp : dp + 60 < recursionLimit) (hun : un + 400 < cLine)
    (F : Fr h₀ L s.heap m) (N : News h₀ L s.heap led)
    (done : ∀ U0 tu h tk, Fr h₀ L h (fun y => if y = Str.ofString "usual" then some (.ref U0) else m y) → News h₀ L h ((U0, listOf #[.int 2 tu] 0) :: led) → Q .next { s with heap := h, toks := tk }) :
    wpAny (model (RowW.prog (OpenRow.toRowW (OpenLaw.row Challenge.rw_xm0948_01))) w) (ktrTop dp un gd cn lawScope L a ccd [(Str.ofString "whole", cA)] outer) (exec (stmtAt 0 lawBody) (envX cn lawScope L a ccd [(Str.ofString "whole", cA)])) Q E s := by
  show wpAny _ _ (exec (PySem.Stmt.Assign _ _ _) _) _ _ _
  revert X
  k_fill
  intro X
  w_strict (
      k_with_none
      k_with "k_room" => ((try dsimp only [depth_mark, depth_under_make, depth_under_kw, depth_in1, depth_deeper, depth_caller]); (try dsimp only); first | exact lt_up (by assumption) (Nat.le_of_ble_eq_true rfl) | exact lt_up2 (by assumption) (Nat.le_of_ble_eq_true rfl) | exact lt_up3 (by assumption) (Nat.le_of_ble_eq_true rfl) | exact lt_up0 (by assumption) | omega)
      k_with "k_units" => ((try dsimp only [units_in1, units_deeper, Around.mark_units, units_caller]); (try dsimp only); first | exact lt_up (by assumption) (Nat.le_of_ble_eq_true rfl) | exact lt_up2 (by assumption) (Nat.le_of_ble_eq_true rfl) | exact lt_up3 (by assumption) (Nat.le_of_ble_eq_true rfl) | exact lt_up0 (by assumption) | omega)
      k_with "eval Call" => (k_here; k_dflt (refine Call_ ?_))
      k_with "k_all" => assumption
      k_with "size_fits" => (simp only [List.size_toArray, sizeLine_eq]; omega)
      k_with "call ref" => (k_here; (with_reducible show wpAny _ _ (call (Value.ref 237) _ _) _ _ _); k_dflt (with_unfolding_all refine worldNew (by k_dflt (k_asm)) (by k_dflt (k_asm)) (by k_dflt (k_asm)) (by k_dflt (k_asm)) (by k_dflt (k_asm)) (by k_dflt (first | exact rfl | assumption)) (by k_dflt (k_room)) (by k_dflt (k_units)) ?_; (intro W9 D9 es9 n9 tw9 h9 tk9 hw9 l9 l8 F9 N9); (k_lt l9); (k_lt l8); (try dsimp only); (try k_fold)))
      k_with "compareOp In int ref" => (k_here; (with_reducible show wpAny _ _ (compareOp CmpOp.In (Value.int _ _) (Value.ref _)) _ _ _); k_dflt (with_unfolding_all refine in_two (by k_dflt (k_asm)) (by k_dflt (k_mem)) (by k_dflt (k_units)) ?_; (try dsimp only)))
      (try k_fold)
      k_steps
      rename News _ _ _ _ => nN
      rename Fr _ _ _ _ => nF
      exact done _ _ _ _ nF nN)
theorem st2 {cA C0 : Addr} {oc0 : Obj} {c : Int} {tc : Tok}
    (B : Below A₀ base outer h₀) (X : (KK (World.params w)).In h₀) (T : Top pp9 ll9 mean mg mb h₀)
    (hdp : dp + 60 < recursionLimit) (hun : un + 400 < cLine)
    (F : Fr h₀ L s.heap m) (hc : m (Str.ofString "cells") = some (.ref C0)) (N : News h₀ L s.heap [(C0, listOf #[.int c tc] 0), (cA, oc0)]) (hc0 : 0 ≤ c)
    (done : ∀ W D es n tw T0 tq h tk m', getL (Str.ofString "width") es = some (some (.int 32 tw)) → Fr h₀ L h m' → m' (Str.ofString "quarter") = some (.int (1 + Int.fmod c 11) tq) → m' (Str.ofString "world") = some (.ref W) → m' (Str.ofString "triples") = some (.ref T0) →
      News h₀ L h [(T0, listOf (List.toArray []) 0), (W, instObj 237 D), (D, dictOf es n), (C0, listOf #[.int c tc] 0), (cA, oc0)] → Q .next { s with heap := h, toks := tk }) :
    wpAny (model (RowW.prog (OpenRow.toRowW (OpenLaw.row Challenge.rw_xm0948_01))) w) (ktrTop dp un gd cn lawScope L a ccd [(Str.ofString "whole", cA)] outer) (exec (stmtAt 2 lawBody) (envX cn lawScope L a ccd [(Str.ofString "whole", cA)])) Q E s := by
  have hmm := mm_eq (l := [(Str.ofString "cells", .ref C0)]) (m := m) (by
      intro p hp
      simp only [List.mem_cons, List.not_mem_nil, or_false] at hp
      rcases hp with rfl
      · exact hc)
  rw [← hmm] at F
  show wpAny _ _ (exec (PySem.Stmt.Assign _ _ _) _) _ _ _
  revert X
  k_fill
  intro X
  w_strict (
      k_with_none
      k_with "k_room" => ((try dsimp only [depth_mark, depth_under_make, depth_under_kw, depth_in1, depth_deeper, depth_caller]); (try dsimp only); first | exact lt_up (by assumption) (Nat.le_of_ble_eq_true rfl) | exact lt_up2 (by assumption) (Nat.le_of_ble_eq_true rfl) | exact lt_up3 (by assumption) (Nat.le_of_ble_eq_true rfl) | exact lt_up0 (by assumption) | omega)
      k_with "k_units" => ((try dsimp only [units_in1, units_deeper, Around.mark_units, units_caller]); (try dsimp only); first | exact lt_up (by assumption) (Nat.le_of_ble_eq_true rfl) | exact lt_up2 (by assumption) (Nat.le_of_ble_eq_true rfl) | exact lt_up3 (by assumption) (Nat.le_of_ble_eq_true rfl) | exact lt_up0 (by assumption) | omega)
      k_with "eval Call" => (k_here; k_dflt (refine Call_ ?_))
      k_with "k_all" => assumption
      k_with "size_fits" => (simp only [List.size_toArray, sizeLine_eq]; omega)
      k_with "call ref" => (k_here; (with_reducible show wpAny _ _ (call (Value.ref 237) _ _) _ _ _); k_dflt (with_unfolding_all refine worldNew (by k_dflt (k_asm)) (by k_dflt (k_asm)) (by k_dflt (k_asm)) (by k_dflt (k_asm)) (by k_dflt (k_asm)) (by k_dflt (first | exact rfl | assumption)) (by k_dflt (k_room)) (by k_dflt (k_units)) ?_; (intro W9 D9 es9 n9 tw9 h9 tk9 hw9 l9 l8 F9 N9); (k_lt l9); (k_lt l8); (try dsimp only); (try k_fold)))
      k_with "compareOp In int ref" => (k_here; (with_reducible show wpAny _ _ (compareOp CmpOp.In (Value.int _ _) (Value.ref _)) _ _ _); k_dflt (with_unfolding_all refine in_two (by k_dflt (k_asm)) (by k_dflt (k_mem)) (by k_dflt (k_units)) ?_; (try dsimp only)))
      (try k_fold)
      k_steps
      rename News _ _ _ _ => nN
      rename Fr _ _ _ _ => nF
      refine' done _ _ _ _ _ _ _ _ _ _ ?zw9 nF rfl rfl rfl (fun p hp => nN p (List.Mem.tail _ hp))
      case zw9 => assumption)

theorem st3 {cA : Addr} {led : List (Addr × Obj)} {q : Int} {tq : Tok}
    (B : Below A₀ base outer h₀) (X : (KK (World.params w)).In h₀) (T : Top pp9 ll9 mean mg mb h₀)
    (hdp : dp + 60 < recursionLimit) (hun : un + 400 < cLine)
    (F : Fr h₀ L s.heap m) (hq : m (Str.ofString "quarter") = some (.int q tq)) (N : News h₀ L s.heap led) (b1 : 1 ≤ q ∧ q ≤ 11)
    (done : ∀ q' tq' h tk, q' ∈ [1, 3, 4, 5, 7, 8, 9, 10, 11] → Fr h₀ L h (fun y => if y = Str.ofString "quarter" then some (.int q' tq') else m y) → News h₀ L h led → Q .next { s with heap := h, toks := tk }) :
    wpAny (model (RowW.prog (OpenRow.toRowW (OpenLaw.row Challenge.rw_xm0948_01))) w) (ktrTop dp un gd cn lawScope L a ccd [(Str.ofString "whole", cA)] outer) (exec (stmtAt 3 lawBody) (envX cn lawScope L a ccd [(Str.ofString "whole", cA)])) Q E s := by
  have hmm := mm_eq (l := [(Str.ofString "quarter", .int q tq)]) (m := m) (by
      intro p hp
      simp only [List.mem_cons, List.not_mem_nil, or_false] at hp
      rcases hp with rfl
      · exact hq)
  rw [← hmm] at F
  show wpAny _ _ (exec (PySem.Stmt.Assign _ _ _) _) _ _ _
  revert X
  k_fill
  intro X
  w_strict (
      k_with_none
      k_with "k_room" => ((try dsimp only [depth_mark, depth_under_make, depth_under_kw, depth_in1, depth_deeper, depth_caller]); (try dsimp only); first | exact lt_up (by assumption) (Nat.le_of_ble_eq_true rfl) | exact lt_up2 (by assumption) (Nat.le_of_ble_eq_true rfl) | exact lt_up3 (by assumption) (Nat.le_of_ble_eq_true rfl) | exact lt_up0 (by assumption) | omega)
      k_with "k_units" => ((try dsimp only [units_in1, units_deeper, Around.mark_units, units_caller]); (try dsimp only); first | exact lt_up (by assumption) (Nat.le_of_ble_eq_true rfl) | exact lt_up2 (by assumption) (Nat.le_of_ble_eq_true rfl) | exact lt_up3 (by assumption) (Nat.le_of_ble_eq_true rfl) | exact lt_up0 (by assumption) | omega)
      k_with "eval Call" => (k_here; k_dflt (refine Call_ ?_))
      k_with "k_all" => assumption
      k_with "size_fits" => (simp only [List.size_toArray, sizeLine_eq]; omega)
      k_with "call ref" => (k_here; (with_reducible show wpAny _ _ (call (Value.ref 237) _ _) _ _ _); k_dflt (with_unfolding_all refine worldNew (by k_dflt (k_asm)) (by k_dflt (k_asm)) (by k_dflt (k_asm)) (by k_dflt (k_asm)) (by k_dflt (k_asm)) (by k_dflt (first | exact rfl | assumption)) (by k_dflt (k_room)) (by k_dflt (k_units)) ?_; (intro W9 D9 es9 n9 tw9 h9 tk9 hw9 l9 l8 F9 N9); (k_lt l9); (k_lt l8); (try dsimp only); (try k_fold)))
      k_with "compareOp In int ref" => (k_here; (with_reducible show wpAny _ _ (compareOp CmpOp.In (Value.int _ _) (Value.ref _)) _ _ _); k_dflt (with_unfolding_all refine in_two (by k_dflt (k_asm)) (by k_dflt (k_mem)) (by k_dflt (k_units)) ?_; (try dsimp only)))
      (try k_fold)
      k_steps
      all_goals (rename News _ _ _ _ => nN; rename Fr _ _ _ _ => nF; rw [hmm] at nF; refine' done _ _ _ _ ?zm9 nF (fun p hp => nN p (List.Mem.tail _ hp)); (case zm9 => first | exact nine_yes b1 (by assumption) | exact nine_no b1 (by assumption) | exact nine_yes b1 (of_decide_eq_true (by assumption)) | exact nine_no b1 (of_decide_eq_false (by assumption)))))

theorem st4 {cA : Addr} {oc0 : Obj} {v0 : Option Value} {led : List (Addr × Obj)} {q : Int} {tq : Tok}
    (B : Below A₀ base outer h₀) (X : (KK (World.params w)).In h₀) (T : Top pp9 ll9 mean mg mb h₀)
    (hdp : dp + 60 < recursionLimit) (hun : un + 400 < cLine)
    (F : Fr h₀ L s.heap m) (hq : m (Str.ofString "quarter") = some (.int q tq)) (N : News h₀ L s.heap ((cA, oc0) :: led)) (hoc : oc0.data = .cell v0) (hoff : ∀ p ∈ led, p.1 ≠ cA) (b1 : 1 ≤ q ∧ q ≤ 11)
    (done : ∀ oc tv h tk, oc.data = .cell (some (.int (4 * q + 1) tv)) → Fr h₀ L h m → News h₀ L h ((cA, oc) :: led) → Q .next { s with heap := h, toks := tk }) :
    wpAny (model (RowW.prog (OpenRow.toRowW (OpenLaw.row Challenge.rw_xm0948_01))) w) (ktrTop dp un gd cn lawScope L a ccd [(Str.ofString "whole", cA)] outer) (exec (stmtAt 4 lawBody) (envX cn lawScope L a ccd [(Str.ofString "whole", cA)])) Q E s := by
  have hmm := mm_eq (l := [(Str.ofString "quarter", .int q tq)]) (m := m) (by
      intro p hp
      simp only [List.mem_cons, List.not_mem_nil, or_false] at hp
      rcases hp with rfl
      · exact hq)
  rw [← hmm] at F
  show wpAny _ _ (exec (PySem.Stmt.Assign _ _ _) _) _ _ _
  revert X
  k_fill
  intro X
  w_strict (
      k_with_none
      k_with "k_room" => ((try dsimp only [depth_mark, depth_under_make, depth_under_kw, depth_in1, depth_deeper, depth_caller]); (try dsimp only); first | exact lt_up (by assumption) (Nat.le_of_ble_eq_true rfl) | exact lt_up2 (by assumption) (Nat.le_of_ble_eq_true rfl) | exact lt_up3 (by assumption) (Nat.le_of_ble_eq_true rfl) | exact lt_up0 (by assumption) | omega)
      k_with "k_units" => ((try dsimp only [units_in1, units_deeper, Around.mark_units, units_caller]); (try dsimp only); first | exact lt_up (by assumption) (Nat.le_of_ble_eq_true rfl) | exact lt_up2 (by assumption) (Nat.le_of_ble_eq_true rfl) | exact lt_up3 (by assumption) (Nat.le_of_ble_eq_true rfl) | exact lt_up0 (by assumption) | omega)
      k_with "eval Call" => (k_here; k_dflt (refine Call_ ?_))
      k_with "k_all" => assumption
      k_with "size_fits" => (simp only [List.size_toArray, sizeLine_eq]; omega)
      k_with "call ref" => (k_here; (with_reducible show wpAny _ _ (call (Value.ref 237) _ _) _ _ _); k_dflt (with_unfolding_all refine worldNew (by k_dflt (k_asm)) (by k_dflt (k_asm)) (by k_dflt (k_asm)) (by k_dflt (k_asm)) (by k_dflt (k_asm)) (by k_dflt (first | exact rfl | assumption)) (by k_dflt (k_room)) (by k_dflt (k_units)) ?_; (intro W9 D9 es9 n9 tw9 h9 tk9 hw9 l9 l8 F9 N9); (k_lt l9); (k_lt l8); (try dsimp only); (try k_fold)))
      k_with "compareOp In int ref" => (k_here; (with_reducible show wpAny _ _ (compareOp CmpOp.In (Value.int _ _) (Value.ref _)) _ _ _); k_dflt (with_unfolding_all refine in_two (by k_dflt (k_asm)) (by k_dflt (k_mem)) (by k_dflt (k_units)) ?_; (try dsimp only)))
      (try k_fold)
      k_steps
      rename News _ _ _ _ => nN
      rename Fr _ _ _ _ => nF
      rw [hmm] at nF
      rename _ = Data.cell _ => nD
      exact done _ _ _ _ nD nF nN)

end
end

section
section
variable {pp9 : Program} {ll9 : List Str} {w : World} {mean : ExcName → Option Value} {mg mb : Str → Option Value} {dp un : Nat} {gd : Option (List Code)} {cn : Str} {a : Addr} {ccd : Value} {outer : List Env} {A₀ : Around} {base h₀ : Heap} {L : Addr} {m : Str → Option Value} {s : Shared} {E : Value → Shared → Prop} {Q : Flow → Shared → Prop}
  {W D : Addr} {es : List DictEntry} {n : Nat} {tw : Tok}

theorem init_ok {l cA : Addr} {oc0 : Obj} {v0 : Option Value} {vs : List Value} {ns : List Int}
    (B : Below A₀ base outer h₀) (X : (KK (World.params w)).In h₀) (T : Top pp9 ll9 mean mg mb h₀)
    (hdp : dp + 60 < recursionLimit) (hun : un + 400 < cLine)
    (hPE : PassesOwn (model (RowW.prog (OpenRow.toRowW (OpenLaw.row Challenge.rw_xm0948_01))) w) (ktrTop dp un gd cn lawScope L a ccd [(Str.ofString "whole", cA)] outer) (envX cn lawScope L a ccd [(Str.ofString "whole", cA)]) E)
    (F : Fr h₀ L s.heap m) (hs : m (Str.ofString "script") = some (.ref l)) (hl : h₀.IsList l vs.toArray) (hI : IntsAre vs ns) (hlen : ns.length ≤ 63) (N : News h₀ L s.heap [(cA, oc0)]) (hoc : oc0.data = .cell v0)
    (hret : ∀ h tk m', Fr h₀ L h m' → Q (.ret (.bool true)) { s with heap := h, toks := tk }) :
    wpAny (model (RowW.prog (OpenRow.toRowW (OpenLaw.row Challenge.rw_xm0948_01))) w) (ktrTop dp un gd cn lawScope L a ccd [(Str.ofString "whole", cA)] outer) (execs lawBody (envX cn lawScope L a ccd [(Str.ofString "whole", cA)])) Q E s := by
  have key : ∀ C0 c tc h tk m', 0 ≤ c → Fr h₀ L h m' → m' (Str.ofString "cells") = some (.ref C0) → News h₀ L h [(C0, listOf #[.int c tc] 0), (cA, oc0)] →
      wpAny (model (RowW.prog (OpenRow.toRowW (OpenLaw.row Challenge.rw_xm0948_01))) w) (ktrTop dp un gd cn lawScope L a ccd [(Str.ofString "whole", cA)] outer) (execs (lawBody.drop 2) (envX cn lawScope L a ccd [(Str.ofString "whole", cA)])) Q E { s with heap := h, toks := tk } := by
    intro C0 c tc h tk m' hc F2 hm2 N2
    refine wpAny_execs_cons (st2 (cA := cA) B X T hdp hun F2 hm2 N2 hc ?_)
    intro W D es n tw T0 tq h3 tk3 m3 hwid F3 a1 a2 a3 N3
    have c1 : 0 ≤ Int.fmod c 11 := Int.fmod_nonneg_of_pos _ (by omega)
    have c2 : Int.fmod c 11 < 11 := Int.fmod_lt_of_pos _ (by omega)
    refine wpAny_execs_cons (st3 (cA := cA) B X T hdp hun F3 a1 N3 ⟨by omega, by omega⟩ ?_)
    intro q tq' h4 tk4 hq9 F4 N4
    have b1 : 1 ≤ q ∧ q ≤ 11 := by
      simp only [List.mem_cons, List.not_mem_nil, or_false] at hq9
      omega
    have hns := notSeq_cell hoc
    have hcm : (cA, oc0) ∈ [(T0, listOf (List.toArray []) 0), (W, instObj 237 D), (D, dictOf es n), (C0, listOf #[.int c tc] 0), (cA, oc0)] := List.Mem.tail _ (List.Mem.tail _ (List.Mem.tail _ (List.Mem.tail _ (List.Mem.head _))))
    have N5 : News h₀ L h4 ((cA, oc0) :: [(T0, listOf (List.toArray []) 0), (W, instObj 237 D), (D, dictOf es n)]) := by
      intro p hp
      refine N4 p ?_
      simp only [List.mem_cons, List.not_mem_nil, or_false] at hp ⊢
      rcases hp with hp | hp | hp | hp
      · exact .inr (.inr (.inr (.inr hp)))
      · exact .inl hp
      · exact .inr (.inl hp)
      · exact .inr (.inr (.inl hp))
    have hoff : ∀ p ∈ [(T0, listOf (List.toArray []) 0), (W, instObj 237 D), (D, dictOf es n)], p.1 ≠ cA := by
      intro p hp
      refine news_neO N5 (List.Mem.tail _ hp) (List.Mem.head _) ?_
      intro e
      simp only [List.mem_cons, List.not_mem_nil, or_false] at hp
      rcases hp with rfl | rfl | rfl
      · exact hns.1 _ _ e.symm
      · have e' : _ = oc0 := e
        rw [← e'] at hoc; cases hoc
      · have e' : _ = oc0 := e
        rw [← e'] at hoc; cases hoc
    refine wpAny_execs_cons (st4 B X T hdp hun F4 (if_pos rfl) N5 hoc hoff b1 ?_)
    intro oc tv h5 tk5 hcd F5 N6
    have N7 : News h₀ L h5 [(T0, listOf (List.toArray []) 0), (W, instObj 237 D), (D, dictOf es n), (cA, oc)] := by
      intro p hp
      refine N6 p ?_
      simp only [List.mem_cons, List.not_mem_nil, or_false] at hp ⊢
      rcases hp with hp | hp | hp | hp
      · exact .inr (.inl hp)
      · exact .inr (.inr (.inl hp))
      · exact .inr (.inr (.inr hp))
      · exact .inl hp
    exact rest_ok (s := { s with heap := h5, toks := tk5 }) B X T hwid hdp hun hPE hq9 F5 ((if_neg (by decide)).trans a2) ((if_neg (by decide)).trans a3) (if_pos rfl) N7 hcd (notSeq_cell hcd) (fun h tk m' Fh => hret h tk m' Fh)
  refine wpAny_execs_cons (st0 (cA := cA) B X T hdp hun F N ?_)
  intro U0 tu h1 tk1 F1 N1
  match vs, ns, hI with
  | [], _, .nil =>
    refine wpAny_execs_cons (st1_nil (s := { s with heap := h1, toks := tk1 }) B X T hdp hun F1 ((if_neg (by decide)).trans hs) (if_pos rfl) hl .nil N1 ?_)
    intro C0 c tc h tk hc F2 N2
    exact key C0 c tc h tk _ hc F2 (if_pos rfl) N2
  | _ :: r, _, .cons n0 t0 hr =>
    refine wpAny_execs_cons (st1_cons (s := { s with heap := h1, toks := tk1 }) B X T hdp hun F1 ((if_neg (by decide)).trans hs) (if_pos rfl) hl (.cons n0 t0 hr) hlen N1 ?_)
    intro C0 c tc h tk hc F2 N2
    exact key C0 c tc h tk _ hc F2 (if_pos rfl) N2
end
end

theorem main : PySem.Challenge.rw_xm0948_01.Holds := by
  w_on
  o_law
  o_head (kHook KK [3, 92, 93, 113, 114, 127, 128, 134, 135, 169, 170, 176, 177, 190, 191, 211, 212, 218, 219, 227, 233, 234, 236, 237, 247, 248] (fun _ => by kernel_rfl))
  (case hw => w_witness2)
  w_strict (
    k_with_none
    k_go0
    with_unfolding_all refine' init_ok ?z9k1 ?z9k3 ?z9k5 ?z9kd ?z9ku ?z9kE ?z9k2 ?z9hs ?z9hl ?z9hI ?z9hn ?z9k4 ?z9hc ?_
    case z9k2 => k_asm
    case z9k1 => k_asm
    case z9k3 => k_asm
    case z9k5 => k_asm
    case z9hs => exact rfl
    case z9hl => assumption
    case z9hI => assumption
    case z9hn => omega
    case z9k4 => k_asm
    case z9hc => assumption
    case z9kd => decide
    case z9ku => exact Nat.le_of_ble_eq_true rfl
    case z9kE => passes_own
    intro h9 tk9 m9 F9
    (try dsimp only)
    k_steps)
end Mine

theorem PySem.Challenge.cw_xm0948_01_holds : PySem.Challenge.rw_xm0948_01.Holds := by
  exact Mine.main
