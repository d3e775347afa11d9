import PyProof.Rows.All
import Wide.All
import OpenK.AllK
import Wide.FinOn
import PySem.Challenge.RW_on0223_01
open PySem PySem.W PyProof.Rows
set_option Elab.async false
set_option rowWalk.seconds 0
set_option maxRecDepth 100000
set_option maxHeartbeats 8000000
namespace Mine
/-- what a def of the program says of itself -/
noncomputable def defParts : Option Stmt → Option (Arguments × List Stmt × Scope)
  | some (.FunctionDef _ p b _ _ _ s _ _ _) => some (p, b, s)
  | _ => none
/-- the part of the heap behind the top that the walk reads; the defs' own parts are found in the program by unification -/
noncomputable def K39 : Params → Frag := (fun (p53 : Arguments) (b53 : List Stmt) (s53 : Scope) (_ : defParts (PySem.Challenge.pw_on0223_01.main.body[4]?) = some (p53, b53, s53))
    (p60 : Arguments) (b60 : List Stmt) (s60 : Scope) (_ : defParts (PySem.Challenge.pw_on0223_01.main.body[6]?) = some (p60, b60, s60))
    (p67 : Arguments) (b67 : List Stmt) (s67 : Scope) (_ : defParts (PySem.Challenge.pw_on0223_01.main.body[7]?) = some (p67, b67, s67))
    (p74 : Arguments) (b74 : List Stmt) (s74 : Scope) (_ : defParts (PySem.Challenge.pw_on0223_01.main.body[8]?) = some (p74, b74, s74))
    (p81 : Arguments) (b81 : List Stmt) (s81 : Scope) (_ : defParts (PySem.Challenge.pw_on0223_01.main.body[9]?) = some (p81, b81, s81))
    (p88 : Arguments) (b88 : List Stmt) (s88 : Scope) (_ : defParts (PySem.Challenge.pw_on0223_01.main.body[10]?) = some (p88, b88, s88))
    (p95 : Arguments) (b95 : List Stmt) (s95 : Scope) (_ : defParts (PySem.Challenge.pw_on0223_01.main.body[11]?) = some (p95, b95, s95))
    (p102 : Arguments) (b102 : List Stmt) (s102 : Scope) (_ : defParts (PySem.Challenge.pw_on0223_01.main.body[12]?) = some (p102, b102, s102))
    (p109 : Arguments) (b109 : List Stmt) (s109 : Scope) (_ : defParts (PySem.Challenge.pw_on0223_01.main.body[13]?) = some (p109, b109, s109))
    (p116 : Arguments) (b116 : List Stmt) (s116 : Scope) (_ : defParts (PySem.Challenge.pw_on0223_01.main.body[14]?) = some (p116, b116, s116))
    (p123 : Arguments) (b123 : List Stmt) (s123 : Scope) (_ : defParts (PySem.Challenge.pw_on0223_01.main.body[16]?) = some (p123, b123, s123))
    (p130 : Arguments) (b130 : List Stmt) (s130 : Scope) (_ : defParts (PySem.Challenge.pw_on0223_01.main.body[17]?) = some (p130, b130, s130))
    (p137 : Arguments) (b137 : List Stmt) (s137 : Scope) (_ : defParts (PySem.Challenge.pw_on0223_01.main.body[18]?) = some (p137, b137, s137))
    (p142 : Arguments) (b142 : List Stmt) (s142 : Scope) (_ : defParts (PySem.Challenge.pw_on0223_01.main.body[19]?) = some (p142, b142, s142))
    (p147 : Arguments) (b147 : List Stmt) (s147 : Scope) (_ : defParts (PySem.Challenge.pw_on0223_01.main.body[20]?) = some (p147, b147, s147))
    (p154 : Arguments) (b154 : List Stmt) (s154 : Scope) (_ : defParts (PySem.Challenge.pw_on0223_01.main.body[21]?) = some (p154, b154, s154))
    (p161 : Arguments) (b161 : List Stmt) (s161 : Scope) (_ : defParts (PySem.Challenge.pw_on0223_01.main.body[22]?) = some (p161, b161, s161))
    (p166 : Arguments) (b166 : List Stmt) (s166 : Scope) (_ : defParts (PySem.Challenge.pw_on0223_01.main.body[23]?) = some (p166, b166, s166))
    (p173 : Arguments) (b173 : List Stmt) (s173 : Scope) (_ : defParts (PySem.Challenge.pw_on0223_01.main.body[24]?) = some (p173, b173, s173))
    (p180 : Arguments) (b180 : List Stmt) (s180 : Scope) (_ : defParts (PySem.Challenge.pw_on0223_01.main.body[25]?) = some (p180, b180, s180))
    (p185 : Arguments) (b185 : List Stmt) (s185 : Scope) (_ : defParts (PySem.Challenge.pw_on0223_01.main.body[26]?) = some (p185, b185, s185))
    => fun P =>
  (nat_lit 3, { cls := Value.type "dict", data := Data.dict #[{ hash := PyData.keyHash P (Str.ofString "__name__"), key := Value.str (Str.ofString "__name__") 165, val := Value.str (Str.ofString "law_on0223_01") 333 }, { hash := PyData.keyHash P (Str.ofString "__doc__"), key := Value.str (Str.ofString "__doc__") 166, val := Value.none }, { hash := PyData.keyHash P (Str.ofString "__package__"), key := Value.str (Str.ofString "__package__") 167, val := Value.none }, { hash := PyData.keyHash P (Str.ofString "__loader__"), key := Value.str (Str.ofString "__loader__") 168, val := Value.builtin "__main__.__loader__#opaque" }, { hash := PyData.keyHash P (Str.ofString "__spec__"), key := Value.str (Str.ofString "__spec__") 169, val := Value.none }, { hash := PyData.keyHash P (Str.ofString "__annotations__"), key := Value.str (Str.ofString "__annotations__") 170, val := Value.ref 6 }, { hash := PyData.keyHash P (Str.ofString "__builtins__"), key := Value.str (Str.ofString "__builtins__") 171, val := Value.ref 4 }, { hash := PyData.keyHash P (Str.ofString "__file__"), key := Value.str (Str.ofString "__file__") 173, val := Value.str (Str.ofString "/claim/cut.py") 172 }, { hash := PyData.keyHash P (Str.ofString "__cached__"), key := Value.str (Str.ofString "__cached__") 174, val := Value.none }, { hash := PyData.keyHash P (Str.ofString "MillError"), key := Value.str (Str.ofString "MillError") 217, val := Value.ref 31 }, { hash := PyData.keyHash P (Str.ofString "NumberFault"), key := Value.str (Str.ofString "NumberFault") 233, val := Value.ref 44 }, { hash := PyData.keyHash P (Str.ofString "root_floor"), key := Value.str (Str.ofString "root_floor") 244, val := Value.ref 53 }, { hash := PyData.keyHash P (Str.ofString "nearest_root_share"), key := Value.str (Str.ofString "nearest_root_share") 256, val := Value.ref 60 }, { hash := PyData.keyHash P (Str.ofString "nearest_share"), key := Value.str (Str.ofString "nearest_share") 265, val := Value.ref 67 }, { hash := PyData.keyHash P (Str.ofString "way_of"), key := Value.str (Str.ofString "way_of") 273, val := Value.ref 74 }, { hash := PyData.keyHash P (Str.ofString "moved_by"), key := Value.str (Str.ofString "moved_by") 281, val := Value.ref 81 }, { hash := PyData.keyHash P (Str.ofString "turned_about"), key := Value.str (Str.ofString "turned_about") 288, val := Value.ref 88 }, { hash := PyData.keyHash P (Str.ofString "normal_of"), key := Value.str (Str.ofString "normal_of") 300, val := Value.ref 95 }, { hash := PyData.keyHash P (Str.ofString "parallel"), key := Value.str (Str.ofString "parallel") 311, val := Value.ref 102 }, { hash := PyData.keyHash P (Str.ofString "area_twice_of"), key := Value.str (Str.ofString "area_twice_of") 322, val := Value.ref 109 }, { hash := PyData.keyHash P (Str.ofString "one_sense"), key := Value.str (Str.ofString "one_sense") 332, val := Value.ref 116 }, { hash := PyData.keyHash P (Str.ofString "_law_pool"), key := Value.str (Str.ofString "_law_pool") 345, val := Value.ref 123 }, { hash := PyData.keyHash P (Str.ofString "_law_take"), key := Value.str (Str.ofString "_law_take") 354, val := Value.ref 130 }, { hash := PyData.keyHash P (Str.ofString "_law_one"), key := Value.str (Str.ofString "_law_one") 362, val := Value.ref 137 }, { hash := PyData.keyHash P (Str.ofString "_law_normal"), key := Value.str (Str.ofString "_law_normal") 368, val := Value.ref 142 }, { hash := PyData.keyHash P (Str.ofString "_law_sensed"), key := Value.str (Str.ofString "_law_sensed") 374, val := Value.ref 147 }, { hash := PyData.keyHash P (Str.ofString "_law_share_right"), key := Value.str (Str.ofString "_law_share_right") 384, val := Value.ref 154 }, { hash := PyData.keyHash P (Str.ofString "_law_root_right"), key := Value.str (Str.ofString "_law_root_right") 395, val := Value.ref 161 }, { hash := PyData.keyHash P (Str.ofString "_law_parallel_right"), key := Value.str (Str.ofString "_law_parallel_right") 401, val := Value.ref 166 }, { hash := PyData.keyHash P (Str.ofString "_law_area"), key := Value.str (Str.ofString "_law_area") 412, val := Value.ref 173 }, { hash := PyData.keyHash P (Str.ofString "_law_spots_right"), key := Value.str (Str.ofString "_law_spots_right") 420, val := Value.ref 180 }, { hash := PyData.keyHash P (Str.ofString "law"), key := Value.str (Str.ofString "law") 426, val := Value.ref 185 }] 32 }) ::
  (nat_lit 52, { cls := Value.type "code", data := Data.fields #[Value.str (Str.ofString "root_floor") 236, Value.str (Str.ofString "root_floor") 237, Value.str (Str.ofString "/claim/cut.py") 238, Value.int 9 0, Value.int 1 0, Value.int 0 0, Value.int 0 0, Value.int 3 0, Value.ref 47, Value.bool true, Value.int 181 0, Value.ref 48, Value.none, Value.ref 49, Value.ref 50, Value.ref 51, Value.int 242 0, Value.int 9 0, Value.str (Str.ofString "/claim/cut.py") 243] }) ::
  (nat_lit 53, { cls := Value.type "function", data := Data.func { name := Str.ofString "root_floor", qualname := Str.ofString "root_floor", params := p53, body := FuncBody.stmts b53, scope := s53, globals := 3, closure := [], defaults := Value.none, kwdefaults := Value.none, pyModule := Value.str (Str.ofString "outlinemill.exact") 234, code := Value.ref 52 } }) ::
  (nat_lit 59, { cls := Value.type "code", data := Data.fields #[Value.str (Str.ofString "nearest_root_share") 247, Value.str (Str.ofString "nearest_root_share") 248, Value.str (Str.ofString "/claim/cut.py") 249, Value.int 23 0, Value.int 2 0, Value.int 0 0, Value.int 0 0, Value.int 3 0, Value.ref 54, Value.bool true, Value.int 181 0, Value.ref 55, Value.none, Value.ref 56, Value.ref 57, Value.ref 58, Value.int 254 0, Value.int 23 0, Value.str (Str.ofString "/claim/cut.py") 255] }) ::
  (nat_lit 60, { cls := Value.type "function", data := Data.func { name := Str.ofString "nearest_root_share", qualname := Str.ofString "nearest_root_share", params := p60, body := FuncBody.stmts b60, scope := s60, globals := 3, closure := [], defaults := Value.none, kwdefaults := Value.none, pyModule := Value.str (Str.ofString "outlinemill.offsets") 245, code := Value.ref 59 } }) ::
  (nat_lit 66, { cls := Value.type "code", data := Data.fields #[Value.str (Str.ofString "nearest_share") 257, Value.str (Str.ofString "nearest_share") 258, Value.str (Str.ofString "/claim/cut.py") 259, Value.int 27 0, Value.int 2 0, Value.int 0 0, Value.int 0 0, Value.int 3 0, Value.ref 61, Value.bool true, Value.int 181 0, Value.ref 62, Value.none, Value.ref 63, Value.ref 64, Value.ref 65, Value.int 263 0, Value.int 27 0, Value.str (Str.ofString "/claim/cut.py") 264] }) ::
  (nat_lit 67, { cls := Value.type "function", data := Data.func { name := Str.ofString "nearest_share", qualname := Str.ofString "nearest_share", params := p67, body := FuncBody.stmts b67, scope := s67, globals := 3, closure := [], defaults := Value.none, kwdefaults := Value.none, pyModule := Value.str (Str.ofString "outlinemill.offsets") 245, code := Value.ref 66 } }) ::
  (nat_lit 73, { cls := Value.type "code", data := Data.fields #[Value.str (Str.ofString "way_of") 266, Value.str (Str.ofString "way_of") 267, Value.str (Str.ofString "/claim/cut.py") 268, Value.int 30 0, Value.int 2 0, Value.int 0 0, Value.int 0 0, Value.int 3 0, Value.ref 68, Value.bool true, Value.int 181 0, Value.ref 69, Value.none, Value.ref 70, Value.ref 71, Value.ref 72, Value.int 271 0, Value.int 30 0, Value.str (Str.ofString "/claim/cut.py") 272] }) ::
  (nat_lit 74, { cls := Value.type "function", data := Data.func { name := Str.ofString "way_of", qualname := Str.ofString "way_of", params := p74, body := FuncBody.stmts b74, scope := s74, globals := 3, closure := [], defaults := Value.none, kwdefaults := Value.none, pyModule := Value.str (Str.ofString "outlinemill.offsets") 245, code := Value.ref 73 } }) ::
  (nat_lit 80, { cls := Value.type "code", data := Data.fields #[Value.str (Str.ofString "moved_by") 274, Value.str (Str.ofString "moved_by") 275, Value.str (Str.ofString "/claim/cut.py") 276, Value.int 32 0, Value.int 2 0, Value.int 0 0, Value.int 0 0, Value.int 3 0, Value.ref 75, Value.bool true, Value.int 181 0, Value.ref 76, Value.none, Value.ref 77, Value.ref 78, Value.ref 79, Value.int 279 0, Value.int 32 0, Value.str (Str.ofString "/claim/cut.py") 280] }) ::
  (nat_lit 81, { cls := Value.type "function", data := Data.func { name := Str.ofString "moved_by", qualname := Str.ofString "moved_by", params := p81, body := FuncBody.stmts b81, scope := s81, globals := 3, closure := [], defaults := Value.none, kwdefaults := Value.none, pyModule := Value.str (Str.ofString "outlinemill.offsets") 245, code := Value.ref 80 } }) ::
  (nat_lit 87, { cls := Value.type "code", data := Data.fields #[Value.str (Str.ofString "turned_about") 282, Value.str (Str.ofString "turned_about") 283, Value.str (Str.ofString "/claim/cut.py") 284, Value.int 34 0, Value.int 1 0, Value.int 0 0, Value.int 0 0, Value.int 3 0, Value.ref 82, Value.bool true, Value.int 181 0, Value.ref 83, Value.none, Value.ref 84, Value.ref 85, Value.ref 86, Value.int 286 0, Value.int 34 0, Value.str (Str.ofString "/claim/cut.py") 287] }) ::
  (nat_lit 88, { cls := Value.type "function", data := Data.func { name := Str.ofString "turned_about", qualname := Str.ofString "turned_about", params := p88, body := FuncBody.stmts b88, scope := s88, globals := 3, closure := [], defaults := Value.none, kwdefaults := Value.none, pyModule := Value.str (Str.ofString "outlinemill.offsets") 245, code := Value.ref 87 } }) ::
  (nat_lit 94, { cls := Value.type "code", data := Data.fields #[Value.str (Str.ofString "normal_of") 289, Value.str (Str.ofString "normal_of") 290, Value.str (Str.ofString "/claim/cut.py") 291, Value.int 36 0, Value.int 3 0, Value.int 0 0, Value.int 0 0, Value.int 3 0, Value.ref 89, Value.bool true, Value.int 181 0, Value.ref 90, Value.none, Value.ref 91, Value.ref 92, Value.ref 93, Value.int 298 0, Value.int 36 0, Value.str (Str.ofString "/claim/cut.py") 299] }) ::
  (nat_lit 95, { cls := Value.type "function", data := Data.func { name := Str.ofString "normal_of", qualname := Str.ofString "normal_of", params := p95, body := FuncBody.stmts b95, scope := s95, globals := 3, closure := [], defaults := Value.none, kwdefaults := Value.none, pyModule := Value.str (Str.ofString "outlinemill.offsets") 245, code := Value.ref 94 } }) ::
  (nat_lit 101, { cls := Value.type "code", data := Data.fields #[Value.str (Str.ofString "parallel") 301, Value.str (Str.ofString "parallel") 302, Value.str (Str.ofString "/claim/cut.py") 303, Value.int 40 0, Value.int 3 0, Value.int 0 0, Value.int 0 0, Value.int 3 0, Value.ref 96, Value.bool true, Value.int 181 0, Value.ref 97, Value.none, Value.ref 98, Value.ref 99, Value.ref 100, Value.int 309 0, Value.int 40 0, Value.str (Str.ofString "/claim/cut.py") 310] }) ::
  (nat_lit 102, { cls := Value.type "function", data := Data.func { name := Str.ofString "parallel", qualname := Str.ofString "parallel", params := p102, body := FuncBody.stmts b102, scope := s102, globals := 3, closure := [], defaults := Value.none, kwdefaults := Value.none, pyModule := Value.str (Str.ofString "outlinemill.offsets") 245, code := Value.ref 101 } }) ::
  (nat_lit 108, { cls := Value.type "code", data := Data.fields #[Value.str (Str.ofString "area_twice_of") 312, Value.str (Str.ofString "area_twice_of") 313, Value.str (Str.ofString "/claim/cut.py") 314, Value.int 44 0, Value.int 1 0, Value.int 0 0, Value.int 0 0, Value.int 3 0, Value.ref 103, Value.bool true, Value.int 181 0, Value.ref 104, Value.none, Value.ref 105, Value.ref 106, Value.ref 107, Value.int 320 0, Value.int 44 0, Value.str (Str.ofString "/claim/cut.py") 321] }) ::
  (nat_lit 109, { cls := Value.type "function", data := Data.func { name := Str.ofString "area_twice_of", qualname := Str.ofString "area_twice_of", params := p109, body := FuncBody.stmts b109, scope := s109, globals := 3, closure := [], defaults := Value.none, kwdefaults := Value.none, pyModule := Value.str (Str.ofString "outlinemill.offsets") 245, code := Value.ref 108 } }) ::
  (nat_lit 115, { cls := Value.type "code", data := Data.fields #[Value.str (Str.ofString "one_sense") 323, Value.str (Str.ofString "one_sense") 324, Value.str (Str.ofString "/claim/cut.py") 325, Value.int 50 0, Value.int 1 0, Value.int 0 0, Value.int 0 0, Value.int 3 0, Value.ref 110, Value.bool true, Value.int 181 0, Value.ref 111, Value.none, Value.ref 112, Value.ref 113, Value.ref 114, Value.int 330 0, Value.int 50 0, Value.str (Str.ofString "/claim/cut.py") 331] }) ::
  (nat_lit 116, { cls := Value.type "function", data := Data.func { name := Str.ofString "one_sense", qualname := Str.ofString "one_sense", params := p116, body := FuncBody.stmts b116, scope := s116, globals := 3, closure := [], defaults := Value.none, kwdefaults := Value.none, pyModule := Value.str (Str.ofString "outlinemill.offsets") 245, code := Value.ref 115 } }) ::
  (nat_lit 122, { cls := Value.type "code", data := Data.fields #[Value.str (Str.ofString "_law_pool") 335, Value.str (Str.ofString "_law_pool") 336, Value.str (Str.ofString "/claim/cut.py") 337, Value.int 62 0, Value.int 2 0, Value.int 0 0, Value.int 0 0, Value.int 3 0, Value.ref 117, Value.bool true, Value.int 181 0, Value.ref 118, Value.none, Value.ref 119, Value.ref 120, Value.ref 121, Value.int 343 0, Value.int 62 0, Value.str (Str.ofString "/claim/cut.py") 344] }) ::
  (nat_lit 123, { cls := Value.type "function", data := Data.func { name := Str.ofString "_law_pool", qualname := Str.ofString "_law_pool", params := p123, body := FuncBody.stmts b123, scope := s123, globals := 3, closure := [], defaults := Value.none, kwdefaults := Value.none, pyModule := Value.str (Str.ofString "law_on0223_01") 333, code := Value.ref 122 } }) ::
  (nat_lit 129, { cls := Value.type "code", data := Data.fields #[Value.str (Str.ofString "_law_take") 346, Value.str (Str.ofString "_law_take") 347, Value.str (Str.ofString "/claim/cut.py") 348, Value.int 67 0, Value.int 2 0, Value.int 0 0, Value.int 0 0, Value.int 3 0, Value.ref 124, Value.bool true, Value.int 181 0, Value.ref 125, Value.none, Value.ref 126, Value.ref 127, Value.ref 128, Value.int 352 0, Value.int 67 0, Value.str (Str.ofString "/claim/cut.py") 353] }) ::
  (nat_lit 130, { cls := Value.type "function", data := Data.func { name := Str.ofString "_law_take", qualname := Str.ofString "_law_take", params := p130, body := FuncBody.stmts b130, scope := s130, globals := 3, closure := [], defaults := Value.none, kwdefaults := Value.none, pyModule := Value.str (Str.ofString "law_on0223_01") 333, code := Value.ref 129 } }) ::
  (nat_lit 136, { cls := Value.type "code", data := Data.fields #[Value.str (Str.ofString "_law_one") 355, Value.str (Str.ofString "_law_one") 356, Value.str (Str.ofString "/claim/cut.py") 357, Value.int 74 0, Value.int 2 0, Value.int 0 0, Value.int 0 0, Value.int 3 0, Value.ref 131, Value.bool true, Value.int 181 0, Value.ref 132, Value.none, Value.ref 133, Value.ref 134, Value.ref 135, Value.int 360 0, Value.int 74 0, Value.str (Str.ofString "/claim/cut.py") 361] }) ::
  (nat_lit 137, { cls := Value.type "function", data := Data.func { name := Str.ofString "_law_one", qualname := Str.ofString "_law_one", params := p137, body := FuncBody.stmts b137, scope := s137, globals := 3, closure := [], defaults := Value.none, kwdefaults := Value.none, pyModule := Value.str (Str.ofString "law_on0223_01") 333, code := Value.ref 136 } }) ::
  (nat_lit 141, { cls := Value.type "code", data := Data.fields #[Value.str (Str.ofString "_law_normal") 363, Value.str (Str.ofString "_law_normal") 364, Value.str (Str.ofString "/claim/cut.py") 365, Value.int 76 0, Value.int 3 0, Value.int 0 0, Value.int 0 0, Value.int 3 0, Value.ref 138, Value.bool true, Value.int 181 0, Value.ref 139, Value.none, Value.none, Value.none, Value.ref 140, Value.int 366 0, Value.int 76 0, Value.str (Str.ofString "/claim/cut.py") 367] }) ::
  (nat_lit 142, { cls := Value.type "function", data := Data.func { name := Str.ofString "_law_normal", qualname := Str.ofString "_law_normal", params := p142, body := FuncBody.stmts b142, scope := s142, globals := 3, closure := [], defaults := Value.none, kwdefaults := Value.none, pyModule := Value.str (Str.ofString "law_on0223_01") 333, code := Value.ref 141 } }) ::
  (nat_lit 146, { cls := Value.type "code", data := Data.fields #[Value.str (Str.ofString "_law_sensed") 369, Value.str (Str.ofString "_law_sensed") 370, Value.str (Str.ofString "/claim/cut.py") 371, Value.int 83 0, Value.int 1 0, Value.int 0 0, Value.int 0 0, Value.int 3 0, Value.ref 143, Value.bool true, Value.int 181 0, Value.ref 144, Value.none, Value.none, Value.none, Value.ref 145, Value.int 372 0, Value.int 83 0, Value.str (Str.ofString "/claim/cut.py") 373] }) ::
  (nat_lit 147, { cls := Value.type "function", data := Data.func { name := Str.ofString "_law_sensed", qualname := Str.ofString "_law_sensed", params := p147, body := FuncBody.stmts b147, scope := s147, globals := 3, closure := [], defaults := Value.none, kwdefaults := Value.none, pyModule := Value.str (Str.ofString "law_on0223_01") 333, code := Value.ref 146 } }) ::
  (nat_lit 153, { cls := Value.type "code", data := Data.fields #[Value.str (Str.ofString "_law_share_right") 375, Value.str (Str.ofString "_law_share_right") 376, Value.str (Str.ofString "/claim/cut.py") 377, Value.int 92 0, Value.int 2 0, Value.int 0 0, Value.int 0 0, Value.int 3 0, Value.ref 148, Value.bool true, Value.int 181 0, Value.ref 149, Value.none, Value.ref 150, Value.ref 151, Value.ref 152, Value.int 382 0, Value.int 92 0, Value.str (Str.ofString "/claim/cut.py") 383] }) ::
  (nat_lit 154, { cls := Value.type "function", data := Data.func { name := Str.ofString "_law_share_right", qualname := Str.ofString "_law_share_right", params := p154, body := FuncBody.stmts b154, scope := s154, globals := 3, closure := [], defaults := Value.none, kwdefaults := Value.none, pyModule := Value.str (Str.ofString "law_on0223_01") 333, code := Value.ref 153 } }) ::
  (nat_lit 160, { cls := Value.type "code", data := Data.fields #[Value.str (Str.ofString "_law_root_right") 385, Value.str (Str.ofString "_law_root_right") 386, Value.str (Str.ofString "/claim/cut.py") 387, Value.int 98 0, Value.int 2 0, Value.int 0 0, Value.int 0 0, Value.int 3 0, Value.ref 155, Value.bool true, Value.int 181 0, Value.ref 156, Value.none, Value.ref 157, Value.ref 158, Value.ref 159, Value.int 393 0, Value.int 98 0, Value.str (Str.ofString "/claim/cut.py") 394] }) ::
  (nat_lit 161, { cls := Value.type "function", data := Data.func { name := Str.ofString "_law_root_right", qualname := Str.ofString "_law_root_right", params := p161, body := FuncBody.stmts b161, scope := s161, globals := 3, closure := [], defaults := Value.none, kwdefaults := Value.none, pyModule := Value.str (Str.ofString "law_on0223_01") 333, code := Value.ref 160 } }) ::
  (nat_lit 165, { cls := Value.type "code", data := Data.fields #[Value.str (Str.ofString "_law_parallel_right") 396, Value.str (Str.ofString "_law_parallel_right") 397, Value.str (Str.ofString "/claim/cut.py") 398, Value.int 104 0, Value.int 3 0, Value.int 0 0, Value.int 0 0, Value.int 3 0, Value.ref 162, Value.bool true, Value.int 181 0, Value.ref 163, Value.none, Value.none, Value.none, Value.ref 164, Value.int 399 0, Value.int 104 0, Value.str (Str.ofString "/claim/cut.py") 400] }) ::
  (nat_lit 166, { cls := Value.type "function", data := Data.func { name := Str.ofString "_law_parallel_right", qualname := Str.ofString "_law_parallel_right", params := p166, body := FuncBody.stmts b166, scope := s166, globals := 3, closure := [], defaults := Value.none, kwdefaults := Value.none, pyModule := Value.str (Str.ofString "law_on0223_01") 333, code := Value.ref 165 } }) ::
  (nat_lit 172, { cls := Value.type "code", data := Data.fields #[Value.str (Str.ofString "_law_area") 402, Value.str (Str.ofString "_law_area") 403, Value.str (Str.ofString "/claim/cut.py") 404, Value.int 110 0, Value.int 1 0, Value.int 0 0, Value.int 0 0, Value.int 3 0, Value.ref 167, Value.bool true, Value.int 181 0, Value.ref 168, Value.none, Value.ref 169, Value.ref 170, Value.ref 171, Value.int 410 0, Value.int 110 0, Value.str (Str.ofString "/claim/cut.py") 411] }) ::
  (nat_lit 173, { cls := Value.type "function", data := Data.func { name := Str.ofString "_law_area", qualname := Str.ofString "_law_area", params := p173, body := FuncBody.stmts b173, scope := s173, globals := 3, closure := [], defaults := Value.none, kwdefaults := Value.none, pyModule := Value.str (Str.ofString "law_on0223_01") 333, code := Value.ref 172 } }) ::
  (nat_lit 179, { cls := Value.type "code", data := Data.fields #[Value.str (Str.ofString "_law_spots_right") 413, Value.str (Str.ofString "_law_spots_right") 414, Value.str (Str.ofString "/claim/cut.py") 415, Value.int 116 0, Value.int 1 0, Value.int 0 0, Value.int 0 0, Value.int 3 0, Value.ref 174, Value.bool true, Value.int 181 0, Value.ref 175, Value.none, Value.ref 176, Value.ref 177, Value.ref 178, Value.int 418 0, Value.int 116 0, Value.str (Str.ofString "/claim/cut.py") 419] }) ::
  (nat_lit 180, { cls := Value.type "function", data := Data.func { name := Str.ofString "_law_spots_right", qualname := Str.ofString "_law_spots_right", params := p180, body := FuncBody.stmts b180, scope := s180, globals := 3, closure := [], defaults := Value.none, kwdefaults := Value.none, pyModule := Value.str (Str.ofString "law_on0223_01") 333, code := Value.ref 179 } }) ::
  (nat_lit 184, { cls := Value.type "code", data := Data.fields #[Value.str (Str.ofString "law") 421, Value.str (Str.ofString "law") 422, Value.str (Str.ofString "/claim/cut.py") 423, Value.int 121 0, Value.int 1 0, Value.int 0 0, Value.int 0 0, Value.int 3 0, Value.ref 181, Value.bool true, Value.int 181 0, Value.ref 182, Value.none, Value.none, Value.none, Value.ref 183, Value.int 424 0, Value.int 121 0, Value.str (Str.ofString "/claim/cut.py") 425] }) ::
  (nat_lit 185, { cls := Value.type "function", data := Data.func { name := Str.ofString "law", qualname := Str.ofString "law", params := p185, body := FuncBody.stmts b185, scope := s185, globals := 3, closure := [], defaults := Value.none, kwdefaults := Value.none, pyModule := Value.str (Str.ofString "law_on0223_01") 333, code := Value.ref 184 } }) :: [])
  _ _ _ rfl _ _ _ rfl _ _ _ rfl _ _ _ rfl _ _ _ rfl _ _ _ rfl _ _ _ rfl _ _ _ rfl _ _ _ rfl _ _ _ rfl _ _ _ rfl _ _ _ rfl _ _ _ rfl _ _ _ rfl _ _ _ rfl _ _ _ rfl _ _ _ rfl _ _ _ rfl _ _ _ rfl _ _ _ rfl _ _ _ rfl
noncomputable def as39 : List Nat := [nat_lit 3, nat_lit 52, nat_lit 53, nat_lit 59, nat_lit 60, nat_lit 66, nat_lit 67, nat_lit 73, nat_lit 74, nat_lit 80, nat_lit 81, nat_lit 87, nat_lit 88, nat_lit 94, nat_lit 95, nat_lit 101, nat_lit 102, nat_lit 108, nat_lit 109, nat_lit 115, nat_lit 116, nat_lit 122, nat_lit 123, nat_lit 129, nat_lit 130, nat_lit 136, nat_lit 137, nat_lit 141, nat_lit 142, nat_lit 146, nat_lit 147, nat_lit 153, nat_lit 154, nat_lit 160, nat_lit 161, nat_lit 165, nat_lit 166, nat_lit 172, nat_lit 173, nat_lit 179, nat_lit 180, nat_lit 184, nat_lit 185]
noncomputable def V39 : Program := view PySem.Challenge.rw_on0223_01.row.prog [1, 2, 4, 6, 7, 8, 9, 10, 11, 12, 13, 14, 16, 17, 18, 19, 20, 21, 22, 23, 24, 25, 26]
theorem as_39 (P : Params) : as39 = (K39 P).map (·.1) := by unfold as39; kernel_rfl
noncomputable abbrev H39 : Hook := kHook K39 as39 as_39
theorem left39 : LeftO PySem.Challenge.rw_on0223_01.row.prog V39 [] (fun s => xlAt V39 [] s && recOk (RowW.records PySem.Challenge.rw_on0223_01.row.toRowW) s) (Hook.obs H39) (Hook.val H39) 2362 := by
  intro w
  unfold openEnds fencedOpening topFrom
  try rw [PySem.W.Fast.te10274390034422433532]
  try rw [PySem.W.Fast.te14289696077712309145]
  try rw [PySem.W.Fast.te14082659384304107361]
  try rw [PySem.W.Fast.te1435165496053646825]
  try rw [PySem.W.Fast.te4187177175401517315]
  try rw [PySem.W.Fast.te5923862056798008813]
  try rw [PySem.W.Fast.te14364793385576792824]
  kernel_rfl!
theorem said39 : PySem.Challenge.rw_on0223_01.wellSaid = true := by
  unfold OpenLaw.wellSaid OpenRow.wellSaid OpenRow.partSaid looksOpen
  try rw [PySem.W.Fast.te17119622794617984870]
  try rw [PySem.W.Fast.te8326940854005059898]
  try rw [PySem.W.Fast.te17868728402115742887]
  try rw [PySem.W.Fast.named_eq]
  try rw [PySem.W.Fast.te11788848310118352699]
  try rw [PySem.W.Fast.te8377067652309620493]
  try rw [PySem.W.Fast.te14412699480532031325]
  try rw [PySem.W.Fast.te5923862056798008813]
  try rw [PySem.W.Fast.te17691160309236699985]
  try rw [PySem.W.Fast.te13343964577679436407]
  try rw [PySem.W.Fast.te4857012375875476094]
  try rw [PySem.W.Fast.te12749700546528644094]
  try rw [PySem.W.Fast.te8179353310426384613]
  try rw [PySem.W.Fast.te9558739934217749035]
  try rw [PySem.W.Fast.te16286561074155671207]
  try rw [PySem.W.Fast.te6984425678791042302]
  try rw [PySem.W.Fast.te12879404354523853263]
  try rw [PySem.W.Fast.te482687673346738481]
  try rw [PySem.W.Fast.sDec_eq]
  try rw [PySem.W.Fast.te18344453789297297638]
  try rw [PySem.W.Fast.te2357444279172408678]
  try rw [PySem.W.Fast.te9807087744658564304]
  try rw [PySem.W.Fast.te12862048085361865435]
  decide +kernel

/-- a contract of a call: whatever stands around it -/
def Spec (w : World) (p : Program) (loose : List Str) (mean : ExcName → Option Value) (mg mb : Str → Option Value) (f : Addr) (need : Nat) (vs : List Value)
    (news : List (Addr × Obj)) (Post : Value → List (Addr × Obj) → Prop) : Prop :=
  ∀ (dp un : Nat) (gd : Option (List Code)) (cn : Str) (cs : Scope) (a : Addr) (ccd : Value) (cl : List (Str × Addr)) (outer : List Env) (A₀ : Around) (base h₀ : Heap) (L : Addr) (m : Str → Option Value) (s : Shared)
    (Q E : Value → Shared → Prop),
    Below A₀ base outer h₀ → Fr h₀ L s.heap m → (K39 w.params).In h₀ → News h₀ L s.heap news → Top p loose mean mg mb h₀ → cs.kind = .function → dp + need < recursionLimit → un + 8 * need < cLine →
    (∀ r nx h' tk', Post r nx → Fr h₀ L h' m → News h₀ L h' nx → Q r { s with heap := h', toks := tk' }) →
    wpAny (model PySem.Challenge.rw_on0223_01.row.prog w) (ktrTop dp un gd cn cs L a ccd cl outer) (call (.ref f) vs) Q E s

theorem Spec.use {w : World} {p : Program} {loose : List Str} {mean : ExcName → Option Value} {mg mb : Str → Option Value} {f : Addr} {need : Nat} {vs : List Value} {news : List (Addr × Obj)} {Post : Value → List (Addr × Obj) → Prop}
    {dp un : Nat} {gd : Option (List Code)} {cn : Str} {cs : Scope} {a : Addr} {ccd : Value} {cl : List (Str × Addr)} {outer : List Env} {A₀ : Around} {base h₀ : Heap} {L : Addr} {m : Str → Option Value} {s : Shared} {Q E : Value → Shared → Prop}
    (S : Spec w p loose mean mg mb f need vs news Post) (B : Below A₀ base outer h₀) (F : Fr h₀ L s.heap m) (X : (K39 w.params).In h₀) (N : News h₀ L s.heap news) (T : Top p loose mean mg mb h₀) (hk : cs.kind = .function)
    (hd : dp + need < recursionLimit) (hu : un + 8 * need < cLine) (ret : ∀ r nx h' tk', Post r nx → Fr h₀ L h' m → News h₀ L h' nx → Q r { s with heap := h', toks := tk' }) :
    wpAny (model PySem.Challenge.rw_on0223_01.row.prog w) (ktrTop dp un gd cn cs L a ccd cl outer) (call (.ref f) vs) Q E s :=
  S dp un gd cn cs a ccd cl outer A₀ base h₀ L m s Q E B F X N T hk hd hu ret
theorem noPy_of_lt {x y : Int} (h1 : -(2 ^ 200) < y) (h2 : y < 2 ^ 200) : Builtin.divisionGoesByPylong x y = false := by
  refine PyProof.noPylong_of_log2 ?_
  by_cases h0 : y.natAbs = 0
  · rw [h0]; decide
  · have : y.natAbs.log2 < 200 := (Nat.log2_lt h0).mpr (by omega)
    omega
theorem abs_nat {prog : Program} {w : World} {A : Around} {E : Value → Shared → Prop} {s : Shared} {a : Int} {t : Tok} {Q : Value → Shared → Prop} (h : ∀ u tk, Q (.int (a.natAbs : Int) u) { s with toks := tk }) :
    wpAny (model prog w) A (call (.builtin "abs") [.int a t]) Q E s := by
  refine call_abs_int fun u tk => ?_
  have e : (if a < 0 then -a else a) = (a.natAbs : Int) := by split <;> omega
  rw [e]
  exact h u tk
def shareOf (top bottom : Int) : Int := if top < 0 then -(Int.fdiv (2 * top.natAbs + bottom) (2 * bottom)) else Int.fdiv (2 * top.natAbs + bottom) (2 * bottom)
theorem Spec.useI {w : World} {p : Program} {loose : List Str} {mean : ExcName → Option Value} {mg mb : Str → Option Value} {f : Addr} {need : Nat} {vs : List Value} {news : List (Addr × Obj)}
    {dp un : Nat} {gd : Option (List Code)} {cn : Str} {cs : Scope} {a : Addr} {ccd : Value} {cl : List (Str × Addr)} {outer : List Env} {A₀ : Around} {base h₀ : Heap} {L : Addr} {m : Str → Option Value} {s : Shared} {Q E : Value → Shared → Prop} {v : Int}
    (B : Below A₀ base outer h₀) (F : Fr h₀ L s.heap m) (X : (K39 w.params).In h₀) (N : News h₀ L s.heap news) (T : Top p loose mean mg mb h₀) (hk : cs.kind = .function)
    (hd : dp + need < recursionLimit) (hu : un + 8 * need < cLine) (S : Spec w p loose mean mg mb f need vs news (fun r nx => (∃ t, r = .int v t) ∧ nx = news))
    (ret : ∀ t h' tk', Fr h₀ L h' m → News h₀ L h' news → Q (.int v t) { s with heap := h', toks := tk' }) :
    wpAny (model PySem.Challenge.rw_on0223_01.row.prog w) (ktrTop dp un gd cn cs L a ccd cl outer) (call (.ref f) vs) Q E s :=
  Spec.use S B F X N T hk hd hu fun _ _ h' tk' hp F' N' => by obtain ⟨⟨t, rfl⟩, rfl⟩ := hp; exact ret t h' tk' F' N'
theorem Spec.useB {w : World} {p : Program} {loose : List Str} {mean : ExcName → Option Value} {mg mb : Str → Option Value} {f : Addr} {need : Nat} {vs : List Value} {news : List (Addr × Obj)}
    {dp un : Nat} {gd : Option (List Code)} {cn : Str} {cs : Scope} {a : Addr} {ccd : Value} {cl : List (Str × Addr)} {outer : List Env} {A₀ : Around} {base h₀ : Heap} {L : Addr} {m : Str → Option Value} {s : Shared} {Q E : Value → Shared → Prop} {v : Bool}
    (B : Below A₀ base outer h₀) (F : Fr h₀ L s.heap m) (X : (K39 w.params).In h₀) (N : News h₀ L s.heap news) (T : Top p loose mean mg mb h₀) (hk : cs.kind = .function)
    (hd : dp + need < recursionLimit) (hu : un + 8 * need < cLine) (S : Spec w p loose mean mg mb f need vs news (fun r nx => r = .bool v ∧ nx = news))
    (ret : ∀ h' tk', Fr h₀ L h' m → News h₀ L h' news → Q (.bool v) { s with heap := h', toks := tk' }) :
    wpAny (model PySem.Challenge.rw_on0223_01.row.prog w) (ktrTop dp un gd cn cs L a ccd cl outer) (call (.ref f) vs) Q E s :=
  Spec.use S B F X N T hk hd hu fun _ _ h' tk' hp F' N' => by obtain ⟨rfl, rfl⟩ := hp; exact ret h' tk' F' N'
/-- a row of facts is opened with its goal written once -/
theorem ex1 {α0 : Sort _} {P : α0 → Prop} {G : Prop} (h : ∃ (a : α0), P a) (k : ∀ (a : α0), P a → G) : G := let ⟨a, h⟩ := h; k a h
theorem ex2 {α0 : Sort _} {α1 : Sort _} {P : α0 → α1 → Prop} {G : Prop} (h : ∃ (a : α0) (b : α1), P a b) (k : ∀ (a : α0) (b : α1), P a b → G) : G := let ⟨a, b, h⟩ := h; k a b h
theorem ex3 {α0 : Sort _} {α1 : Sort _} {α2 : Sort _} {P : α0 → α1 → α2 → Prop} {G : Prop} (h : ∃ (a : α0) (b : α1) (c : α2), P a b c) (k : ∀ (a : α0) (b : α1) (c : α2), P a b c → G) : G := let ⟨a, b, c, h⟩ := h; k a b c h
theorem ex4 {α0 : Sort _} {α1 : Sort _} {α2 : Sort _} {α3 : Sort _} {P : α0 → α1 → α2 → α3 → Prop} {G : Prop} (h : ∃ (a : α0) (b : α1) (c : α2) (d : α3), P a b c d) (k : ∀ (a : α0) (b : α1) (c : α2) (d : α3), P a b c d → G) : G := let ⟨a, b, c, d, h⟩ := h; k a b c d h
theorem and2 {A B G : Prop} (h : A ∧ B) (k : A → B → G) : G := k h.1 h.2
theorem and3 {A B C G : Prop} (h : A ∧ B ∧ C) (k : A → B → C → G) : G := k h.1 h.2.1 h.2.2
theorem and4 {A B C D G : Prop} (h : A ∧ B ∧ C ∧ D) (k : A → B → C → D → G) : G := k h.1 h.2.1 h.2.2.1 h.2.2.2
theorem and5 {A B C D E G : Prop} (h : A ∧ B ∧ C ∧ D ∧ E) (k : A → B → C → D → E → G) : G := k h.1 h.2.1 h.2.2.1 h.2.2.2.1 h.2.2.2.2
theorem and6 {A B C D E F G : Prop} (h : A ∧ B ∧ C ∧ D ∧ E ∧ F) (k : A → B → C → D → E → F → G) : G := k h.1 h.2.1 h.2.2.1 h.2.2.2.1 h.2.2.2.2.1 h.2.2.2.2.2
theorem and7 {A B C D E F H G : Prop} (h : A ∧ B ∧ C ∧ D ∧ E ∧ F ∧ H) (k : A → B → C → D → E → F → H → G) : G := k h.1 h.2.1 h.2.2.1 h.2.2.2.1 h.2.2.2.2.1 h.2.2.2.2.2.1 h.2.2.2.2.2.2
def rtN : Nat → Nat
  | 0 => 0
  | n + 1 => if (rtN n + 1) * (rtN n + 1) ≤ n + 1 then rtN n + 1 else rtN n
theorem rtN_spec (n : Nat) : rtN n * rtN n ≤ n ∧ n < (rtN n + 1) * (rtN n + 1) := by
  induction n with
  | zero => decide
  | succ n ih =>
    unfold rtN
    split
    · rename_i h
      refine ⟨h, ?_⟩
      have e : (rtN n + 1 + 1) * (rtN n + 1 + 1) = (rtN n + 1) * (rtN n + 1) + 2 * (rtN n + 1) + 1 := by
        generalize rtN n + 1 = k
        simp only [Nat.add_mul, Nat.mul_add]; omega
      omega
    · omega
def rt (n : Int) : Int := (rtN n.toNat : Nat)
theorem rt_spec {n : Int} (h : 0 ≤ n) : 0 ≤ rt n ∧ rt n * rt n ≤ n ∧ n < (rt n + 1) * (rt n + 1) := by
  obtain ⟨a, b⟩ := rtN_spec n.toNat
  have e : n = (n.toNat : Int) := by omega
  refine ⟨Int.natCast_nonneg _, ?_, ?_⟩
  · rw [e]; unfold rt; rw [Int.toNat_natCast]; exact_mod_cast a
  · rw [e]; unfold rt; rw [Int.toNat_natCast]; exact_mod_cast b
theorem rt_unique {n r : Int} (h0 : 0 ≤ r) (h1 : r * r ≤ n) (h2 : n < (r + 1) * (r + 1)) : r = rt n := by
  have hn : 0 ≤ n := Int.le_trans (Int.mul_nonneg h0 h0) h1
  obtain ⟨a, b, c⟩ := rt_spec hn
  by_cases hlt : r < rt n
  · have : (r + 1) * (r + 1) ≤ rt n * rt n := Int.mul_le_mul (by omega) (by omega) (by omega) (by omega)
    omega
  · by_cases hgt : rt n < r
    · have : (rt n + 1) * (rt n + 1) ≤ r * r := Int.mul_le_mul (by omega) (by omega) (by omega) (by omega)
      omega
    · omega
theorem lt_of_sq {a b n : Int} (h : a * a ≤ n) (hb : 0 ≤ b) (h2 : n < b * b) : a < b := by
  by_cases q : a < b
  · exact q
  · have : b * b ≤ a * a := Int.mul_le_mul (by omega) (by omega) (by omega) (by omega)
    omega
theorem rf1_turn {n found : Int} (h : found * found ≤ n) (h0 : 1 ≤ n) (h1 : n < 2 ^ 100) (h2 : 1 ≤ found) : 1 ≤ n ∧ n < 2 ^ 100 ∧ 1 ≤ found * 2 ∧ found * 2 < 2 ^ 51 := by
  have := lt_of_sq (b := 2 ^ 50) h (by omega) (by omega)
  omega
theorem rf1_meas {n found : Int} (h : found * found ≤ n) (h2 : 1 ≤ found) : (2 * n + 1 - found * 2).toNat < (2 * n + 1 - found).toNat := by
  have : found * 1 ≤ found * found := Int.mul_le_mul_of_nonneg_left h2 (by omega)
  omega
/-- Newton's step from above stays above -/
theorem newton {n r f : Int} (hf : 1 ≤ f) (_hr : 0 ≤ r) (h : r * r ≤ n) : r ≤ Int.fdiv (f + Int.fdiv n f) 2 := by
  rw [Int.fdiv_eq_ediv_of_nonneg _ (by omega), Int.fdiv_eq_ediv_of_nonneg _ (by omega)]
  have h1 : 0 ≤ (f - r) * (f - r) := by
    by_cases q : 0 ≤ f - r
    · exact Int.mul_nonneg q q
    · have := Int.mul_nonneg (a := r - f) (b := r - f) (by omega) (by omega)
      have e : (f - r) * (f - r) = (r - f) * (r - f) := by
        rw [show f - r = -(r - f) by omega, Int.neg_mul_neg]
      omega
  have e : (f - r) * (f - r) = r * r - (2 * r - f) * f := by
    simp only [Int.sub_mul, Int.mul_sub, Int.two_mul, Int.add_mul]
    rw [Int.mul_comm r f]; omega
  have h2 : (2 * r - f) * f ≤ n := by omega
  have h3 : 2 * r - f ≤ n / f := (Int.le_ediv_iff_mul_le (by omega)).mpr h2
  omega
theorem rf_end {n f l : Int} (hn : 0 ≤ n) (hl : l = Int.fdiv (f + Int.fdiv n f) 2) (h : ¬ l < f) (hf : 1 ≤ f) (hr : rt n ≤ f) : f = rt n := by
  subst hl
  rw [Int.fdiv_eq_ediv_of_nonneg _ (by omega), Int.fdiv_eq_ediv_of_nonneg _ (by omega)] at h
  obtain ⟨a, b, c⟩ := rt_spec hn
  have h1 : f ≤ n / f := by omega
  have h2 : f * f ≤ n := (Int.le_ediv_iff_mul_le (by omega)).mp h1
  have := lt_of_sq (b := rt n + 1) h2 (by omega) c
  omega
theorem rt_pos {n : Int} (h0 : 1 ≤ n) : 1 ≤ rt n := by
  obtain ⟨a, b, c⟩ := rt_spec (n := n) (by omega)
  by_cases q : rt n = 0
  · rw [q] at c; omega
  · omega
theorem rf2_start {n f : Int} (h0 : 1 ≤ n) (h : ¬ f * f ≤ n) (hf : 1 ≤ f) (hb : f < 2 ^ 51) (h1 : n < 2 ^ 100) : 1 ≤ n ∧ n < 2 ^ 100 ∧ 1 ≤ f ∧ f < 2 ^ 51 ∧ rt n ≤ f ∧ 1 ≤ Int.fdiv (f + Int.fdiv n f) 2 ∧ Int.fdiv (f + Int.fdiv n f) 2 = Int.fdiv (f + Int.fdiv n f) 2 := by
  obtain ⟨a, b, c⟩ := rt_spec (n := n) (by omega)
  have := lt_of_sq (a := rt n) (b := f) b (by omega) (by omega)
  have := newton hf a b
  have := rt_pos h0
  exact ⟨h0, h1, hf, hb, by omega, by omega, rfl⟩
theorem rf2_turn {n f l : Int} (hl : l = Int.fdiv (f + Int.fdiv n f) 2) (h0 : 1 ≤ n) (h1 : n < 2 ^ 100) (hf : 1 ≤ f) (hb : f < 2 ^ 51) (_hr : rt n ≤ f) (hl1 : 1 ≤ l) (h : l < f) :
    1 ≤ n ∧ n < 2 ^ 100 ∧ 1 ≤ l ∧ l < 2 ^ 51 ∧ rt n ≤ l ∧ 1 ≤ Int.fdiv (l + Int.fdiv n l) 2 ∧ Int.fdiv (l + Int.fdiv n l) 2 = Int.fdiv (l + Int.fdiv n l) 2 := by
  obtain ⟨a, b, c⟩ := rt_spec (n := n) (by omega)
  have := newton hf a b
  have h2 := newton (f := l) hl1 a b
  have := rt_pos h0
  refine ⟨h0, h1, by omega, by omega, by omega, by omega, rfl⟩

set_option hygiene false in
local macro_rules | `(tactic| walk_at "zz u") => `(tactic| ((case k1 => k_asm); (case k2 => k_asm); (case k3 => k_asm); (try case k4 => k_asm); (case k5 => k_asm); (case k6 => first | assumption | exact rfl); (case k7 => ktr_room); (case k8 => ktr_units)))
local macro_rules | `(tactic| walk_at "zz c") => `(tactic| first | (with_reducible assumption) | omega)
set_option hygiene false in
local macro_rules | `(tactic| walk_at "zz s") => `(tactic| ((case s1 => walk_at "zz c"); (try case s2 => walk_at "zz c"); (try case s3 => walk_at "zz c"); (try case s4 => walk_at "zz c"); (try case s5 => walk_at "zz c"); (try case s6 => walk_at "zz c"); (try case s7 => walk_at "zz c")))
local macro_rules | `(tactic| walk_at "zz k") => `(tactic| ((repeat (with_reducible rename (And _ _) => hx9; clear hx9)); (repeat (with_reducible rename (@Ne Nat _ _) => hx9; clear hx9))))
local macro_rules | `(tactic| walk_at "binaryOp FloorDiv int int") => `(tactic| ((with_reducible refine floordiv_int ?kbe ?_ (Or.inl (noPy_of_lt ?kb1 ?kb2))); (case kbe => (walk_at "zz k"; omega)); (case kb1 => (walk_at "zz k"; omega)); (case kb2 => (walk_at "zz k"; omega))))
local macro_rules | `(tactic| walk_at "binaryOp Mult int int") => `(tactic| ((with_reducible refine mul_int ?_ ?hm); (case hm => first | exact PySem.IntMulOk.of_right (by decide) | exact PySem.IntMulOk.of_left (by decide) | (walk_at "zz k"; first | exact PySem.IntMulOk.of_right (PySem.intBits_le_64 (by omega) (by omega)) | exact PySem.IntMulOk.of_left (PySem.intBits_le_64 (by omega) (by omega))))))
local macro_rules | `(tactic| walk_at "exec While Compare cons nil") => `(tactic| first
  | k_while_given ["n"] (fun n _ found lower => 1 ≤ n ∧ n < 2 ^ 100 ∧ 1 ≤ found ∧ found < 2 ^ 51 ∧ rt n ≤ found ∧ 1 ≤ lower ∧ lower = Int.fdiv (found + Int.fdiv n found) 2) (fun _ _ found _ => found.toNat) "found" "lower"
  | k_while_given ["n"] (fun n _ found => 1 ≤ n ∧ n < 2 ^ 100 ∧ 1 ≤ found ∧ found < 2 ^ 51) (fun n _ found => (2 * n + 1 - found).toNat) "found")

section
variable {w : World} {p : Program} {loose : List Str} {mean : ExcName → Option Value} {mg mb : Str → Option Value} {news : List (Addr × Obj)}
theorem root_spec (n : Int) (t : Tok) (h0 : 0 ≤ n) (h1 : n < 2 ^ 100) :
    Spec w p loose mean mg mb 53 1 [.int n t] news (fun r nx => (∃ t, r = .int (rt n) t) ∧ nx = news) := by
  w_top off
  unfold Spec
  k_fill
  intro dp un gd cn cs a ccd cl outer A₀ base h₀ L m s Q E B F X N T hk hd hu hret
  k_with "state" => first | exact rf1_turn (by assumption) (by assumption) (by assumption) (by assumption) | exact rf2_turn (by assumption) (by assumption) (by assumption) (by assumption) (by assumption) (by assumption) (by assumption) (by assumption) | exact rf2_start (by assumption) (by assumption) (by assumption) (by assumption) (by assumption)
  k_with "measure" => exact rf1_meas (by assumption) (by assumption)
  refine wpAny_call ?_
  k_dflt cell_enter
  (repeat' (first | (k_unfold; (try dsimp only)) | (k_end; kc_close) | ((first | (with_reducible show wpAny _ _ (exec _ _) _ _ _) | (with_reducible show wpAny _ _ (eval (PySem.Expr.BinOp _ _ _ _) _) _ _ _) | (with_reducible show wpAny _ _ (eval (PySem.Expr.Call _ _ _ _) _) _ _ _)); k_fold) | walk1 | (dsimp only; walk1) | (leave1; walk_say "STEP leave1"; (try dsimp only)) | fail "no step"))
  · obtain rfl : n = 0 := by assumption
    exact hret _ _ _ _ ⟨⟨_, rfl⟩, rfl⟩ (by assumption) (by assumption)
  · have e := rf_end (n := n) h0 (by assumption) (by assumption) (by assumption) (by assumption)
    exact hret _ _ _ _ ⟨⟨_, by rw [← e]⟩, rfl⟩ (by assumption) (by assumption)
end
local macro_rules | `(tactic| walk_at "call builtin:abs") => `(tactic| ((with_reducible refine abs_nat ?_); intro _ _))
set_option hygiene false in
local macro_rules | `(tactic| walk_at "call ref") => `(tactic| (k_here; (with_reducible show wpAny _ _ (call (Value.ref 53) _) _ _ _); k_dflt (refine' Spec.useI ?k1 ?k2 ?k3 ?k4 ?k5 ?k6 ?k7 ?k8 (root_spec _ _ ?s1 ?s2) ?_; walk_at "zz u"; walk_at "zz s"); intro _ _ _ _ _; (try dsimp only)))
section
variable {w : World} {p : Program} {loose : List Str} {mean : ExcName → Option Value} {mg mb : Str → Option Value} {news : List (Addr × Obj)}

theorem share_spec (top bottom : Int) (t u : Tok) (ht : top.natAbs < 2 ^ 60) (hb : 0 < bottom) (hb' : bottom < 2 ^ 60) :
    Spec w p loose mean mg mb 67 1 [.int top t, .int bottom u] news (fun r nx => (∃ t, r = .int (shareOf top bottom) t) ∧ nx = news) := by
  w_top off
  unfold Spec
  k_fill
  intro dp un gd cn cs a ccd cl outer A₀ base h₀ L m s Q E B F X N T hk hd hu hret
  refine wpAny_call ?_
  k_dflt cell_enter
  (repeat' (first | (k_unfold; (try dsimp only)) | (k_end; kc_close) | ((first | (with_reducible show wpAny _ _ (exec _ _) _ _ _) | (with_reducible show wpAny _ _ (eval (PySem.Expr.BinOp _ _ _ _) _) _ _ _) | (with_reducible show wpAny _ _ (eval (PySem.Expr.Call _ _ _ _) _) _ _ _)); k_fold) | walk1 | (dsimp only; walk1) | (leave1; walk_say "STEP leave1"; (try dsimp only)) | fail "no step"))
  · exact hret _ _ _ _ ⟨⟨_, by rw [shareOf, if_pos (by assumption)]⟩, rfl⟩ (by assumption) (by assumption)
  · exact hret _ _ _ _ ⟨⟨_, by rw [shareOf, if_neg (by assumption)]⟩, rfl⟩ (by assumption) (by assumption)

def rootOf (top square : Int) : Int := if top < 0 then -(Int.fdiv (rt (Int.fdiv (4 * top.natAbs * top.natAbs) square) + 1) 2) else Int.fdiv (rt (Int.fdiv (4 * top.natAbs * top.natAbs) square) + 1) 2
theorem sq_bound {n : Nat} (h : n < 2 ^ 45) : 0 ≤ 4 * (n : Int) * (n : Int) ∧ 4 * (n : Int) * (n : Int) < 2 ^ 100 := by
  have h1 : (n : Int) * (n : Int) ≤ 2 ^ 45 * 2 ^ 45 := Int.mul_le_mul (by omega) (by omega) (by omega) (by omega)
  have h2 : 0 ≤ (n : Int) * (n : Int) := Int.mul_nonneg (by omega) (by omega)
  rw [Int.mul_assoc]
  constructor <;> omega
theorem fdiv_bound {a b : Int} (h0 : 0 ≤ a) (hb : 0 < b) : 0 ≤ Int.fdiv a b ∧ Int.fdiv a b ≤ a := by
  rw [Int.fdiv_eq_ediv_of_nonneg _ (by omega)]
  exact ⟨Int.ediv_nonneg h0 (by omega), Int.ediv_le_self _ h0⟩
theorem rootsh_spec (top square : Int) (t u : Tok) (ht : top.natAbs < 2 ^ 45) (hb : 0 < square) (hb' : square < 2 ^ 60) :
    Spec w p loose mean mg mb 60 2 [.int top t, .int square u] news (fun r nx => (∃ t, r = .int (rootOf top square) t) ∧ nx = news) := by
  w_top off
  unfold Spec
  k_fill
  intro dp un gd cn cs a ccd cl outer A₀ base h₀ L m s Q E B F X N T hk hd hu hret
  obtain ⟨ha, ha'⟩ := sq_bound ht
  obtain ⟨hf, hf'⟩ := fdiv_bound ha hb
  have hf2 : (4 * (top.natAbs : Int) * (top.natAbs : Int)).fdiv square < 2 ^ 100 := by omega
  refine wpAny_call ?_
  k_dflt cell_enter
  (repeat' (first | (k_unfold; (try dsimp only)) | (k_end; kc_close) | ((first | (with_reducible show wpAny _ _ (exec _ _) _ _ _) | (with_reducible show wpAny _ _ (eval (PySem.Expr.BinOp _ _ _ _) _) _ _ _) | (with_reducible show wpAny _ _ (eval (PySem.Expr.Call _ _ _ _) _) _ _ _)); k_fold) | walk1 | (dsimp only; walk1) | (leave1; walk_say "STEP leave1"; (try dsimp only)) | fail "no step"))
  · exact hret _ _ _ _ ⟨⟨_, by rw [rootOf, if_pos (by assumption)]⟩, rfl⟩ (by assumption) (by assumption)
  · exact hret _ _ _ _ ⟨⟨_, by rw [rootOf, if_neg (by assumption)]⟩, rfl⟩ (by assumption) (by assumption)
end
theorem shareOf_neg (top bottom : Int) (hb : 0 < bottom) : shareOf (-top) bottom = -shareOf top bottom := by
  unfold shareOf
  by_cases h0 : top = 0
  · subst h0
    have e : Int.fdiv (2 * ((0 : Int).natAbs : Int) + bottom) (2 * bottom) = 0 := by
      rw [Int.fdiv_eq_ediv_of_nonneg _ (by omega)]
      exact Int.ediv_eq_zero_of_lt (by simp; omega) (by simp; omega)
    simp only [Int.neg_zero, Int.lt_irrefl, if_false, e]
  · rw [Int.natAbs_neg]
    by_cases h : top < 0
    · rw [if_neg (by omega), if_pos h]; omega
    · rw [if_pos (by omega), if_neg h]
theorem nn_mul_sign {f top : Int} (hf : 0 ≤ f) : 0 ≤ (if top < 0 then -f else f) * top := by
  split
  · have := Int.mul_nonneg hf (b := -top) (by omega)
    rw [Int.neg_mul]; rw [Int.mul_neg] at this; exact this
  · exact Int.mul_nonneg hf (by omega)
theorem shareOf_sign (top bottom : Int) (hb : 0 < bottom) : ¬ shareOf top bottom * top < 0 := by
  have := nn_mul_sign (top := top) (f := Int.fdiv (2 * top.natAbs + bottom) (2 * bottom)) (fdiv_bound (by omega) (by omega)).1
  unfold shareOf
  omega
theorem natAbs_ite {f : Int} {c : Prop} [Decidable c] (hf : 0 ≤ f) : ((if c then -f else f).natAbs : Int) = f := by split <;> omega
theorem shareOf_away (top bottom : Int) (hb : 0 < bottom) : -bottom ≤ 2 * ((top.natAbs : Int) - (shareOf top bottom).natAbs * bottom) ∧ 2 * ((top.natAbs : Int) - (shareOf top bottom).natAbs * bottom) < bottom := by
  have h0 := (fdiv_bound (a := 2 * top.natAbs + bottom) (b := 2 * bottom) (by omega) (by omega)).1
  unfold shareOf
  rw [natAbs_ite h0]
  rw [Int.fdiv_eq_ediv_of_nonneg _ (by omega)]
  have h1 := Int.mul_ediv_add_emod (2 * (top.natAbs : Int) + bottom) (2 * bottom)
  have h2 := Int.emod_nonneg (2 * (top.natAbs : Int) + bottom) (b := 2 * bottom) (by omega)
  have h3 := Int.emod_lt_of_pos (2 * (top.natAbs : Int) + bottom) (b := 2 * bottom) (by omega)
  generalize (2 * (top.natAbs : Int) + bottom) / (2 * bottom) = q at *
  have e : 2 * bottom * q = 2 * (q * bottom) := by rw [Int.mul_assoc, Int.mul_comm bottom q]
  omega
set_option hygiene false in
local macro_rules | `(tactic| walk_at "call ref") => `(tactic| (k_here; (with_reducible show wpAny _ _ (call (Value.ref 67) _) _ _ _); k_dflt (refine' Spec.useI ?k1 ?k2 ?k3 ?k4 ?k5 ?k6 ?k7 ?k8 (share_spec _ _ _ _ ?s1 ?s2 ?s3) ?_; walk_at "zz u"; walk_at "zz s"); intro _ _ _ _ _; (try dsimp only)))
section
variable {w : World} {p : Program} {loose : List Str} {mean : ExcName → Option Value} {mg mb : Str → Option Value} {news : List (Addr × Obj)}
theorem lawShare_spec (top bottom : Int) (t u : Tok) (ht : top.natAbs < 2 ^ 60) (hb : 0 < bottom) (hb' : bottom < 2 ^ 60) :
    Spec w p loose mean mg mb 154 2 [.int top t, .int bottom u] news (fun r nx => r = .bool true ∧ nx = news) := by
  w_top off
  unfold Spec
  k_fill
  intro dp un gd cn cs a ccd cl outer A₀ base h₀ L m s Q E B F X N T hk hd hu hret
  have g1 := shareOf_neg top bottom hb
  have g2 := shareOf_sign top bottom hb
  have g3 := shareOf_away top bottom hb
  refine wpAny_call ?_
  k_dflt cell_enter
  (repeat' (first | (k_unfold; (try dsimp only)) | (k_end; kc_close) | ((first | (with_reducible show wpAny _ _ (exec _ _) _ _ _) | (with_reducible show wpAny _ _ (eval (PySem.Expr.BinOp _ _ _ _) _) _ _ _) | (with_reducible show wpAny _ _ (eval (PySem.Expr.Call _ _ _ _) _) _ _ _)); k_fold) | walk1 | (dsimp only; walk1) | (leave1; walk_say "STEP leave1"; (try dsimp only)) | fail "no step"))
  · exact absurd g1 (by assumption)
  · exact hret _ _ _ _ ⟨by rw [decide_eq_true g3.2], rfl⟩ (by assumption) (by assumption)
end
theorem four_sq (top : Int) : 4 * (top.natAbs : Int) * (top.natAbs : Int) = 4 * top * top := by
  rw [Int.mul_assoc, Int.mul_assoc]
  congr 1
  exact Int.natAbs_mul_self
theorem rootOf_neg (top square : Int) (hb : 0 < square) : rootOf (-top) square = -rootOf top square := by
  unfold rootOf
  by_cases h0 : top = 0
  · subst h0
    have e : rt (Int.fdiv (4 * ((0 : Int).natAbs : Int) * ((0 : Int).natAbs : Int)) square) = 0 := by
      rw [Int.fdiv_eq_ediv_of_nonneg _ (by omega)]
      simp [rt, rtN]
    simp only [Int.neg_zero, Int.lt_irrefl, if_false, e]
    decide
  · rw [Int.natAbs_neg]
    by_cases h : top < 0
    · rw [if_neg (by omega), if_pos h]; omega
    · rw [if_pos (by omega), if_neg h]
theorem half_nn {r : Int} (h : 0 ≤ r) : 0 ≤ Int.fdiv (r + 1) 2 ∧ 2 * Int.fdiv (r + 1) 2 ≤ r + 1 ∧ r ≤ 2 * Int.fdiv (r + 1) 2 := by
  rw [Int.fdiv_eq_ediv_of_nonneg _ (by omega)]
  omega
theorem rootOf_all (top square : Int) (hb : 0 < square) (ht : top.natAbs < 2 ^ 45) : (¬ rootOf top square * top < 0) ∧ (rootOf top square).natAbs < 2 ^ 51 ∧
    (((rootOf top square).natAbs : Int) ≠ 0 → (2 * ((rootOf top square).natAbs : Int) - 1) * (2 * ((rootOf top square).natAbs : Int) - 1) * square ≤ 4 * top * top) ∧
    4 * top * top < (2 * ((rootOf top square).natAbs : Int) + 1) * (2 * ((rootOf top square).natAbs : Int) + 1) * square := by
  obtain ⟨h1, h2⟩ := sq_bound ht
  obtain ⟨h3, h4⟩ := fdiv_bound h1 hb
  have hq1 : Int.fdiv (4 * (top.natAbs : Int) * (top.natAbs : Int)) square * square ≤ 4 * (top.natAbs : Int) * (top.natAbs : Int) := by
    rw [Int.fdiv_eq_ediv_of_nonneg _ (by omega)]; exact Int.ediv_mul_le _ (by omega)
  have hq2 : 4 * (top.natAbs : Int) * (top.natAbs : Int) < (Int.fdiv (4 * (top.natAbs : Int) * (top.natAbs : Int)) square + 1) * square := by
    rw [Int.fdiv_eq_ediv_of_nonneg _ (by omega)]; exact Int.lt_ediv_add_one_mul_self _ hb
  rw [← four_sq]
  unfold rootOf
  generalize hw : 4 * (top.natAbs : Int) * (top.natAbs : Int) = whole at *
  generalize Int.fdiv whole square = q at *
  obtain ⟨r1, r2, r3⟩ := rt_spec h3
  have rb := lt_of_sq (b := 2 ^ 50) r2 (by omega) (by omega)
  obtain ⟨f1, f2, f3⟩ := half_nn r1
  generalize rt q = r at *
  generalize Int.fdiv (r + 1) 2 = f at *
  refine ⟨?_, ?_, ?_, ?_⟩
  · have := nn_mul_sign (top := top) f1
    omega
  · have := natAbs_ite (c := top < 0) f1
    omega
  · rw [natAbs_ite f1]
    intro hne
    have h5 : (2 * f - 1) * (2 * f - 1) ≤ r * r := Int.mul_le_mul (by omega) (by omega) (by omega) (by omega)
    have h6 : (2 * f - 1) * (2 * f - 1) * square ≤ q * square := Int.mul_le_mul_of_nonneg_right (by omega) (by omega)
    omega
  · rw [natAbs_ite f1]
    have h5 : (r + 1) * (r + 1) ≤ (2 * f + 1) * (2 * f + 1) := Int.mul_le_mul (by omega) (by omega) (by omega) (by omega)
    have h6 : (q + 1) * square ≤ (2 * f + 1) * (2 * f + 1) * square := Int.mul_le_mul_of_nonneg_right (by omega) (by omega)
    omega
theorem pow2_int {prog : Program} {w : World} {A : Around} {E : Value → Shared → Prop} {s : Shared} {a : Int} {t u : Tok} {Q : Value → Shared → Prop} (ha : a.natAbs < 2 ^ 64) (h : Q (.int (a * a) s.toks) { s with toks := s.toks + 1 }) :
    wpAny (model prog w) A (binaryOp .Pow (.int a t) (.int 2 u)) Q E s :=
  pow_int_small (by decide) (by decide) ha (by
    have e : a ^ (2 : Int).toNat = a * a := by show a ^ 2 = a * a; rw [Int.pow_succ, Int.pow_succ, Int.pow_zero, Int.one_mul]
    rw [e]; exact h)
local macro_rules | `(tactic| walk_at "binaryOp Pow int int") => `(tactic| ((with_reducible refine pow2_int ?ha ?_); (case ha => (walk_at "zz k"; omega))))
set_option hygiene false in
local macro_rules | `(tactic| walk_at "call ref") => `(tactic| (k_here; (with_reducible show wpAny _ _ (call (Value.ref 60) _) _ _ _); k_dflt (refine' Spec.useI ?k1 ?k2 ?k3 ?k4 ?k5 ?k6 ?k7 ?k8 (rootsh_spec _ _ _ _ ?s1 ?s2 ?s3) ?_; walk_at "zz u"; walk_at "zz s"); intro _ _ _ _ _; (try dsimp only)))
section
variable {w : World} {p : Program} {loose : List Str} {mean : ExcName → Option Value} {mg mb : Str → Option Value} {news : List (Addr × Obj)}
theorem lawRoot_spec (top square : Int) (t u : Tok) (ht : top.natAbs < 2 ^ 45) (hb : 0 < square) (hb' : square < 2 ^ 60) :
    Spec w p loose mean mg mb 161 3 [.int top t, .int square u] news (fun r nx => r = .bool true ∧ nx = news) := by
  w_top off
  unfold Spec
  k_fill
  intro dp un gd cn cs a ccd cl outer A₀ base h₀ L m s Q E B F X N T hk hd hu hret
  have g1 := rootOf_neg top square hb
  obtain ⟨g2, g3, g4, g5⟩ := rootOf_all top square hb ht
  refine wpAny_call ?_
  k_dflt cell_enter
  (repeat' (first | (k_unfold; (try dsimp only)) | (k_end; kc_close) | ((first | (with_reducible show wpAny _ _ (exec _ _) _ _ _) | (with_reducible show wpAny _ _ (eval (PySem.Expr.BinOp _ _ _ _) _) _ _ _) | (with_reducible show wpAny _ _ (eval (PySem.Expr.Call _ _ _ _) _) _ _ _)); k_fold) | walk1 | (dsimp only; walk1) | (leave1; walk_say "STEP leave1"; (try dsimp only)) | fail "no step"))
  · exact absurd g1 (by assumption)
  · exact hret _ _ _ _ ⟨by rw [decide_eq_true g5], rfl⟩ (by assumption) (cb_drop (by assumption) fun _ q => .tail _ q)
  · exact absurd (by assumption) (by assumption : ¬ ((rootOf top square).natAbs : Int) = 0)
  · exact hret _ _ _ _ ⟨by rw [decide_eq_true g5], rfl⟩ (by assumption) (cb_drop (by assumption) fun _ q => .tail _ q)
  · exact absurd (g4 (by assumption)) (by assumption)
end
abbrev tup2 (x y : Int) (t u : Tok) (n : Nat) : Obj := { cls := .type "tuple", data := .seq #[.int x t, .int y u] n }

/-- the frames get a name: what is said of them is written once -/
theorem foldA {prog : Program} {w : World} {A : Around} {α : Type} {t : Sem α} {Q : α → Shared → Prop} {E : Value → Shared → Prop} {s : Shared} (h : let A' := A; wpAny (model prog w) A' t Q E s) : wpAny (model prog w) A t Q E s := h
/-- a fact out of a row of facts (short proofs: no case split) -/
theorem an0 {P Z : Prop} (h : P ∧ Z) : P := h.1
theorem an1 {A P Z : Prop} (h : A ∧ P ∧ Z) : P := h.2.1
theorem al1 {A P : Prop} (h : A ∧ P) : P := h.2
theorem an2 {A B P Z : Prop} (h : A ∧ B ∧ P ∧ Z) : P := h.2.2.1
theorem al2 {A B P : Prop} (h : A ∧ B ∧ P) : P := h.2.2
theorem an3 {A B C P Z : Prop} (h : A ∧ B ∧ C ∧ P ∧ Z) : P := h.2.2.2.1
theorem al3 {A B C P : Prop} (h : A ∧ B ∧ C ∧ P) : P := h.2.2.2
theorem an4 {A B C D P Z : Prop} (h : A ∧ B ∧ C ∧ D ∧ P ∧ Z) : P := h.2.2.2.2.1
theorem al4 {A B C D P : Prop} (h : A ∧ B ∧ C ∧ D ∧ P) : P := h.2.2.2.2
theorem an5 {A B C D E P Z : Prop} (h : A ∧ B ∧ C ∧ D ∧ E ∧ P ∧ Z) : P := h.2.2.2.2.2.1
theorem al5 {A B C D E P : Prop} (h : A ∧ B ∧ C ∧ D ∧ E ∧ P) : P := h.2.2.2.2.2
theorem an6 {A B C D E F P Z : Prop} (h : A ∧ B ∧ C ∧ D ∧ E ∧ F ∧ P ∧ Z) : P := h.2.2.2.2.2.2.1
theorem al6 {A B C D E F P : Prop} (h : A ∧ B ∧ C ∧ D ∧ E ∧ F ∧ P) : P := h.2.2.2.2.2.2
theorem an7 {A B C D E F G P Z : Prop} (h : A ∧ B ∧ C ∧ D ∧ E ∧ F ∧ G ∧ P ∧ Z) : P := h.2.2.2.2.2.2.2.1
theorem al7 {A B C D E F G P : Prop} (h : A ∧ B ∧ C ∧ D ∧ E ∧ F ∧ G ∧ P) : P := h.2.2.2.2.2.2.2
theorem an8 {A B C D E F G H P Z : Prop} (h : A ∧ B ∧ C ∧ D ∧ E ∧ F ∧ G ∧ H ∧ P ∧ Z) : P := h.2.2.2.2.2.2.2.2.1
theorem al8 {A B C D E F G H P : Prop} (h : A ∧ B ∧ C ∧ D ∧ E ∧ F ∧ G ∧ H ∧ P) : P := h.2.2.2.2.2.2.2.2
theorem an9 {A B C D E F G H I P Z : Prop} (h : A ∧ B ∧ C ∧ D ∧ E ∧ F ∧ G ∧ H ∧ I ∧ P ∧ Z) : P := h.2.2.2.2.2.2.2.2.2.1
theorem al9 {A B C D E F G H I P : Prop} (h : A ∧ B ∧ C ∧ D ∧ E ∧ F ∧ G ∧ H ∧ I ∧ P) : P := h.2.2.2.2.2.2.2.2.2
theorem an10 {A B C D E F G H I J P Z : Prop} (h : A ∧ B ∧ C ∧ D ∧ E ∧ F ∧ G ∧ H ∧ I ∧ J ∧ P ∧ Z) : P := h.2.2.2.2.2.2.2.2.2.2.1
theorem al10 {A B C D E F G H I J P : Prop} (h : A ∧ B ∧ C ∧ D ∧ E ∧ F ∧ G ∧ H ∧ I ∧ J ∧ P) : P := h.2.2.2.2.2.2.2.2.2.2
theorem an11 {A B C D E F G H I J K P Z : Prop} (h : A ∧ B ∧ C ∧ D ∧ E ∧ F ∧ G ∧ H ∧ I ∧ J ∧ K ∧ P ∧ Z) : P := h.2.2.2.2.2.2.2.2.2.2.2.1
theorem al11 {A B C D E F G H I J K P : Prop} (h : A ∧ B ∧ C ∧ D ∧ E ∧ F ∧ G ∧ H ∧ I ∧ J ∧ K ∧ P) : P := h.2.2.2.2.2.2.2.2.2.2.2
theorem an12 {A B C D E F G H I J K L P Z : Prop} (h : A ∧ B ∧ C ∧ D ∧ E ∧ F ∧ G ∧ H ∧ I ∧ J ∧ K ∧ L ∧ P ∧ Z) : P := h.2.2.2.2.2.2.2.2.2.2.2.2.1
theorem al12 {A B C D E F G H I J K L P : Prop} (h : A ∧ B ∧ C ∧ D ∧ E ∧ F ∧ G ∧ H ∧ I ∧ J ∧ K ∧ L ∧ P) : P := h.2.2.2.2.2.2.2.2.2.2.2.2
theorem an13 {A B C D E F G H I J K L M P Z : Prop} (h : A ∧ B ∧ C ∧ D ∧ E ∧ F ∧ G ∧ H ∧ I ∧ J ∧ K ∧ L ∧ M ∧ P ∧ Z) : P := h.2.2.2.2.2.2.2.2.2.2.2.2.2.1
theorem al13 {A B C D E F G H I J K L M P : Prop} (h : A ∧ B ∧ C ∧ D ∧ E ∧ F ∧ G ∧ H ∧ I ∧ J ∧ K ∧ L ∧ M ∧ P) : P := h.2.2.2.2.2.2.2.2.2.2.2.2.2
theorem an14 {A B C D E F G H I J K L M N P Z : Prop} (h : A ∧ B ∧ C ∧ D ∧ E ∧ F ∧ G ∧ H ∧ I ∧ J ∧ K ∧ L ∧ M ∧ N ∧ P ∧ Z) : P := h.2.2.2.2.2.2.2.2.2.2.2.2.2.2.1
theorem al14 {A B C D E F G H I J K L M N P : Prop} (h : A ∧ B ∧ C ∧ D ∧ E ∧ F ∧ G ∧ H ∧ I ∧ J ∧ K ∧ L ∧ M ∧ N ∧ P) : P := h.2.2.2.2.2.2.2.2.2.2.2.2.2.2
/-- a contract of a call that reads what stands, and makes new objects -/
def SpecA (w : World) (p : Program) (loose : List Str) (mean : ExcName → Option Value) (mg mb : Str → Option Value) (f : Addr) (need : Nat) (vs : List Value)
    (Pre : Heap → Prop) (Post : Value → List (Addr × Obj) → Prop) : Prop :=
  ∀ (dp un : Nat) (gd : Option (List Code)) (cn : Str) (cs : Scope) (a : Addr) (ccd : Value) (cl : List (Str × Addr)) (outer : List Env) (A₀ : Around) (base h₀ : Heap) (L : Addr) (m : Str → Option Value) (s : Shared)
    (Q E : Value → Shared → Prop),
    Below A₀ base outer h₀ → Fr h₀ L s.heap m → (K39 w.params).In h₀ → News h₀ L s.heap [] → Top p loose mean mg mb h₀ → cs.kind = .function → dp + need < recursionLimit → un + 8 * need < cLine → Pre s.heap →
    (∀ r nx h' tk', Post r nx → (∀ b o, s.heap.get? b = some o → h'.get? b = some o) → (∀ p ∈ nx, s.heap.get? p.1 = none) → Fr h₀ L h' m → News h₀ L h' nx → Q r { s with heap := h', toks := tk' }) →
    wpAny (model PySem.Challenge.rw_on0223_01.row.prog w) (ktrTop dp un gd cn cs L a ccd cl outer) (call (.ref f) vs) Q E s

/-- apart, said of plain numbers (for omega) -/
def OffA (I : Addr) : List (Addr × Obj) → Prop
  | [] => True
  | p :: r => (@Ne Nat p.1 I) ∧ OffA I r
theorem OffA.of {I : Addr} : ∀ {l : List (Addr × Obj)}, (∀ p ∈ l, p.1 ≠ I) → OffA I l
  | [], _ => trivial
  | _ :: _, h => ⟨h _ List.mem_cons_self, OffA.of fun p hp => h p (List.mem_cons_of_mem _ hp)⟩
theorem OffA.mem {I : Addr} : ∀ {l : List (Addr × Obj)}, OffA I l → ∀ p ∈ l, p.1 ≠ I
  | [], _, _, h => nomatch h
  | _ :: _, x, p, h => by
    rcases List.mem_cons.mp h with rfl | h
    · exact x.1
    · exact OffA.mem x.2 p h
def ApartA : List (Addr × Obj) → List (Addr × Obj) → Prop
  | [], _ => True
  | p :: r, all => OffA p.1 all ∧ ApartA r all
theorem ApartA.of {all : List (Addr × Obj)} : ∀ {l : List (Addr × Obj)}, (∀ p ∈ l, ∀ q ∈ all, q.1 ≠ p.1) → ApartA l all
  | [], _ => trivial
  | _ :: _, h => ⟨OffA.of (h _ List.mem_cons_self), ApartA.of fun p hp => h p (List.mem_cons_of_mem _ hp)⟩
theorem SpecA.use {w : World} {p : Program} {loose : List Str} {mean : ExcName → Option Value} {mg mb : Str → Option Value} {f : Addr} {need : Nat} {vs : List Value} {all : List (Addr × Obj)} {Pre : Heap → Prop} {Post : Value → List (Addr × Obj) → Prop}
    {dp un : Nat} {gd : Option (List Code)} {cn : Str} {cs : Scope} {a : Addr} {ccd : Value} {cl : List (Str × Addr)} {outer : List Env} {A₀ : Around} {base h₀ : Heap} {L : Addr} {m : Str → Option Value} {s : Shared} {Q E : Value → Shared → Prop}
    (S : SpecA w p loose mean mg mb f need vs Pre Post) (B : Below A₀ base outer h₀) (F : Fr h₀ L s.heap m) (X : (K39 w.params).In h₀) (N : News h₀ L s.heap all) (T : Top p loose mean mg mb h₀) (hk : cs.kind = .function)
    (hd : dp + need < recursionLimit) (hu : un + 8 * need < cLine) (hp : Pre s.heap)
    (ret : ∀ r nx h' tk', Post r nx → ApartA nx all → (∀ b o, s.heap.get? b = some o → h'.get? b = some o) → Fr h₀ L h' m → News h₀ L h' (nx ++ all) → Q r { s with heap := h', toks := tk' }) :
    wpAny (model PySem.Challenge.rw_on0223_01.row.prog w) (ktrTop dp un gd cn cs L a ccd cl outer) (call (.ref f) vs) Q E s :=
  S dp un gd cn cs a ccd cl outer A₀ base h₀ L m s Q E B F X (fun _ h => nomatch h) T hk hd hu hp fun r nx h' tk' hpost st fr F' N' =>
    ret r nx h' tk' hpost (ApartA.of fun p hp q hq e => by have := fr p hp; rw [← e, (N q hq).1] at this; cases this) st F' fun q hq => by
      rcases List.mem_append.mp hq with h | h
      · exact N' q h
      · exact ⟨st _ _ (N q h).1, (N q h).2⟩

theorem SpecA.useI {w : World} {p : Program} {loose : List Str} {mean : ExcName → Option Value} {mg mb : Str → Option Value} {f : Addr} {need : Nat} {vs : List Value} {all : List (Addr × Obj)} {Pre : Heap → Prop}
    {dp un : Nat} {gd : Option (List Code)} {cn : Str} {cs : Scope} {a : Addr} {ccd : Value} {cl : List (Str × Addr)} {outer : List Env} {A₀ : Around} {base h₀ : Heap} {L : Addr} {m : Str → Option Value} {s : Shared} {Q E : Value → Shared → Prop} {v : Int}
    (B : Below A₀ base outer h₀) (F : Fr h₀ L s.heap m) (X : (K39 w.params).In h₀) (N : News h₀ L s.heap all) (T : Top p loose mean mg mb h₀) (hk : cs.kind = .function)
    (hd : dp + need < recursionLimit) (hu : un + 8 * need < cLine) (hp : Pre s.heap) (S : SpecA w p loose mean mg mb f need vs Pre (fun r nx => (∃ t, r = .int v t) ∧ nx = []))
    (ret : ∀ t h' tk', Fr h₀ L h' m → News h₀ L h' all → Q (.int v t) { s with heap := h', toks := tk' }) :
    wpAny (model PySem.Challenge.rw_on0223_01.row.prog w) (ktrTop dp un gd cn cs L a ccd cl outer) (call (.ref f) vs) Q E s :=
  SpecA.use S B F X N T hk hd hu hp fun _ _ h' tk' hp9 a9 _ F' N' => by obtain ⟨⟨t, rfl⟩, rfl⟩ := hp9; exact ret t h' tk' F' N'
theorem SpecA.useB {w : World} {p : Program} {loose : List Str} {mean : ExcName → Option Value} {mg mb : Str → Option Value} {f : Addr} {need : Nat} {vs : List Value} {all : List (Addr × Obj)} {Pre : Heap → Prop}
    {dp un : Nat} {gd : Option (List Code)} {cn : Str} {cs : Scope} {a : Addr} {ccd : Value} {cl : List (Str × Addr)} {outer : List Env} {A₀ : Around} {base h₀ : Heap} {L : Addr} {m : Str → Option Value} {s : Shared} {Q E : Value → Shared → Prop} {v : Bool}
    (B : Below A₀ base outer h₀) (F : Fr h₀ L s.heap m) (X : (K39 w.params).In h₀) (N : News h₀ L s.heap all) (T : Top p loose mean mg mb h₀) (hk : cs.kind = .function)
    (hd : dp + need < recursionLimit) (hu : un + 8 * need < cLine) (hp : Pre s.heap) (S : SpecA w p loose mean mg mb f need vs Pre (fun r nx => r = .bool v ∧ nx = []))
    (ret : ∀ h' tk', Fr h₀ L h' m → News h₀ L h' all → Q (.bool v) { s with heap := h', toks := tk' }) :
    wpAny (model PySem.Challenge.rw_on0223_01.row.prog w) (ktrTop dp un gd cn cs L a ccd cl outer) (call (.ref f) vs) Q E s :=
  SpecA.use S B F X N T hk hd hu hp fun _ _ h' tk' hp9 a9 _ F' N' => by obtain ⟨rfl, rfl⟩ := hp9; exact ret h' tk' F' N'
theorem SpecA.useT {w : World} {p : Program} {loose : List Str} {mean : ExcName → Option Value} {mg mb : Str → Option Value} {f : Addr} {need : Nat} {vs : List Value} {all : List (Addr × Obj)} {Pre : Heap → Prop}
    {dp un : Nat} {gd : Option (List Code)} {cn : Str} {cs : Scope} {a : Addr} {ccd : Value} {cl : List (Str × Addr)} {outer : List Env} {A₀ : Around} {base h₀ : Heap} {L : Addr} {m : Str → Option Value} {s : Shared} {Q E : Value → Shared → Prop} {g : Tok → Tok → Nat → Obj}
    (B : Below A₀ base outer h₀) (F : Fr h₀ L s.heap m) (X : (K39 w.params).In h₀) (N : News h₀ L s.heap all) (T : Top p loose mean mg mb h₀) (hk : cs.kind = .function)
    (hd : dp + need < recursionLimit) (hu : un + 8 * need < cLine) (hp : Pre s.heap) (S : SpecA w p loose mean mg mb f need vs Pre (fun r nx => ∃ c t u n, r = .ref c ∧ nx = [(c, g t u n)]))
    (ret : ∀ c t u n h' tk', OffA c all → Fr h₀ L h' m → News h₀ L h' ((c, g t u n) :: all) → Q (.ref c) { s with heap := h', toks := tk' }) :
    wpAny (model PySem.Challenge.rw_on0223_01.row.prog w) (ktrTop dp un gd cn cs L a ccd cl outer) (call (.ref f) vs) Q E s :=
  SpecA.use S B F X N T hk hd hu hp fun _ _ h' tk' hp9 a9 _ F' N' => by obtain ⟨c, t, u, n, rfl, rfl⟩ := hp9; exact ret c t u n h' tk' a9.1 F' N'

section
variable {prog : Program} {w : World} {A A₀ : Around} {s : Shared} {K : Frag} {L : Addr} {h₀ base : Heap} {m mg mb : Str → Option Value} {p : Program} {loose : List Str} {mean : ExcName → Option Value}
  {env : Env} {outer : List Env} {R : Result → Shared → Prop} {name qual : Str} {params : Arguments} {body : List Stmt} {scope : Scope} {dV kV doc pm cdv ct oc : Value} {an od : Option Addr} {osl : Array (Option Value)} {f : Addr} {args : Args} {binds : List (Str × Value)}
/-- the def is entered with all that stands as its base -/
theorem enterZ (B : Below A₀ base outer h₀) (F : Fr h₀ L s.heap m) (X₀ : K.In h₀) (T : Top p loose mean mg mb h₀) (hA : A.frames = some (env :: outer)) (hf : env.frame = some L) (hke : env.scope.kind = .function)
    (ho : K.lookup f = some ⟨oc, od, .func (fnOf name qual params body scope dV kV doc pm an cdv ct), osl⟩) (hcd : codeIn K cdv qual = true) (hroom : A.depth < recursionLimit)
    (hbind : BindsTo s (fnOf name qual params body scope dV kV doc pm an cdv ct) args binds) (hloc : ∀ y ∈ binds, scope.names.lookup y.1 = some .local)
    (h : ∀ L' h₁, Fr s.heap L' h₁ (fun y => binds.reverse.lookup y) → News s.heap L' h₁ [] → Below A base (env :: outer) s.heap → K.In s.heap → Top p loose mean mg mb s.heap →
      wpAny (model prog w) (A.deeper (envOf qual scope L' f cdv)) (execs body (envOf qual scope L' f cdv))
        (fun fl s' => LeaveK h₀ L m s.heap R (match fl with | .ret v => v | _ => .none) s')
        (fun e s' => wpAny (model prog w) (A.deeper (envOf qual scope L' f cdv)) (leaving (envOf qual scope L' f cdv) e) (fun _ s'' => R (.error e) s'') (fun e' s'' => R (.error e') s'') s')
        { s with heap := h₁, toks := s.toks + binds.length })
    (hco : scope.isCoroutine = false) (hgen : scope.isGenerator = false) (hk : scope.kind = .function)
    (hcell : ∀ x ∈ scope.names, x.2 ≠ .cell) : codeAny (model prog w) A (.call (.ref f) args) R s := by
  have N : News h₀ L s.heap [] := fun _ h => nomatch h
  obtain ⟨FG, BG, st, lv⟩ := groundX (R := R) B F N hA hf hke
  refine codeAny_call_def (fd := fnX name qual params body scope [] dV kV doc pm an cdv ct) (body := body) (binds := binds) hroom ((X₀.keeps F.keep) _ _ ho) rfl (T.nolimit.keeps F.keep) (codeRec_of (X₀.keeps F.keep) hcd) rfl hbind hcell hloc (fun h₁ hns hk₁ => ?_) hco hgen hk
  exact wpAny_mono (h s.heap.objs.size h₁ ⟨hns, hk₁, Nat.le_refl _⟩ (fun _ h => nomatch h) BG (X₀.keeps F.keep) (T.keeps F.keep)) (fun fl s' hl => lv _ _ hl) fun _ _ y => y

theorem enterZC (B : Below A₀ base outer h₀) (F : Fr h₀ L s.heap m) (X₀ : K.In h₀) (T : Top p loose mean mg mb h₀) (hA : A.frames = some (env :: outer)) (hf : env.frame = some L) (hke : env.scope.kind = .function)
    (ho : K.lookup f = some ⟨oc, od, .func (fnOf name qual params body scope dV kV doc pm an cdv ct), osl⟩) (hcd : codeIn K cdv qual = true) (hroom : A.depth < recursionLimit)
    (hbind : BindsTo s (fnOf name qual params body scope dV kV doc pm an cdv ct) args binds) (hkind : (binds.all fun y => scope.names.lookup y.1 == some .local || scope.names.lookup y.1 == some .cell) = true)
    (hnd : ((cellsFrom 0 scope.names []).map (·.1)).Nodup)
    (h : ∀ L' h₁ tk cells, Fr s.heap L' h₁ (bindL (envOfC qual scope L' f cdv).kindOf binds fun _ => none) → News s.heap L' h₁ (cells ++ []) →
      CellsAre (bindC (envOfC qual scope L' f cdv).kindOf binds fun _ => none) (cellsFrom (L' + 1) scope.names []) cells → Below A base (env :: outer) s.heap → K.In s.heap → Top p loose mean mg mb s.heap →
      wpAny (model prog w) (A.deeper (envOfC qual scope L' f cdv)) (execs body (envOfC qual scope L' f cdv))
        (fun fl s' => LeaveK h₀ L m s.heap R (match fl with | .ret v => v | _ => .none) s')
        (fun e s' => wpAny (model prog w) (A.deeper (envOfC qual scope L' f cdv)) (leaving (envOfC qual scope L' f cdv) e) (fun _ s'' => R (.error e) s'') (fun e' s'' => R (.error e') s'') s')
        { s with heap := h₁, toks := tk })
    (hco : scope.isCoroutine = false) (hgen : scope.isGenerator = false) (hk : scope.kind = .function) : codeAny (model prog w) A (.call (.ref f) args) R s := by
  have N : News h₀ L s.heap [] := fun _ h => nomatch h
  obtain ⟨FG, BG, st, lv⟩ := groundX (R := R) B F N hA hf hke
  refine codeAny_call_function (fd := fnX name qual params body scope [] dV kV doc pm an cdv ct) hroom ((X₀.keeps F.keep) _ _ ho) rfl hco hgen rfl (codeRec_of (X₀.keeps F.keep) hcd) (hbind _ _ _ _ ?_)
  refine wpAny_newFunctionEnv_cells hk (kindsX hkind _) fun env' he s' x => ?_
  subst he
  refine ⟨(T.nolimit.keeps F.keep).keeps x.toInCall.keep, codeAny_func ?_⟩
  obtain ⟨h₁, tk, rfl, _⟩ := x.done
  have hk₁ := x.toInCall.keep
  obtain ⟨cells, NC, Y⟩ := Cl.news (h₀ := s.heap) (Nat.le_refl _) fun n c hm => ⟨x.cell n c (lookup_of_mem_nodup (cellsFrom_names scope.names 0 (s.heap.objs.size + 1) [] [] rfl ▸ hnd) hm), x.above n c hm⟩
  refine wpAny_mono (h s.heap.objs.size h₁ tk cells ⟨x.toInCall.ns, hk₁, Nat.le_refl _⟩ (fun p hp => ?_) Y BG (X₀.keeps F.keep) (T.keeps F.keep)) (fun fl s' hl => lv _ _ hl) fun _ _ y => y
  rcases List.mem_append.mp hp with hp | hp
  · exact NC p hp
  · nomatch hp
end
theorem finA {h₀ : Heap} {L L' : Addr} {m m' : Str → Option Value} {s : Shared} {Q : Value → Shared → Prop} {Post : Value → List (Addr × Obj) → Prop} {h' : Heap} {l1 l2 nx : List (Addr × Obj)} {r : Value} {tk : Nat}
    (hret : ∀ r nx h' tk', Post r nx → (∀ b o, s.heap.get? b = some o → h'.get? b = some o) → (∀ p ∈ nx, s.heap.get? p.1 = none) → Fr h₀ L h' m → News h₀ L h' nx → Q r { s with heap := h', toks := tk' })
    (kF : Fr h₀ L h' m) (kN : News h₀ L h' l1) (F' : Fr s.heap L' h' m') (N' : News s.heap L' h' l2) (hp : Post r nx) (s1 : ∀ q ∈ nx, q ∈ l1) (s2 : ∀ q ∈ nx, q ∈ l2) : Q r { s with heap := h', toks := tk } :=
  hret r nx h' tk hp F'.keep (fun p q => (N' p (s2 p q)).2.2) kF (fun p q => kN p (s1 p q))
/-- a tuple of two ints -/
def Pt (h : Heap) (v : Value) (x y : Int) : Prop := ∃ (a : Addr) (t u : Tok), v = .ref a ∧ IsTup h a #[.int x t, .int y u]
theorem Pt.keeps {h h' : Heap} {v : Value} {x y : Int} (p : Pt h v x y) (k : ∀ b o, h.get? b = some o → h'.get? b = some o) : Pt h' v x y := by
  obtain ⟨a, t, u, e, q⟩ := p
  exact ⟨a, t, u, e, q.keeps k⟩
def nrm1 (x y half : Int) : Int := rootOf (y * half) (x * x + y * y)
def nrm2 (x y half : Int) : Int := rootOf (-x * half) (x * x + y * y)
theorem sq2 {x y : Int} (hx : x.natAbs < 200) (hy : y.natAbs < 200) (h : x ≠ 0) : 0 < x * x + y * y ∧ x * x + y * y < 2 ^ 60 := by
  have h1 : x * x = x.natAbs * x.natAbs := Int.natAbs_mul_self.symm
  have h2 : y * y = y.natAbs * y.natAbs := Int.natAbs_mul_self.symm
  have h3 : (x.natAbs : Int) * x.natAbs ≤ 200 * 200 := Int.mul_le_mul (by omega) (by omega) (by omega) (by omega)
  have h4 : (y.natAbs : Int) * y.natAbs ≤ 200 * 200 := Int.mul_le_mul (by omega) (by omega) (by omega) (by omega)
  have h5 : 0 ≤ (y.natAbs : Int) * y.natAbs := Int.mul_nonneg (by omega) (by omega)
  have h6 : 0 < (x.natAbs : Int) * x.natAbs := Int.mul_pos (by omega) (by omega)
  omega
theorem half_bound {x half : Int} (hx : x.natAbs < 200) (h0 : 1 ≤ half) (h1 : half ≤ 9) : (x * half).natAbs < 2 ^ 45 := by
  rw [Int.natAbs_mul]
  have : x.natAbs * half.natAbs ≤ 200 * 9 := Nat.mul_le_mul (by omega) (by omega)
  omega
local macro_rules | `(tactic| walk_at "subscriptTail") => `(tactic| ((with_reducible show wpAny _ _ (subscriptTail _ _ (Value.ref _) (Value.int _ _)) _ _ _); k_dflt (refine' item_tupleT ?t ?a ?b ?c ?d ?_; (case t => is_tup); (case a => decide); (case b => decide); (case c => rfl); (case d => rfl); k_whole)))
section
variable {w : World} {p : Program} {loose : List Str} {mean : ExcName → Option Value} {mg mb : Str → Option Value} {news : List (Addr × Obj)}
theorem way_spec {a₁ a₂ : Addr} {x₁ y₁ x₂ y₂ : Int} {t₁ u₁ t₂ u₂ : Tok} :
    SpecA w p loose mean mg mb 74 1 [.ref a₁, .ref a₂] (fun h => IsTup h a₁ #[.int x₁ t₁, .int y₁ u₁] ∧ IsTup h a₂ #[.int x₂ t₂, .int y₂ u₂]) (fun r nx => ∃ c t u n, r = .ref c ∧ nx = [(c, tup2 (x₂ - x₁) (y₂ - y₁) t u n)]) := by
  w_top off
  unfold SpecA
  k_fill
  intro dp un gd cn cs a ccd cl outer A₀ base h₀ L m s Q E B F X N T hk hd hu hpre hret
  obtain ⟨hp1, hp2⟩ := hpre
  refine wpAny_call ?_
  k_dflt (refine' enterZ ?k1 ?k2 ?k3 ?k5 ?kA ?kF ?kK ?k6 ?k7 ?k8 ?k9 ?kB ?_ ?c2 ?c3 ?c4 ?c5; (case kA => exact rfl); (case kF => exact rfl); (case kK => assumption); (case k1 => k_asm); (case k2 => k_asm); (case k3 => k_asm); (case k5 => k_asm); (case k6 => k_is); (case k7 => k_is); (case k8 => ktr_room); (case k9 => exact BindsTo.of_eq rfl); (case c5 => decide); (case kB => exact locs rfl); (case c2 => exact rfl); (case c3 => exact rfl); (case c4 => exact rfl); k_whole; intro L' h' F' N' B' X' T'; (try dsimp only); (try k_fold); (refine foldA ?_); intro ak)
  (repeat' (first | (k_unfold; (try dsimp only)) | (k_end; kc_close) | ((first | (with_reducible show wpAny _ _ (exec _ _) _ _ _) | (with_reducible show wpAny _ _ (eval (PySem.Expr.BinOp _ _ _ _) _) _ _ _) | (with_reducible show wpAny _ _ (eval (PySem.Expr.Call _ _ _ _) _) _ _ _)); k_fold) | walk1 | (dsimp only; walk1) | (leave1; walk_say "STEP leave1"; (try dsimp only)) | fail "no step"))
  exact finA hret (by assumption) (by assumption) (by assumption) (by assumption) ⟨_, _, _, _, rfl, rfl⟩ (by lcg_sub) (by lcg_sub)
theorem moved_spec {a₁ a₂ : Addr} {x₁ y₁ x₂ y₂ : Int} {t₁ u₁ t₂ u₂ : Tok} :
    SpecA w p loose mean mg mb 81 1 [.ref a₁, .ref a₂] (fun h => IsTup h a₁ #[.int x₁ t₁, .int y₁ u₁] ∧ IsTup h a₂ #[.int x₂ t₂, .int y₂ u₂]) (fun r nx => ∃ c t u n, r = .ref c ∧ nx = [(c, tup2 (x₁ + x₂) (y₁ + y₂) t u n)]) := by
  w_top off
  unfold SpecA
  k_fill
  intro dp un gd cn cs a ccd cl outer A₀ base h₀ L m s Q E B F X N T hk hd hu hpre hret
  obtain ⟨hp1, hp2⟩ := hpre
  refine wpAny_call ?_
  k_dflt (refine' enterZ ?k1 ?k2 ?k3 ?k5 ?kA ?kF ?kK ?k6 ?k7 ?k8 ?k9 ?kB ?_ ?c2 ?c3 ?c4 ?c5; (case kA => exact rfl); (case kF => exact rfl); (case kK => assumption); (case k1 => k_asm); (case k2 => k_asm); (case k3 => k_asm); (case k5 => k_asm); (case k6 => k_is); (case k7 => k_is); (case k8 => ktr_room); (case k9 => exact BindsTo.of_eq rfl); (case c5 => decide); (case kB => exact locs rfl); (case c2 => exact rfl); (case c3 => exact rfl); (case c4 => exact rfl); k_whole; intro L' h' F' N' B' X' T'; (try dsimp only); (try k_fold); (refine foldA ?_); intro ak)
  (repeat' (first | (k_unfold; (try dsimp only)) | (k_end; kc_close) | ((first | (with_reducible show wpAny _ _ (exec _ _) _ _ _) | (with_reducible show wpAny _ _ (eval (PySem.Expr.BinOp _ _ _ _) _) _ _ _) | (with_reducible show wpAny _ _ (eval (PySem.Expr.Call _ _ _ _) _) _ _ _)); k_fold) | walk1 | (dsimp only; walk1) | (leave1; walk_say "STEP leave1"; (try dsimp only)) | fail "no step"))
  exact finA hret (by assumption) (by assumption) (by assumption) (by assumption) ⟨_, _, _, _, rfl, rfl⟩ (by lcg_sub) (by lcg_sub)
theorem turned_spec {a₁ : Addr} {x₁ y₁ : Int} {t₁ u₁ : Tok} :
    SpecA w p loose mean mg mb 88 1 [.ref a₁] (fun h => IsTup h a₁ #[.int x₁ t₁, .int y₁ u₁]) (fun r nx => ∃ c t u n, r = .ref c ∧ nx = [(c, tup2 (-x₁) (-y₁) t u n)]) := by
  w_top off
  unfold SpecA
  k_fill
  intro dp un gd cn cs a ccd cl outer A₀ base h₀ L m s Q E B F X N T hk hd hu hpre hret
  refine wpAny_call ?_
  k_dflt (refine' enterZ ?k1 ?k2 ?k3 ?k5 ?kA ?kF ?kK ?k6 ?k7 ?k8 ?k9 ?kB ?_ ?c2 ?c3 ?c4 ?c5; (case kA => exact rfl); (case kF => exact rfl); (case kK => assumption); (case k1 => k_asm); (case k2 => k_asm); (case k3 => k_asm); (case k5 => k_asm); (case k6 => k_is); (case k7 => k_is); (case k8 => ktr_room); (case k9 => exact BindsTo.of_eq rfl); (case c5 => decide); (case kB => exact locs rfl); (case c2 => exact rfl); (case c3 => exact rfl); (case c4 => exact rfl); k_whole; intro L' h' F' N' B' X' T'; (try dsimp only); (try k_fold); (refine foldA ?_); intro ak)
  (repeat' (first | (k_unfold; (try dsimp only)) | (k_end; kc_close) | ((first | (with_reducible show wpAny _ _ (exec _ _) _ _ _) | (with_reducible show wpAny _ _ (eval (PySem.Expr.BinOp _ _ _ _) _) _ _ _) | (with_reducible show wpAny _ _ (eval (PySem.Expr.Call _ _ _ _) _) _ _ _)); k_fold) | walk1 | (dsimp only; walk1) | (leave1; walk_say "STEP leave1"; (try dsimp only)) | fail "no step"))
  exact finA hret (by assumption) (by assumption) (by assumption) (by assumption) ⟨_, _, _, _, rfl, rfl⟩ (by lcg_sub) (by lcg_sub)
end
local macro_rules | `(tactic| walk_at "zz p") => `(tactic| first | exact ⟨by first | is_tup | exact News.isTup (by k_asm) (by k_mem), by first | is_tup | exact News.isTup (by k_asm) (by k_mem)⟩ | is_tup | exact News.isTup (by k_asm) (by k_mem))
set_option hygiene false in
local macro_rules | `(tactic| walk_at "call ref") => `(tactic| (k_here; (with_reducible show wpAny _ _ (call (Value.ref 74) _) _ _ _); k_dflt (refine' SpecA.useT ?k1 ?k2 ?k3 ?k4 ?k5 ?k6 ?k7 ?k8 ?k9 (way_spec) ?_; walk_at "zz u"; (case k9 => walk_at "zz p")); intro _ _ _ _ _ _ _ _ _; ((rename OffA _ _ => a9); dsimp only [OffA] at a9); (try dsimp only)))
set_option hygiene false in
local macro_rules | `(tactic| walk_at "call ref") => `(tactic| (k_here; (with_reducible show wpAny _ _ (call (Value.ref 81) _) _ _ _); k_dflt (refine' SpecA.useT ?k1 ?k2 ?k3 ?k4 ?k5 ?k6 ?k7 ?k8 ?k9 (moved_spec) ?_; walk_at "zz u"; (case k9 => walk_at "zz p")); intro _ _ _ _ _ _ _ _ _; ((rename OffA _ _ => a9); dsimp only [OffA] at a9); (try dsimp only)))
set_option hygiene false in
local macro_rules | `(tactic| walk_at "call ref") => `(tactic| (k_here; (with_reducible show wpAny _ _ (call (Value.ref 88) _) _ _ _); k_dflt (refine' SpecA.useT ?k1 ?k2 ?k3 ?k4 ?k5 ?k6 ?k7 ?k8 ?k9 (turned_spec) ?_; walk_at "zz u"; (case k9 => walk_at "zz p")); intro _ _ _ _ _ _ _ _ _; ((rename OffA _ _ => a9); dsimp only [OffA] at a9); (try dsimp only)))
section
variable {w : World} {p : Program} {loose : List Str} {mean : ExcName → Option Value} {mg mb : Str → Option Value} {news : List (Addr × Obj)}
theorem normal_spec {a₁ a₂ : Addr} {x₁ y₁ x₂ y₂ : Int} {t₁ u₁ t₂ u₂ : Tok} {half : Int} {th : Tok} (hx₁ : x₁.natAbs < 100) (hy₁ : y₁.natAbs < 100) (hx₂ : x₂.natAbs < 100) (hy₂ : y₂.natAbs < 100) (hne : x₂ - x₁ ≠ 0) (hh : 1 ≤ half) (hh' : half ≤ 9) :
    SpecA w p loose mean mg mb 95 3 [.ref a₁, .ref a₂, .int half th] (fun h => IsTup h a₁ #[.int x₁ t₁, .int y₁ u₁] ∧ IsTup h a₂ #[.int x₂ t₂, .int y₂ u₂]) (fun r nx => ∃ c t u n, r = .ref c ∧ nx = [(c, tup2 (nrm1 (x₂ - x₁) (y₂ - y₁) half) (nrm2 (x₂ - x₁) (y₂ - y₁) half) t u n)]) := by
  w_top off
  unfold SpecA
  k_fill
  intro dp un gd cn cs a ccd cl outer A₀ base h₀ L m s Q E B F X N T hk hd hu hpre hret
  obtain ⟨hp1, hp2⟩ := hpre
  obtain ⟨q1, q2⟩ := sq2 (x := x₂ - x₁) (y := y₂ - y₁) (by omega) (by omega) hne
  have q3 := half_bound (x := y₂ - y₁) (by omega) hh hh'
  have q4 := half_bound (x := -(x₂ - x₁)) (by omega) hh hh'
  refine wpAny_call ?_
  k_dflt (refine' enterZ ?k1 ?k2 ?k3 ?k5 ?kA ?kF ?kK ?k6 ?k7 ?k8 ?k9 ?kB ?_ ?c2 ?c3 ?c4 ?c5; (case kA => exact rfl); (case kF => exact rfl); (case kK => assumption); (case k1 => k_asm); (case k2 => k_asm); (case k3 => k_asm); (case k5 => k_asm); (case k6 => k_is); (case k7 => k_is); (case k8 => ktr_room); (case k9 => exact BindsTo.of_eq rfl); (case c5 => decide); (case kB => exact locs rfl); (case c2 => exact rfl); (case c3 => exact rfl); (case c4 => exact rfl); k_whole; intro L' h' F' N' B' X' T'; (try dsimp only); (try k_fold); (refine foldA ?_); intro ak)
  (repeat' (first | (k_unfold; (try dsimp only)) | (k_end; kc_close) | ((first | (with_reducible show wpAny _ _ (exec _ _) _ _ _) | (with_reducible show wpAny _ _ (eval (PySem.Expr.BinOp _ _ _ _) _) _ _ _) | (with_reducible show wpAny _ _ (eval (PySem.Expr.Call _ _ _ _) _) _ _ _)); k_fold) | walk1 | (dsimp only; walk1) | (leave1; walk_say "STEP leave1"; (try dsimp only)) | fail "no step"))
  exact finA hret (by assumption) (by assumption) (by assumption) (by assumption) ⟨_, _, _, _, rfl, rfl⟩ (by lcg_sub) (by lcg_sub)
end
set_option hygiene false in
local macro_rules | `(tactic| walk_at "call ref") => `(tactic| (k_here; (with_reducible show wpAny _ _ (call (Value.ref 95) _) _ _ _); k_dflt (refine' SpecA.useT ?k1 ?k2 ?k3 ?k4 ?k5 ?k6 ?k7 ?k8 ?k9 (normal_spec ?s1 ?s2 ?s3 ?s4 ?s5 ?s6 ?s7) ?_; walk_at "zz u"; (case k9 => walk_at "zz p"); walk_at "zz s"); intro _ _ _ _ _ _ _ _ _; ((rename OffA _ _ => a9); dsimp only [OffA] at a9); (try dsimp only)))
section
variable {w : World} {p : Program} {loose : List Str} {mean : ExcName → Option Value} {mg mb : Str → Option Value} {news : List (Addr × Obj)}
theorem parallel_spec {a₁ a₂ : Addr} {x₁ y₁ x₂ y₂ : Int} {t₁ u₁ t₂ u₂ : Tok} {half : Int} {th : Tok} (hx₁ : x₁.natAbs < 100) (hy₁ : y₁.natAbs < 100) (hx₂ : x₂.natAbs < 100) (hy₂ : y₂.natAbs < 100) (hne : x₂ - x₁ ≠ 0) (hh : 1 ≤ half) (hh' : half ≤ 9) :
    SpecA w p loose mean mg mb 102 4 [.ref a₁, .ref a₂, .int half th] (fun h => IsTup h a₁ #[.int x₁ t₁, .int y₁ u₁] ∧ IsTup h a₂ #[.int x₂ t₂, .int y₂ u₂]) (fun r nx => ∃ c d₁ d₂ d₃ d₄ n e₁ f₁ g₁ e₂ f₂ g₂ e₃ f₃ g₃ e₄ f₄ g₄, r = .ref c ∧ nx = [(c, ({ cls := .type "tuple", data := .seq #[.ref d₁, .ref d₂, .ref d₃, .ref d₄] n } : Obj)), (d₁, tup2 (x₁ + nrm1 (x₂ - x₁) (y₂ - y₁) half) (y₁ + nrm2 (x₂ - x₁) (y₂ - y₁) half) e₁ f₁ g₁), (d₂, tup2 (x₂ + nrm1 (x₂ - x₁) (y₂ - y₁) half) (y₂ + nrm2 (x₂ - x₁) (y₂ - y₁) half) e₂ f₂ g₂), (d₃, tup2 (x₂ + -nrm1 (x₂ - x₁) (y₂ - y₁) half) (y₂ + -nrm2 (x₂ - x₁) (y₂ - y₁) half) e₃ f₃ g₃), (d₄, tup2 (x₁ + -nrm1 (x₂ - x₁) (y₂ - y₁) half) (y₁ + -nrm2 (x₂ - x₁) (y₂ - y₁) half) e₄ f₄ g₄)]) := by
  w_top off
  unfold SpecA
  k_fill
  intro dp un gd cn cs a ccd cl outer A₀ base h₀ L m s Q E B F X N T hk hd hu hpre hret
  obtain ⟨hp1, hp2⟩ := hpre
  refine wpAny_call ?_
  k_dflt (refine' enterZ ?k1 ?k2 ?k3 ?k5 ?kA ?kF ?kK ?k6 ?k7 ?k8 ?k9 ?kB ?_ ?c2 ?c3 ?c4 ?c5; (case kA => exact rfl); (case kF => exact rfl); (case kK => assumption); (case k1 => k_asm); (case k2 => k_asm); (case k3 => k_asm); (case k5 => k_asm); (case k6 => k_is); (case k7 => k_is); (case k8 => ktr_room); (case k9 => exact BindsTo.of_eq rfl); (case c5 => decide); (case kB => exact locs rfl); (case c2 => exact rfl); (case c3 => exact rfl); (case c4 => exact rfl); k_whole; intro L' h' F' N' B' X' T'; (try dsimp only); (try k_fold); (refine foldA ?_); intro ak)
  (repeat' (first | (k_unfold; (try dsimp only)) | (k_end; kc_close) | ((first | (with_reducible show wpAny _ _ (exec _ _) _ _ _) | (with_reducible show wpAny _ _ (eval (PySem.Expr.BinOp _ _ _ _) _) _ _ _) | (with_reducible show wpAny _ _ (eval (PySem.Expr.Call _ _ _ _) _) _ _ _)); k_fold) | walk1 | (dsimp only; walk1) | (leave1; walk_say "STEP leave1"; (try dsimp only)) | fail "no step"))
  exact finA hret (by assumption) (by assumption) (by assumption) (by assumption) ⟨_, _, _, _, _, _, _, _, _, _, _, _, _, _, _, _, _, _, rfl, rfl⟩ (by lcg_sub) (by lcg_sub)
end
/-- what stands at a turn's end -/
def TurnZ (h₀ : Heap) (L I : Addr) (it : Obj) (J : (Str → Option Value) → List (Addr × Obj) → Prop) (s : Shared) (Q : Flow → Shared → Prop) (f : Flow) (s₃ : Shared) : Prop :=
  match f with
  | .ret v => Q (.ret v) s₃
  | .brk => Q .next s₃
  | _ => ∃ h' tk' m' news', s₃ = { s with heap := h', toks := tk' } ∧ Fr h₀ L h' m' ∧ News h₀ L h' ((I, it) :: news') ∧ (∀ p ∈ news', p.1 ≠ I) ∧ J m' news'
/-- the loop's place behind its iterator -/
def LoopZ (prog : Program) (w : World) (A : Around) (h₀ : Heap) (env : Env) (target : Expr) (body : List Stmt) (Q : Flow → Shared → Prop) (E : Value → Shared → Prop) (it : Value) (s₂ : Shared) : Prop :=
  ∃ (I : Addr) (fp : List Addr) (n : Nat) (P : Nat → Value → Prop) (St : Nat → Heap → Prop) (m : Str → Option Value) (news : List (Addr × Obj)) (J : Nat → (Str → Option Value) → List (Addr × Obj) → Prop),
    it = .ref I ∧ Walks prog w A I fp [I] n P St ∧ h₀.get? I = none ∧ I ≠ env.locals ∧ (∀ i h, St i h → ∃ o, h.get? I = some o) ∧
    (∀ p ∈ news, p.1 ≠ I) ∧ St 0 s₂.heap ∧ Fr h₀ env.locals s₂.heap m ∧ News h₀ env.locals s₂.heap news ∧ J 0 m news ∧
    (∀ i v m₁ news₁ h tk it, i < n → P i v → J i m₁ news₁ → (∀ p ∈ news₁, p.1 ≠ I) → Fr h₀ env.locals h m₁ → News h₀ env.locals h ((I, it) :: news₁) →
      St (i + 1) h → wpAny (model prog w) A (assign target env v) (fun _ s₁ => wpAny (model prog w) A (execs body env) (TurnZ h₀ env.locals I it (fun m' n' => (∀ h', Fr h₀ env.locals h' m' → News h₀ env.locals h' n' → h'.get? I = some it → St (i + 1) h') ∧ J (i + 1) m' n') s₂ Q) E s₁) E { s₂ with heap := h, toks := tk }) ∧
    ∀ h' tk m' news', Fr h₀ env.locals h' m' → News h₀ env.locals h' news' → J n m' news' → Q .next { s₂ with heap := h', toks := tk }
section
variable {prog : Program} {w : World} {A : Around} {E : Value → Shared → Prop} {s : Shared} {env : Env} {h₀ : Heap} {target iter : Expr} {body : List Stmt} {pos : Pos} {Q : Flow → Shared → Prop}
theorem forZ {m₀ : Str → Option Value} (_F : Fr h₀ env.locals s.heap m₀) (h : wpAny (model prog w) A (eval iter env) (fun xv s₁ => wpAny (model prog w) A (pyIter xv) (fun it s₂ => LoopZ prog w A h₀ env target body Q E it s₂) E s₁) E s)
    (hs : ∀ x, foldedSetIterable iter env x = pure x := by intro _; rfl) (ht : ∀ it v, letOwnedTupleGo target it v = pure () := by intro _ _; rfl)
    (hE : PassesOwn (model prog w) A env E := by passes_own) :
    wpAny (model prog w) A (exec (.For target iter body [] pos) env) Q E s := by
  refine wpAny_For (wpAny_mono h (fun xv s₁ h₁ => wpAny_mono h₁ (fun it s₂ h₂ => ?_) fun _ _ e => e) fun _ _ e => e) hs
  obtain ⟨I, fp, n, P, St, m, news, J, rfl, W, hI₀, hIL, hIo, hoff, hst, F, N, hJ, step, hQ⟩ := h₂
  have next : ∀ {H H' : Heap} {m' : Str → Option Value} {news' : List (Addr × Obj)}, (∀ b o, b ∉ [I] → H.get? b = some o → H'.get? b = some o) → (∀ p ∈ news', p.1 ≠ I) → Fr h₀ env.locals H m' → News h₀ env.locals H news' → Fr h₀ env.locals H' m' ∧ News h₀ env.locals H' news' := by
    intro H H' m' news' hk off F' N'
    refine ⟨⟨F'.ns.at' fun o e => hk _ o (by simpa using Ne.symm hIL) e, fun b o e => hk b o (fun hm => by rw [List.mem_singleton.mp hm, hI₀] at e; cases e) (F'.keep b o e), F'.above⟩, fun p hp => ⟨hk _ _ (by simpa using off p hp) (N' p hp).1, (N' p hp).2⟩⟩
  refine codeAny_forLoop (R := fun r s' => match r with | .ok f => Q f s' | .error e => cameBackBy (model prog w) A env E e s')
    (fun k s' => ∃ h' tk m' news' i, s' = { s₂ with heap := h', toks := tk } ∧ St i h' ∧ Fr h₀ env.locals h' m' ∧ News h₀ env.locals h' news' ∧ (∀ p ∈ news', p.1 ≠ I) ∧ J i m' news' ∧ i ≤ n ∧ k = n + 1 - i) ?_ (n + 1)
    ⟨s₂.heap, s₂.toks, m, news, 0, rfl, hst, F, N, hoff, hJ, Nat.zero_le _, rfl⟩ (ht _)
  rintro k s' ⟨h', tk, m', news', i, rfl, hst', F', N', hoff', hJ', hi, rfl⟩
  by_cases hlt : i < n
  · refine W.item i _ _ _ hlt hst' fun v h₁ tk₁ hP hst₁ hk₁ => ?_
    obtain ⟨F₁, N₁⟩ := next hk₁ hoff' F' N'
    obtain ⟨oI, hoI⟩ := hIo _ _ hst₁
    have N₂ : News h₀ env.locals h₁ ((I, oI) :: news') := fun p hp => by
      rcases List.mem_cons.mp hp with rfl | hp
      · exact ⟨hoI, hIL, hI₀⟩
      · exact N₁ p hp
    have T := step i v m' news' h₁ tk₁ oI hlt hP hJ' hoff' F₁ N₂ hst₁
    refine wpAny_mono T (fun _ s₃ h₃ => ?_) hE
    refine wpAny_mono h₃ (fun f s₄ hq => ?_) hE
    have fin : (∃ h' tk' m' news', s₄ = { s₂ with heap := h', toks := tk' } ∧ Fr h₀ env.locals h' m' ∧ News h₀ env.locals h' ((I, oI) :: news') ∧ (∀ p ∈ news', p.1 ≠ I) ∧ (∀ h', Fr h₀ env.locals h' m' → News h₀ env.locals h' news' → h'.get? I = some oI → St (i + 1) h') ∧ J (i + 1) m' news') →
        ∃ m, m < n + 1 - i ∧ ∃ h' tk m' news' i, s₄ = { s₂ with heap := h', toks := tk } ∧ St i h' ∧ Fr h₀ env.locals h' m' ∧ News h₀ env.locals h' news' ∧ (∀ p ∈ news', p.1 ≠ I) ∧ J i m' news' ∧ i ≤ n ∧ m = n + 1 - i := by
      rintro ⟨h₄, tk₄, m₄, news₄, rfl, F₄, N₄, off₄, hst₄, hJ₄⟩
      have N₄' : News h₀ env.locals h₄ news₄ := fun p hp => N₄ p (List.mem_cons_of_mem _ hp)
      exact ⟨n + 1 - (i + 1), by omega, h₄, tk₄, m₄, news₄, i + 1, rfl, hst₄ h₄ F₄ N₄' (N₄ _ List.mem_cons_self).1, F₄, N₄', off₄, hJ₄, hlt, rfl⟩
    cases f with
    | ret v => exact hq
    | brk => exact hq
    | cont => exact fin hq
    | next => exact fin hq
  · obtain rfl : i = n := by omega
    refine W.done _ _ _ hst' fun h₁ tk₁ hk₁ => wpAny_execs_nil ?_
    obtain ⟨F₁, N₁⟩ := next hk₁ hoff' F' N'
    exact hQ h₁ tk₁ m' news' F₁ N₁ hJ'

/-- a list or a tuple of the base -/
theorem iterB {l : Addr} {vs : List Value} {m₀ : Str → Option Value} {news : List (Addr × Obj)} (J : Nat → (Str → Option Value) → List (Addr × Obj) → Prop)
    (hh : A.handled = none) (hl : h₀.IsList l vs.toArray) (F : Fr h₀ env.locals s.heap m₀) (N : News h₀ env.locals s.heap news) (hj : J 0 m₀ news)
    (turn : ∀ i v m₁ news₁ h tk I it, vs[i]? = some v → J i m₁ news₁ → (∀ p ∈ news₁, p.1 ≠ I) → it.cls = .type "list_iterator" → Fr h₀ env.locals h m₁ → News h₀ env.locals h ((I, it) :: news₁) →
      wpAny (model prog w) A (assign target env v) (fun _ s₁ => wpAny (model prog w) A (execs body env) (TurnZ h₀ env.locals I it (J (i + 1)) s Q) E s₁) E { s with heap := h, toks := tk })
    (done : ∀ m₁ news₁ h tk, J vs.length m₁ news₁ → Fr h₀ env.locals h m₁ → News h₀ env.locals h news₁ → Q .next { s with heap := h, toks := tk }) :
    wpAny (model prog w) A (pyIter (.ref l)) (fun it s₂ => LoopZ prog w A h₀ env target body Q E it s₂) E s := by
  have hls : s.heap.IsList l vs.toArray := hl.at fun o e => F.keep l o e
  have hne : l ≠ s.heap.objs.size := by obtain ⟨_, e, _⟩ := id hls; exact Nat.ne_of_lt (Heap.lt_size e)
  refine wpAny_pyIter_list hls ?_
  have hlen : vs.toArray.size = vs.length := by simp
  have W := Walks.list (prog := prog) (w := w) hh s.heap.objs.size l hne vs.toArray
  rw [hlen] at W
  refine ⟨_, _, _, _, _, m₀, news, J, rfl, W, next_is_new F, fun e => absurd F.ns.lt (e ▸ Nat.lt_irrefl _), fun i h st => by obtain ⟨o, e, _⟩ := st.1; exact ⟨o, e⟩, fun p hp e => absurd (Heap.lt_size (N p hp).1) (e ▸ Nat.lt_irrefl _),
    ⟨⟨_, Heap.get?_push_size _ rfl, rfl, rfl⟩, hls.at fun o e => Heap.get?_push_of_some _ e⟩, F.push _, (fun p hp => ⟨Heap.get?_push_of_some _ (N p hp).1, (N p hp).2⟩), hj, ?_, fun h' tk m' news' F' N' J' => done m' news' h' tk J' F' N'⟩
  intro i v m₁ news₁ h tk it hi hP hJ hoff F₁ N₁ hst
  obtain ⟨⟨o, e, q1, q2⟩, _⟩ := hst
  have e' : it = o := Option.some.inj ((N₁ _ List.mem_cons_self).1.symm.trans e)
  refine wpAny_mono (turn i v m₁ news₁ h tk _ it (by simpa using hP) hJ hoff (e' ▸ q1) F₁ N₁) (fun _ s₃ h₃ => wpAny_mono h₃ (fun f s₄ h₄ => ?_) fun _ _ e => e) fun _ _ e => e
  have fin : (∃ h' tk' m' news', s₄ = { s with heap := h', toks := tk' } ∧ Fr h₀ env.locals h' m' ∧ News h₀ env.locals h' ((s.heap.objs.size, it) :: news') ∧ (∀ p ∈ news', p.1 ≠ s.heap.objs.size) ∧ J (i + 1) m' news') →
      ∃ h' tk' m' news', s₄ = { s with heap := h', toks := tk' } ∧ Fr h₀ env.locals h' m' ∧ News h₀ env.locals h' ((s.heap.objs.size, it) :: news') ∧ (∀ p ∈ news', p.1 ≠ s.heap.objs.size) ∧
        (∀ h', Fr h₀ env.locals h' m' → News h₀ env.locals h' news' → h'.get? s.heap.objs.size = some it → (h'.IsListIter s.heap.objs.size l (i + 1) ∧ h'.IsList l vs.toArray)) ∧ J (i + 1) m' news' := by
    rintro ⟨h', tk', m', news', a, b, c, d, j⟩
    exact ⟨h', tk', m', news', a, b, c, d, fun h'' F'' _ g => ⟨⟨it, g, e' ▸ q1, e' ▸ q2⟩, hl.at fun o e => F''.keep l o e⟩, j⟩
  cases f with
  | ret v => exact h₄
  | brk => exact h₄
  | cont => exact fin h₄
  | next => exact fin h₄
theorem iterT {l : Addr} {vs : List Value} {m₀ : Str → Option Value} {news : List (Addr × Obj)} (J : Nat → (Str → Option Value) → List (Addr × Obj) → Prop)
    (hh : A.handled = none) (hl : IsTup h₀ l vs.toArray) (F : Fr h₀ env.locals s.heap m₀) (N : News h₀ env.locals s.heap news) (hj : J 0 m₀ news)
    (turn : ∀ i v m₁ news₁ h tk I it, vs[i]? = some v → J i m₁ news₁ → (∀ p ∈ news₁, p.1 ≠ I) → it.cls = .type "tuple_iterator" → Fr h₀ env.locals h m₁ → News h₀ env.locals h ((I, it) :: news₁) →
      wpAny (model prog w) A (assign target env v) (fun _ s₁ => wpAny (model prog w) A (execs body env) (TurnZ h₀ env.locals I it (J (i + 1)) s Q) E s₁) E { s with heap := h, toks := tk })
    (done : ∀ m₁ news₁ h tk, J vs.length m₁ news₁ → Fr h₀ env.locals h m₁ → News h₀ env.locals h news₁ → Q .next { s with heap := h, toks := tk }) :
    wpAny (model prog w) A (pyIter (.ref l)) (fun it s₂ => LoopZ prog w A h₀ env target body Q E it s₂) E s := by
  have hls : s.heap.IsTuple l vs.toArray := IsTup.keeps hl fun o e => F.keep o e
  have hne : l ≠ s.heap.objs.size := by obtain ⟨_, e, _⟩ := id hls; exact Nat.ne_of_lt (Heap.lt_size e)
  refine wpAny_pyIter_tuple hls ?_
  have hlen : vs.toArray.size = vs.length := by simp
  have W := Walks.tuple (prog := prog) (w := w) hh s.heap.objs.size l hne vs.toArray
  rw [hlen] at W
  refine ⟨_, _, _, _, _, m₀, news, J, rfl, W, next_is_new F, fun e => absurd F.ns.lt (e ▸ Nat.lt_irrefl _), fun i h st => by obtain ⟨o, e, _⟩ := st.1; exact ⟨o, e⟩, fun p hp e => absurd (Heap.lt_size (N p hp).1) (e ▸ Nat.lt_irrefl _),
    ⟨⟨_, Heap.get?_push_size _ rfl, rfl, rfl⟩, hls.at fun o e => Heap.get?_push_of_some _ e⟩, F.push _, (fun p hp => ⟨Heap.get?_push_of_some _ (N p hp).1, (N p hp).2⟩), hj, ?_, fun h' tk m' news' F' N' J' => done m' news' h' tk J' F' N'⟩
  intro i v m₁ news₁ h tk it hi hP hJ hoff F₁ N₁ hst
  obtain ⟨⟨o, e, q1, q2⟩, _⟩ := hst
  have e' : it = o := Option.some.inj ((N₁ _ List.mem_cons_self).1.symm.trans e)
  refine wpAny_mono (turn i v m₁ news₁ h tk _ it (by simpa using hP) hJ hoff (e' ▸ q1) F₁ N₁) (fun _ s₃ h₃ => wpAny_mono h₃ (fun f s₄ h₄ => ?_) fun _ _ e => e) fun _ _ e => e
  have fin : (∃ h' tk' m' news', s₄ = { s with heap := h', toks := tk' } ∧ Fr h₀ env.locals h' m' ∧ News h₀ env.locals h' ((s.heap.objs.size, it) :: news') ∧ (∀ p ∈ news', p.1 ≠ s.heap.objs.size) ∧ J (i + 1) m' news') →
      ∃ h' tk' m' news', s₄ = { s with heap := h', toks := tk' } ∧ Fr h₀ env.locals h' m' ∧ News h₀ env.locals h' ((s.heap.objs.size, it) :: news') ∧ (∀ p ∈ news', p.1 ≠ s.heap.objs.size) ∧
        (∀ h', Fr h₀ env.locals h' m' → News h₀ env.locals h' news' → h'.get? s.heap.objs.size = some it → (h'.IsTupleIter s.heap.objs.size l (i + 1) ∧ h'.IsTuple l vs.toArray)) ∧ J (i + 1) m' news' := by
    rintro ⟨h', tk', m', news', a, b, c, d, j⟩
    exact ⟨h', tk', m', news', a, b, c, d, fun h'' F'' _ g => ⟨⟨it, g, e' ▸ q1, e' ▸ q2⟩, IsTup.keeps hl fun o e => F''.keep o e⟩, j⟩
  cases f with
  | ret v => exact h₄
  | brk => exact h₄
  | cont => exact fin h₄
  | next => exact fin h₄
/-- a list that the frame has made, which stays as it is -/
theorem iterN {l : Addr} {vs : List Value} {ol : Obj} {k : Nat} {m₀ : Str → Option Value} {news : List (Addr × Obj)} (J : Nat → (Str → Option Value) → List (Addr × Obj) → Prop)
    (hh : A.handled = none) (hm : (l, ol) ∈ news) (hc : ol.cls = .type "list") (hd : ol.data = .seq vs.toArray k) (F : Fr h₀ env.locals s.heap m₀) (N : News h₀ env.locals s.heap news) (hj : J 0 m₀ news)
    (turn : ∀ i v m₁ news₁ h tk I it, vs[i]? = some v → (l, ol) ∈ news₁ → J i m₁ news₁ → (∀ p ∈ news₁, p.1 ≠ I) → it.cls = .type "list_iterator" → Fr h₀ env.locals h m₁ → News h₀ env.locals h ((I, it) :: news₁) →
      wpAny (model prog w) A (assign target env v) (fun _ s₁ => wpAny (model prog w) A (execs body env) (TurnZ h₀ env.locals I it (fun m' n' => (l, ol) ∈ n' ∧ J (i + 1) m' n') s Q) E s₁) E { s with heap := h, toks := tk })
    (done : ∀ m₁ news₁ h tk, (l, ol) ∈ news₁ → J vs.length m₁ news₁ → Fr h₀ env.locals h m₁ → News h₀ env.locals h news₁ → Q .next { s with heap := h, toks := tk }) :
    wpAny (model prog w) A (pyIter (.ref l)) (fun it s₂ => LoopZ prog w A h₀ env target body Q E it s₂) E s := by
  have hls : s.heap.IsList l vs.toArray := ⟨ol, (N _ hm).1, hc, k, hd⟩
  have hne : l ≠ s.heap.objs.size := Nat.ne_of_lt (Heap.lt_size (N _ hm).1)
  refine wpAny_pyIter_list hls ?_
  have hlen : vs.toArray.size = vs.length := by simp
  have W := Walks.list (prog := prog) (w := w) hh s.heap.objs.size l hne vs.toArray
  rw [hlen] at W
  refine ⟨_, _, _, _, _, m₀, news, fun i m n => (l, ol) ∈ n ∧ J i m n, rfl, W, next_is_new F, fun e => absurd F.ns.lt (e ▸ Nat.lt_irrefl _), fun i h st => by obtain ⟨o, e, _⟩ := st.1; exact ⟨o, e⟩, fun p hp e => absurd (Heap.lt_size (N p hp).1) (e ▸ Nat.lt_irrefl _),
    ⟨⟨_, Heap.get?_push_size _ rfl, rfl, rfl⟩, hls.at fun o e => Heap.get?_push_of_some _ e⟩, F.push _, (fun p hp => ⟨Heap.get?_push_of_some _ (N p hp).1, (N p hp).2⟩), ⟨hm, hj⟩, ?_, fun h' tk m' news' F' N' J' => done m' news' h' tk J'.1 J'.2 F' N'⟩
  intro i v m₁ news₁ h tk it hi hP hJ hoff F₁ N₁ hst
  obtain ⟨⟨o, e, q1, q2⟩, _⟩ := hst
  have e' : it = o := Option.some.inj ((N₁ _ List.mem_cons_self).1.symm.trans e)
  refine wpAny_mono (turn i v m₁ news₁ h tk _ it (by simpa using hP) hJ.1 hJ.2 hoff (e' ▸ q1) F₁ N₁) (fun _ s₃ h₃ => wpAny_mono h₃ (fun f s₄ h₄ => ?_) fun _ _ e => e) fun _ _ e => e
  have fin : (∃ h' tk' m' news', s₄ = { s with heap := h', toks := tk' } ∧ Fr h₀ env.locals h' m' ∧ News h₀ env.locals h' ((s.heap.objs.size, it) :: news') ∧ (∀ p ∈ news', p.1 ≠ s.heap.objs.size) ∧ (l, ol) ∈ news' ∧ J (i + 1) m' news') →
      ∃ h' tk' m' news', s₄ = { s with heap := h', toks := tk' } ∧ Fr h₀ env.locals h' m' ∧ News h₀ env.locals h' ((s.heap.objs.size, it) :: news') ∧ (∀ p ∈ news', p.1 ≠ s.heap.objs.size) ∧
        (∀ h', Fr h₀ env.locals h' m' → News h₀ env.locals h' news' → h'.get? s.heap.objs.size = some it → (h'.IsListIter s.heap.objs.size l (i + 1) ∧ h'.IsList l vs.toArray)) ∧ (l, ol) ∈ news' ∧ J (i + 1) m' news' := by
    rintro ⟨h', tk', m', news', a, b, c, d, hm', j⟩
    exact ⟨h', tk', m', news', a, b, c, d, fun h'' F'' N'' g => ⟨⟨it, g, e' ▸ q1, e' ▸ q2⟩, ⟨ol, (N'' _ hm').1, hc, k, hd⟩⟩, hm', j⟩
  cases f with
  | ret v => exact h₄
  | brk => exact h₄
  | cont => exact fin h₄
  | next => exact fin h₄
/-- a range by ones -/
theorem iterR {r : Addr} {a b : Int} {t u v : Tok} {n : Nat} {m₀ : Str → Option Value} {news : List (Addr × Obj)} (J : Nat → (Str → Option Value) → List (Addr × Obj) → Prop)
    (hh : A.handled = none) (hr : IsRange s.heap r a b 1 t u v) (hsmall : Builtin.Range.small a b 1 = true) (hn : Builtin.Range.rangeSize a b 1 = (n : Int)) (F : Fr h₀ env.locals s.heap m₀) (N : News h₀ env.locals s.heap news) (hj : J 0 m₀ news)
    (turn : ∀ i t m₁ news₁ h tk I it, i < n → J i m₁ news₁ → (∀ p ∈ news₁, p.1 ≠ I) → it.cls = .type "range_iterator" → Fr h₀ env.locals h m₁ → News h₀ env.locals h ((I, it) :: news₁) →
      wpAny (model prog w) A (assign target env (.int (a + (i : Int)) t)) (fun _ s₁ => wpAny (model prog w) A (execs body env) (TurnZ h₀ env.locals I it (J (i + 1)) s Q) E s₁) E { s with heap := h, toks := tk })
    (done : ∀ m₁ news₁ h tk, J n m₁ news₁ → Fr h₀ env.locals h m₁ → News h₀ env.locals h news₁ → Q .next { s with heap := h, toks := tk }) :
    wpAny (model prog w) A (pyIter (.ref r)) (fun it s₂ => LoopZ prog w A h₀ env target body Q E it s₂) E s := by
  refine wpAny_pyIter_range hr hsmall ?_
  have W : Walks prog w A s.heap.objs.size [s.heap.objs.size] [s.heap.objs.size] n (fun i v => i < n ∧ ∃ t, v = .int (a + i * 1) t)
      (fun i h => IsRangeIter h s.heap.objs.size (a + (i : Nat) * 1) ((n : Int) - (i : Nat)) 1) := (Walks.range hh _ a 1 n).bound
  refine ⟨_, _, _, _, _, m₀, news, J, rfl, W, next_is_new F, fun e => absurd F.ns.lt (e ▸ Nat.lt_irrefl _), fun i h st => ⟨_, st⟩, fun p hp e => absurd (Heap.lt_size (N p hp).1) (e ▸ Nat.lt_irrefl _),
    (by show IsRangeIter _ _ _ _ _; rw [hn]; simpa using Heap.get?_push_size _ rfl), F.push _, (fun p hp => ⟨Heap.get?_push_of_some _ (N p hp).1, (N p hp).2⟩), hj, ?_, fun h' tk m' news' F' N' J' => done m' news' h' tk J' F' N'⟩
  intro i v m₁ news₁ h tk it hi hP hJ hoff F₁ N₁ hst
  obtain ⟨_, t', rfl⟩ := hP
  have st' : h.get? s.heap.objs.size = some _ := hst
  have e' : it = _ := Option.some.inj ((N₁ _ List.mem_cons_self).1.symm.trans st')
  have e1 : a + (i : Int) * 1 = a + (i : Int) := by omega
  rw [e1]
  refine wpAny_mono (turn i t' m₁ news₁ h tk _ it hi hJ hoff (by rw [e']) F₁ N₁) (fun _ s₃ h₃ => wpAny_mono h₃ (fun f s₄ h₄ => ?_) fun _ _ e => e) fun _ _ e => e
  have fin : (∃ h' tk' m' news', s₄ = { s with heap := h', toks := tk' } ∧ Fr h₀ env.locals h' m' ∧ News h₀ env.locals h' ((s.heap.objs.size, it) :: news') ∧ (∀ p ∈ news', p.1 ≠ s.heap.objs.size) ∧ J (i + 1) m' news') →
      ∃ h' tk' m' news', s₄ = { s with heap := h', toks := tk' } ∧ Fr h₀ env.locals h' m' ∧ News h₀ env.locals h' ((s.heap.objs.size, it) :: news') ∧ (∀ p ∈ news', p.1 ≠ s.heap.objs.size) ∧
        (∀ h', Fr h₀ env.locals h' m' → News h₀ env.locals h' news' → h'.get? s.heap.objs.size = some it → IsRangeIter h' s.heap.objs.size (a + ((i + 1 : Nat) : Int) * 1) ((n : Int) - ((i + 1 : Nat) : Int)) 1) ∧ J (i + 1) m' news' := by
    rintro ⟨h', tk', m', news', a', b, c, d, j⟩
    exact ⟨h', tk', m', news', a', b, c, d, fun h'' F'' _ g => by show h''.get? _ = some _; exact g.trans (congrArg some e'), j⟩
  cases f with
  | ret v => exact h₄
  | brk => exact h₄
  | cont => exact fin h₄
  | next => exact fin h₄
end
theorem frB {h₀ h : Heap} {L : Addr} {m : Str → Option Value} (ps : List (Str × Value)) (F : Fr h₀ L h m) (hk : ∀ p ∈ ps, m p.1 = some p.2) : Fr h₀ L h (kstB m ps) := by
  have e : kstB m ps = m := funext fun y => kstB_eq hk fun _ => rfl
  rw [e]; exact F
/-- where the walk is to stop -/
def Stop (P : Prop) : Prop := P
theorem Stop.out {P : Prop} (h : Stop P) : P := h
structure StopAt (n : Nat) : Prop where
  mark :: (one : True)
section
variable {prog : Program} {w : World} {A : Around} {h₀ : Heap} {L : Addr} {m : Str → Option Value} {env : Env} {ct elt : Expr} {x : Str} {scope : Scope} {cl : List (Str × Addr)} {s : Shared} {S : List (Addr × Obj) → Prop} {P : Nat → Value → Prop} {Fin : List Value → List (Addr × Obj) → Prop} {news : List (Addr × Obj)}
/-- a comprehension with a test, by what holds between the turns -/
theorem restT {n : Nat} (Inv : Nat → List Value → List (Addr × Obj) → Prop) (start : Inv 0 [] news)
    (turn : ∀ i ys news v I oI C oC D m₂ h tk (E' : Value → Shared → Prop), i < n → P i v → Inv i ys news → LCg.NsObj oC m₂ → m₂ x = some v → Fr h₀ L h m → News h₀ L h ((I, oI) :: (C, oC) :: (D, LCg.lst ys) :: news) → LCg.Off3 I C D news → ((@Ne Nat I C) ∧ (@Ne Nat I D) ∧ (@Ne Nat C D)) →
      wpAny (model prog w) A (isTrue ct (compEnvC scope cl C env) (eval ct (compEnvC scope cl C env))) (fun ok s' => if ok = true then
        wpAny (model prog w) A (eval elt (compEnvC scope cl C env)) (LCg.CompEnd h₀ L m { s with heap := h, toks := tk } I oI C oC D (LCg.lst ys) S (fun y news' => Inv (i + 1) (ys ++ [y]) news')) E' s'
        else LCg.CompEnd h₀ L m { s with heap := h, toks := tk } I oI C oC D (LCg.lst ys) S (fun _ news' => Inv (i + 1) ys news') Value.none s') E' { s with heap := h, toks := tk })
    (fin : ∀ ys news', Inv n ys news' → Fin ys news') : LCt.CompRestT prog w A h₀ L m env ct elt x scope cl s S P Fin n 0 [] news := by
  have key : ∀ (j i : Nat) ys news, i + j = n → Inv i ys news → LCt.CompRestT prog w A h₀ L m env ct elt x scope cl s S P Fin j i ys news := by
    intro j
    induction j with
    | zero =>
      intro i ys news hi hv
      obtain rfl : i = n := by omega
      exact LCt.CompRestT.zero (fin _ _ hv)
    | succ j ih =>
      intro i ys news hi hv
      refine LCt.CompRestT.succ ?_
      intro v I oI C oC D m₂ h tk E' hP hC hx F N off ne
      refine wpAny_mono (turn i ys news v I oI C oC D m₂ h tk E' (by omega) hP hv hC hx F N off ne) (fun ok s' hq => ?_) fun _ _ e => e
      cases ok with
      | true =>
        simp only [if_true] at hq ⊢
        refine wpAny_mono hq (fun y s₂ hr => ?_) fun _ _ e => e
        obtain ⟨h', tk', nw, e, F', N', off', hS, hI⟩ := hr
        exact ⟨h', tk', nw, e, F', N', off', hS, ih (i + 1) _ _ (by omega) hI⟩
      | false =>
        simp only [Bool.false_eq_true, if_false] at hq ⊢
        obtain ⟨h', tk', nw, e, F', N', off', hS, hI⟩ := hq
        exact ⟨h', tk', nw, e, F', N', off', hS, ih (i + 1) _ _ (by omega) hI⟩
  exact key n 0 [] news (by omega) start
/-- a comprehension without a test -/
theorem restU {n : Nat} (Inv : Nat → List Value → List (Addr × Obj) → Prop) (start : Inv 0 [] news)
    (turn : ∀ i ys news v I oI C oC D m₂ h tk (E' : Value → Shared → Prop), i < n → P i v → Inv i ys news → LCg.NsObj oC m₂ → m₂ x = some v → Fr h₀ L h m → News h₀ L h ((I, oI) :: (C, oC) :: (D, LCg.lst ys) :: news) → LCg.Off3 I C D news → ((@Ne Nat I C) ∧ (@Ne Nat I D) ∧ (@Ne Nat C D)) →
      wpAny (model prog w) A (eval elt (compEnvC scope cl C env)) (LCg.CompEnd h₀ L m { s with heap := h, toks := tk } I oI C oC D (LCg.lst ys) S (fun y news' => Inv (i + 1) (ys ++ [y]) news')) E' { s with heap := h, toks := tk })
    (fin : ∀ ys news', Inv n ys news' → Fin ys news') : LCg.CompRest prog w A h₀ L m env elt x scope cl s S P Fin n 0 [] news := by
  have key : ∀ (j i : Nat) ys news, i + j = n → Inv i ys news → LCg.CompRest prog w A h₀ L m env elt x scope cl s S P Fin j i ys news := by
    intro j
    induction j with
    | zero =>
      intro i ys news hi hv
      obtain rfl : i = n := by omega
      exact LCg.CompRest.zero (fin _ _ hv)
    | succ j ih =>
      intro i ys news hi hv
      refine LCg.CompRest.succ ?_
      intro v I oI C oC D m₂ h tk E' hP hC hx F N off ne
      refine wpAny_mono (turn i ys news v I oI C oC D m₂ h tk E' (by omega) hP hv hC hx F N off ne) (fun y s₂ hr => ?_) fun _ _ e => e
      obtain ⟨h', tk', nw, e, F', N', off', hS, hI⟩ := hr
      exact ⟨h', tk', nw, e, F', N', off', hS, ih (i + 1) _ _ (by omega) hI⟩
  exact key n 0 [] news (by omega) start
end
theorem filt_yes {f : Int → Bool} {ks : List Int} {i : Nat} {k : Int} (hk : ks[i]? = some k) (h : f k = true) : (ks.take (i + 1)).filter f = (ks.take i).filter f ++ [k] := by
  rw [List.take_add_one, hk]; simp [h]
theorem filt_no {f : Int → Bool} {ks : List Int} {i : Nat} {k : Int} (hk : ks[i]? = some k) (h : f k = false) : (ks.take (i + 1)).filter f = (ks.take i).filter f := by
  rw [List.take_add_one, hk]; simp [h]
theorem rangeKs_at {a : Int} {n i : Nat} (h : i < n) : (rangeKs a n)[i]? = some (a + (i : Int)) := by simp [rangeKs, h]
theorem turnZ_next {h₀ : Heap} {L I : Addr} {it : Obj} {J : (Str → Option Value) → List (Addr × Obj) → Prop} {s : Shared} {Q : Flow → Shared → Prop} {h' : Heap} {tk : Nat} {m' : Str → Option Value} {all : List (Addr × Obj)}
    (F : Fr h₀ L h' m') (N : News h₀ L h' all) (news' : List (Addr × Obj)) (sub : ∀ p ∈ (I, it) :: news', p ∈ all) (off : ∀ p ∈ news', p.1 ≠ I) (hj : J m' news') : TurnZ h₀ L I it J s Q .next { s with heap := h', toks := tk } :=
  ⟨h', tk, m', news', rfl, F, fun p hp => N p (sub p hp), off, hj⟩
theorem eq_trueH {prog : Program} {w : World} {A : Around} {E : Value → Shared → Prop} {s : Shared} {a b : Value} {da db : PyData} {as bs : List Addr} {Q : Value → Shared → Prop} (ra : Reads s.heap a da as) (rb : Reads s.heap b db bs) (ha : SeqAt.shaped da = true) (hb : SeqAt.shaped db = true) (hu : A.units + 64 < cLine)
    (he : PyData.eqv da db = true) (h : Q (.bool true) s) : wpAny (model prog w) A (compareOp .Eq a b) Q E s := eq_dataH ra rb ha hb hu (by rw [he]; exact h)
section
variable {prog : Program} {w : World} {A : Around} {E : Value → Shared → Prop} {s : Shared}
theorem adjust_upto (b n : Nat) (hb : b ≤ n) : Builtin.Slice.sliceAdjust none (some (b : Int)) 1 (n : Int) = ((0 : Int), (b : Int)) := by
  unfold Builtin.Slice.sliceAdjust
  have h1 : ¬ ((1 : Int) < 0) := by omega
  have h2 : ¬ ((b : Int) < 0) := by omega
  simp only [h1, h2, if_false]
  congr 1
  omega
theorem places_upto (b : Nat) : Builtin.Slice.slicePlaces (0 : Int) (b : Int) 1 = b := by
  unfold Builtin.Slice.slicePlaces
  have h1 : (1 : Int) > 0 := by omega
  simp only [h1, if_true, Int.ediv_one]
  split <;> omega
theorem sliceApplied_upto {sl : Addr} {b n : Nat} {u : Tok} {Q : Int × Int × Nat → Shared → Prop} (hs : s.heap.IsSliceOf sl .none (.int b u) .none) (hb : b ≤ n) (h : Q ((0 : Int), 1, b) s) :
    wpAny (model prog w) A (Builtin.Slice.sliceApplied (.ref sl) (pure (n : Int))) Q E s := by
  obtain ⟨os, hos, hcs, hds⟩ := id hs
  unfold Builtin.Slice.sliceApplied Builtin.Slice.sliceFields
  refine wpAny_bind (wpAny_bind (wpAny_field hos hds (x := .none) rfl (wpAny_bind (wpAny_field hos hds (x := .int b u) rfl (wpAny_bind (wpAny_field hos hds (x := .none) rfl (wpAny_pure ?_)))))))
  refine wpAny_bind (slicePart_none ?_)
  show wpAny _ _ (if ((1 : Int) == 0) = true then _ else _) _ _ s
  rw [if_neg (by decide)]
  refine wpAny_bind (slicePart_none (wpAny_bind (slicePart_int (wpAny_bind (wpAny_pure ?_)))))
  show wpAny _ _ (match Builtin.Slice.sliceAdjust none (some (b : Int)) 1 (n : Int) with | (lo, hi) => pure (lo, (1 : Int), Builtin.Slice.slicePlaces lo hi 1)) _ _ s
  rw [adjust_upto b n hb]
  show wpAny _ _ (pure ((0 : Int), (1 : Int), Builtin.Slice.slicePlaces (0 : Int) (b : Int) 1)) _ _ s
  rw [places_upto b]
  exact wpAny_pure h
theorem pick_upto (xs : Array Value) (b : Nat) : ((List.range b).filterMap fun (k : Nat) => xs[((0 : Int) + (k : Int) * 1).toNat]?).toArray = (xs.toList.take b).toArray := by
  have e : (fun (k : Nat) => xs[((0 : Int) + (k : Int) * 1).toNat]?) = fun k => xs[0 + k]? := by
    funext k
    have : ((0 : Int) + (k : Int) * 1).toNat = 0 + k := by omega
    rw [this]
  rw [e]
  have := pick_run xs 0 b
  rw [List.filterMap_map] at this
  have e2 : ((fun x => xs[x]?) ∘ fun x => 0 + x) = fun k => xs[0 + k]? := rfl
  rw [e2] at this
  rw [this, List.drop_zero]
theorem getItem_tuple_upto {t sl : Addr} {items : Array Value} {b : Nat} {u : Tok} {Q : Value → Shared → Prop} (ht : IsTup s.heap t items) (hs : s.heap.IsSliceOf sl .none (.int b u) .none) (hb : b < items.size)
    (h : Q (.ref s.heap.objs.size) { s with heap := s.heap.push { cls := .type "tuple", data := .seq (items.toList.take b).toArray } })
    (hsz : items.size ≤ sizeLine := by size_fits) : wpAny (model prog w) A (getItem (.ref t) (.ref sl)) Q E s := by
  have htake : sizeOk (.seq (items.toList.take b).toArray) := by
    show (items.toList.take b).toArray.size ≤ sizeLine
    rw [List.size_toArray, List.length_take, Array.length_toList]
    omega
  obtain ⟨os, hos, hcs, hds⟩ := id hs
  have hTs : s.TypeIs (.ref sl) "slice" := ⟨os, hos, hcs⟩
  unfold getItem
  try with_reducible refine wpAny_holding ?_
  first | refine wpAny_bind (wpAny_pure ?_) | skip
  refine wpAny_bind (wpAny_sequenceKey ht.typeIs (by decide) ?_)
  refine wpAny_bind (wpAny_callSpecial?_slot (name := Str.ofString "__getitem__") ht.typeIs slot_tuple_getitem
    (wpAny_call_entry slot_tuple_getitem ht.typeIs entry_tuple_getitem ?_ (args_tuple_getitem _ _)))
  show wpAny _ _ (Builtin.Tuple.tupleItemsOf (.ref t) >>= _) _ _ s
  refine wpAny_bind (tupleItemsOf_ ht ?_)
  refine wpAny_bind (wpAny_typeOf hTs ?_)
  rw [if_pos (by decide)]
  refine wpAny_bind (sliceApplied_upto hs (Nat.le_of_lt hb) ?_)
  have hno : ¬ (((0 : Int) == 0 && (1 : Int) == 1 && b == items.size) = true) := by
    have : (b == items.size) = false := by rw [beq_eq_false_iff_ne]; omega
    rw [this]; simp
  show wpAny _ _ (if ((0 : Int) == 0 && (1 : Int) == 1 && b == items.size) = true then _ else _) _ _ s
  rw [if_neg hno, pick_upto items b]
  first
    | exact wpAny_bind (m := Builtin.Tuple.tupleExact _) (wpAny_newObj_type (wpAny_pure ⟨_, rfl, wpAny_pure h⟩) htake)
    | exact wpAny_bind (m := Builtin.Tuple.tupleExact _) (wpAny_newObj_type (wpAny_bind (wpAny_pure (wpAny_pure ⟨_, rfl, wpAny_pure h⟩))) htake)
    | exact wpAny_bind (wpAny_bind (m := Builtin.Tuple.tupleExact _) (wpAny_newObj_type (wpAny_pure (wpAny_pure ⟨_, rfl, wpAny_pure h⟩)) htake))
    | exact wpAny_bind (wpAny_bind (m := Builtin.Tuple.tupleExact _) (wpAny_newObj_type (wpAny_pure ⟨_, rfl, wpAny_pure h⟩) htake))
end
section
variable {prog : Program} {w : World} {A : Around} {E : Value → Shared → Prop} {s : Shared} {h₀ : Heap} {L : Addr} {m : Str → Option Value} {news : List (Addr × Obj)}
theorem tslice_upto {value slice : Expr} {t : Addr} {items : Array Value} {b : Nat} {u : Tok} {zs : List Value} {Q : Value → Shared → Prop}
    (F : Fr h₀ L s.heap m) (N : News h₀ L s.heap news) (ht : IsTup s.heap t items) (hb : b < items.size) (e : items.toList.take b = zs)
    (h : ∀ c h', Fr h₀ L h' m → News h₀ L h' ((c, { cls := .type "tuple", data := .seq zs.toArray }) :: news) → Q (.ref c) { s with heap := h' })
    (hs : subscripted slice false (.ref t) (.ref s.heap.objs.size) = operate [.ref s.heap.objs.size, .ref t] (getItem (.ref t) (.ref s.heap.objs.size)) := by with_unfolding_all rfl)
    (hg : ∀ r, letTemporaryGo value (.ref t) r = pure () := by intro _; with_unfolding_all rfl)
    (hsz : items.size ≤ sizeLine := by size_fits) :
    wpAny (model prog w) A (subscriptTail value slice (.ref t) (.ref s.heap.objs.size)) Q E { s with heap := s.heap.push { cls := .type "slice", data := .fields #[.none, .int b u, .none] } } := by
  subst e
  have ht' : IsTup (s.heap.push { cls := .type "slice", data := .fields #[.none, .int b u, .none] }) t items := ht.keeps fun _ _ e => Heap.get?_push_of_some _ e
  refine subscriptTail_ops (s := { s with heap := s.heap.push { cls := .type "slice", data := .fields #[.none, .int b u, .none] } }) ht'.typeIs slot_tuple_getitem.lookup
    (getItem_tuple_upto ht' (Heap.IsSliceOf.new ..) hb ?_ hsz) hs hg
  have N1 := News.push (F.push { cls := .type "slice", data := .fields #[.none, .int b u, .none] }) (N.grown fun _ _ e => Heap.get?_push_of_some _ e) { cls := .type "tuple", data := .seq (items.toList.take b).toArray }
  exact h _ _ ((F.push _).push _) N1
theorem tslice_from {value slice : Expr} {t : Addr} {items : Array Value} {a : Nat} {u : Tok} {zs : List Value} {Q : Value → Shared → Prop}
    (F : Fr h₀ L s.heap m) (N : News h₀ L s.heap news) (ht : IsTup s.heap t items) (h1 : 1 ≤ a) (ha : a ≤ items.size) (e : items.toList.drop a = zs)
    (h : ∀ c h', Fr h₀ L h' m → News h₀ L h' ((c, { cls := .type "tuple", data := .seq zs.toArray }) :: news) → Q (.ref c) { s with heap := h' })
    (hs : subscripted slice false (.ref t) (.ref s.heap.objs.size) = operate [.ref s.heap.objs.size, .ref t] (getItem (.ref t) (.ref s.heap.objs.size)) := by with_unfolding_all rfl)
    (hg : ∀ r, letTemporaryGo value (.ref t) r = pure () := by intro _; with_unfolding_all rfl)
    (hsz : items.size ≤ sizeLine := by size_fits) :
    wpAny (model prog w) A (subscriptTail value slice (.ref t) (.ref s.heap.objs.size)) Q E { s with heap := s.heap.push { cls := .type "slice", data := .fields #[.int a u, .none, .none] } } := by
  subst e
  exact slice_tuple_from F N ht h1 ha (fun h' F' N' => h _ h' F' N') hs hg hsz
end
local macro_rules | `(tactic| walk_at "subscriptTail Name Slice ref ref") => `(tactic| (k_here; (with_reducible show wpAny _ _ (subscriptTail _ (PySem.Expr.Slice none (some _) none _) (Value.ref _) (Value.ref _)) _ _ _); k_dflt (with_unfolding_all refine' tslice_upto (b := 2) ?F ?N ?t ?b ?e ?_ ?s ?g ?z; (case F => k_asm); (case N => k_asm); (case t => first | is_tup | exact News.isTup (by k_asm) (by k_mem)); (case b => exact Nat.le_of_ble_eq_true rfl); (case e => rfl); (case s => with_unfolding_all rfl); (case g => intro _; with_unfolding_all rfl); (case z => exact Nat.le_of_ble_eq_true rfl)); intro c' h' F' N'; (try dsimp only)))
local macro_rules | `(tactic| walk_at "subscriptTail Name Slice ref ref") => `(tactic| (k_here; (with_reducible show wpAny _ _ (subscriptTail _ (PySem.Expr.Slice (some _) none none _) (Value.ref _) (Value.ref _)) _ _ _); k_dflt (with_unfolding_all refine' tslice_from (a := 2) ?F ?N ?t ?a ?b ?e ?_ ?s ?g ?z; (case F => k_asm); (case N => k_asm); (case t => first | is_tup | exact News.isTup (by k_asm) (by k_mem)); (case a => decide); (case b => exact Nat.le_of_ble_eq_true rfl); (case e => rfl); (case s => with_unfolding_all rfl); (case g => intro _; with_unfolding_all rfl); (case z => exact Nat.le_of_ble_eq_true rfl)); intro c' h' F' N'; (try dsimp only)))
local macro_rules | `(tactic| walk_at "exec For Name List cons nil") => `(tactic| (k_here; (rename Fr _ _ _ _ => lF'); (with_unfolding_all refine forZ lF' ?_)))
local macro_rules | `(tactic| walk_at "CompSrcT") => `(tactic| ((rename StopAt 1 => mk9); refine Stop.out ?_))
local macro_rules | `(tactic| walk_at "CompSrc") => `(tactic| ((rename StopAt 1 => mk9); refine Stop.out ?_))
local macro_rules | `(tactic| walk_at "compareOp Eq ref ref") => `(tactic| ((rename StopAt 2 => mk9); refine Stop.out ?_))
local macro_rules | `(tactic| walk_at "compareOp NotEq ref ref") => `(tactic| ((rename StopAt 2 => mk9); refine Stop.out ?_))
local macro_rules | `(tactic| walk_at "zz al") => `(tactic| with_reducible first | exact an0 (by assumption) | exact an1 (by assumption) | exact an2 (by assumption) | exact an3 (by assumption) | exact an4 (by assumption) | exact an5 (by assumption) | exact an6 (by assumption) | exact an7 (by assumption) | exact an8 (by assumption) | exact an9 (by assumption) | exact an10 (by assumption) | exact an11 (by assumption) | exact an12 (by assumption) | exact an13 (by assumption) | exact an14 (by assumption) | exact al1 (by assumption) | exact al2 (by assumption) | exact al3 (by assumption) | exact al4 (by assumption) | exact al5 (by assumption) | exact al6 (by assumption) | exact al7 (by assumption) | exact al8 (by assumption) | exact al9 (by assumption) | exact al10 (by assumption) | exact al11 (by assumption) | exact al12 (by assumption) | exact al13 (by assumption) | exact al14 (by assumption))
local macro_rules | `(tactic| walk_at "zz an") => `(tactic| first | (with_reducible assumption) | walk_at "zz al" | (apply an0; walk_at "zz al") | (apply an1; walk_at "zz al") | (apply al2; walk_at "zz al"))
local macro_rules | `(tactic| k_ne) => `(tactic| (refine neN ?_; (try dsimp only); first | (with_reducible assumption) | (refine Ne.symm ?_; with_reducible assumption) | (refine Nat.ne_of_gt ?_; walk_at "zz al") | walk_at "zz al" | (refine Nat.ne_of_lt ?_; walk_at "zz al") | (refine Ne.symm ?_; walk_at "zz al") | (refine Nat.ne_of_gt ?_; walk_at "zz an") | walk_at "zz an" | (refine Nat.ne_of_lt ?_; walk_at "zz an") | (refine Ne.symm ?_; walk_at "zz an") | ((repeat (with_reducible rename (And (@Ne Nat _ _) _) => hx9; clear hx9)); (repeat (with_reducible rename (@Ne Nat _ _) => hx9; clear hx9)); walk_say "NE-OMEGA"; omega)))
local macro_rules | `(tactic| lcg_off) => `(tactic| first | exact True.intro | (simp only [LCg.Off3, and_true]; with_reducible assumption) | (refine And.intro ⟨by k_ne, by k_ne, by k_ne⟩ ?_; lcg_off))
local macro_rules | `(tactic| walk_at "CompEnd") => `(tactic| (first | kcf_end | lcg_end))
local macro_rules | `(tactic| walk_at "CompEnd") => `(tactic| ((rename StopAt 15 => mk9); refine Stop.out ?_))
section
variable {w : World} {p : Program} {loose : List Str} {mean : ExcName → Option Value} {mg mb : Str → Option Value} {news : List (Addr × Obj)}
/-- the law's own way to the whole number next to a root's share -/
def cntOf (pv sq half : Int) : Int := (((rangeKs 1 (half.toNat + 1)).filter fun k => decide ((2 * k - 1) * (2 * k - 1) * sq ≤ 4 * pv * pv)).length : Int)
def lnOf (pv sq half : Int) : Int := if pv > 0 then cntOf pv sq half else -cntOf pv sq half
def NItems (A B sq half : Int) (i : Nat) (vs : List Value) : Prop :=
  (i = 0 ∧ vs = []) ∨ (i = 1 ∧ ∃ t, vs = [.int (lnOf A sq half) t]) ∨ (i = 2 ∧ ∃ t u, vs = [.int (lnOf A sq half) t, .int (lnOf B sq half) u])
theorem filt_le {f : Int} : ∀ n : Nat, ((rangeKs 1 n).filter fun k => decide (k ≤ f)).length = min f.toNat n := by
  intro n
  induction n with
  | zero => simp [rangeKs]
  | succ n ih =>
    have e : rangeKs 1 (n + 1) = rangeKs 1 n ++ [1 + (n : Int)] := by simp [rangeKs, List.range_succ]
    rw [e, List.filter_append, List.length_append, ih]
    by_cases h : 1 + (n : Int) ≤ f
    · simp only [List.filter_cons, h, decide_true, if_true, List.filter_nil, List.length_cons, List.length_nil]; omega
    · simp only [List.filter_cons, h, decide_false, Bool.false_eq_true, if_false, List.filter_nil, List.length_nil]; omega
theorem sq_le_sq {a b : Int} (h0 : 0 ≤ a) (h : a ≤ b) : a * a ≤ b * b := Int.mul_le_mul h h h0 (Int.le_trans h0 h)
theorem lnOf_eq {pv sq half : Int} (hsq : 0 < sq) (hb : pv.natAbs < 2 ^ 45) (hle : pv * pv ≤ half * half * sq) (hh : 1 ≤ half) : lnOf pv sq half = rootOf pv sq := by
  obtain ⟨_, _, g1, g2⟩ := rootOf_all pv sq hsq hb
  obtain ⟨f, hf, hr⟩ : ∃ f : Int, 0 ≤ f ∧ rootOf pv sq = if pv < 0 then -f else f := by
    refine ⟨Int.fdiv (rt (Int.fdiv (4 * pv.natAbs * pv.natAbs) sq) + 1) 2, ?_, rfl⟩
    have h1 := (sq_bound hb).1
    have h2 := (fdiv_bound h1 hsq).1
    exact (half_nn (rt_spec h2).1).1
  have ha : ((rootOf pv sq).natAbs : Int) = f := by rw [hr]; exact natAbs_ite hf
  rw [ha] at g1 g2
  have up : ∀ k : Int, 1 ≤ k → k ≤ f → (2 * k - 1) * (2 * k - 1) * sq ≤ 4 * pv * pv := fun k h1 h2 => by
    have := g1 (by omega)
    have h3 : (2 * k - 1) * (2 * k - 1) ≤ (2 * f - 1) * (2 * f - 1) := sq_le_sq (by omega) (by omega)
    exact Int.le_trans (Int.mul_le_mul_of_nonneg_right h3 (by omega)) this
  have no : ∀ k : Int, f < k → ¬ (2 * k - 1) * (2 * k - 1) * sq ≤ 4 * pv * pv := fun k h2 h => by
    have h3 : (2 * f + 1) * (2 * f + 1) ≤ (2 * k - 1) * (2 * k - 1) := sq_le_sq (by omega) (by omega)
    have := Int.mul_le_mul_of_nonneg_right (c := sq) h3 (by omega)
    omega
  have hfh : f ≤ half := by
    by_cases q : f ≤ half
    · exact q
    · exfalso
      have h1 := up (half + 1) (by omega) (by omega)
      have h2 : (2 * (half + 1) - 1) * (2 * (half + 1) - 1) = 4 * (half * half) + (4 * half + 1) := by
        rw [show 2 * (half + 1) - 1 = 2 * half + 1 by omega, Int.add_mul, Int.mul_add, Int.mul_add]
        have : 2 * half * (2 * half) = 4 * (half * half) := by rw [Int.mul_assoc, Int.mul_left_comm half 2 half, ← Int.mul_assoc]; rfl
        omega
      rw [h2, Int.add_mul] at h1
      have h3 : 4 * pv * pv = 4 * (pv * pv) := Int.mul_assoc _ _ _
      have h4 : 4 * (half * half) * sq = 4 * (half * half * sq) := Int.mul_assoc _ _ _
      have h5 : 0 < (4 * half + 1) * sq := Int.mul_pos (by omega) hsq
      omega
  have hc : cntOf pv sq half = f := by
    unfold cntOf
    have e : (rangeKs 1 (half.toNat + 1)).filter (fun k => decide ((2 * k - 1) * (2 * k - 1) * sq ≤ 4 * pv * pv)) = (rangeKs 1 (half.toNat + 1)).filter (fun k => decide (k ≤ f)) := by
      refine List.filter_congr fun k hk => ?_
      have := mem_rangeKs hk
      by_cases q : k ≤ f
      · rw [decide_eq_true q, decide_eq_true (up k (by omega) q)]
      · rw [decide_eq_false q, decide_eq_false (no k (by omega))]
    rw [e, filt_le]
    omega
  unfold lnOf
  rw [hc, hr]
  by_cases hz : pv = 0
  · have : f = 0 := by
      by_cases q : f = 0
      · exact q
      · exfalso
        have h1 := up 1 (by omega) (by omega)
        subst hz
        simp at h1
        omega
    subst this
    split <;> split <;> rfl
  · split <;> split <;> omega
theorem side_le {x y half : Int} : (y * half) * (y * half) ≤ half * half * (x * x + y * y) ∧ (-x * half) * (-x * half) ≤ half * half * (x * x + y * y) := by
  have e1 : (y * half) * (y * half) = half * half * (y * y) := by rw [Int.mul_comm y half, Int.mul_assoc, Int.mul_left_comm y half y, ← Int.mul_assoc]
  have e2 : (-x * half) * (-x * half) = half * half * (x * x) := by rw [Int.mul_comm (-x) half, Int.mul_assoc, Int.mul_left_comm (-x) half (-x), ← Int.mul_assoc, Int.neg_mul_neg]
  have hx : 0 ≤ x * x := by rw [← Int.natAbs_mul_self]; exact Int.natCast_nonneg _
  have hy : 0 ≤ y * y := by rw [← Int.natAbs_mul_self]; exact Int.natCast_nonneg _
  have hh : 0 ≤ half * half := by rw [← Int.natAbs_mul_self]; exact Int.natCast_nonneg _
  rw [e1, e2]
  exact ⟨Int.mul_le_mul_of_nonneg_left (by omega) hh, Int.mul_le_mul_of_nonneg_left (by omega) hh⟩
theorem nitems_step {A B sq half pv x : Int} {i : Nat} {vs : List Value} {t : Tok} (hI : NItems A B sq half i vs) (hpv : i = 0 ∧ pv = A ∨ i = 1 ∧ pv = B) (hx : x = lnOf pv sq half) : NItems A B sq half (i + 1) (vs ++ [.int x t]) := by
  subst hx
  rcases hpv with ⟨rfl, rfl⟩ | ⟨rfl, rfl⟩
  · rcases hI with ⟨_, rfl⟩ | ⟨h, _⟩ | ⟨h, _⟩
    · exact .inr (.inl ⟨rfl, t, rfl⟩)
    · omega
    · omega
  · rcases hI with ⟨h, _⟩ | ⟨_, u, rfl⟩ | ⟨h, _⟩
    · omega
    · exact .inr (.inr ⟨rfl, u, t, rfl⟩)
    · omega
theorem lawNormal_spec {a₁ a₂ : Addr} {x₁ y₁ x₂ y₂ : Int} {t₁ u₁ t₂ u₂ : Tok} {half : Int} {th : Tok} (hx₁ : x₁.natAbs < 100) (hy₁ : y₁.natAbs < 100) (hx₂ : x₂.natAbs < 100) (hy₂ : y₂.natAbs < 100) (hne : x₂ - x₁ ≠ 0) (hh : 1 ≤ half) (hh' : half ≤ 9) :
    SpecA w p loose mean mg mb 142 4 [.ref a₁, .ref a₂, .int half th] (fun h => IsTup h a₁ #[.int x₁ t₁, .int y₁ u₁] ∧ IsTup h a₂ #[.int x₂ t₂, .int y₂ u₂]) (fun r nx => ∃ c t u n, r = .ref c ∧ nx = [(c, ({ cls := .type "list", data := .seq #[.int (nrm1 (x₂ - x₁) (y₂ - y₁) half) t, .int (nrm2 (x₂ - x₁) (y₂ - y₁) half) u] n } : Obj))]) := by
  w_top off
  unfold SpecA
  k_fill
  intro dp un gd cn cs a ccd cl outer A₀ base h₀ L m s Q E B F X N T hk hd hu hpre hret
  obtain ⟨hp1, hp2⟩ := hpre
  obtain ⟨q1, q2⟩ := sq2 (x := x₂ - x₁) (y := y₂ - y₁) (by omega) (by omega) hne
  have q3 := half_bound (x := y₂ - y₁) (by omega) hh hh'
  have q4 := half_bound (x := -(x₂ - x₁)) (by omega) hh hh'
  refine wpAny_call ?_
  k_dflt (refine' enterZC ?k1 ?k2 ?k3 ?k5 ?kA ?kF ?kK ?k6 ?k7 ?k8 ?k9 ?kB ?kD ?_ ?c2 ?c3 ?c4; (case kA => exact rfl); (case kF => exact rfl); (case kK => assumption); (case k1 => k_asm); (case k2 => k_asm); (case k3 => k_asm); (case k5 => k_asm); (case k6 => k_is); (case k7 => k_is); (case k8 => ktr_room); (case k9 => exact BindsTo.of_eq rfl); (case kB => exact rfl); (case kD => decide +kernel); (case c2 => exact rfl); (case c3 => exact rfl); (case c4 => exact rfl); k_whole; intro L' h' tk' cells' F' N' Y' B' X' T'; k_cells Y'; (try simp only [List.cons_append, List.nil_append, List.append_nil] at N'); (try dsimp only); (try k_fold); (refine foldA ?_); intro ak)
  k_steps
  rename_i oP _ _ dP0 _ _ D _ _ _ _ oX' dX _ oY' dY _ fnd _ lf _ lst _ F1 N1 ll
  have dP : ∃ v₀, oP.data = .cell v₀ := ⟨_, dP0⟩
  have N2 : News s.heap L' _ [(lst, listOf #[.int ((y₂ - y₁) * half) tk, .int (-(x₂ - x₁) * half) (tk + 1 + 1)] 0), (fnd, listOf #[] 0), (L' + 1 + 1 + 1, oP), (L' + 1 + 1, oY'), (L' + 1, oX')] := cb_drop N1 (by lcg_sub)
  refine iterN (vs := [.int ((y₂ - y₁) * half) tk, .int (-(x₂ - x₁) * half) (tk + 1 + 1)])
    (fun i m nx => ∃ vs' n oP', NItems ((y₂ - y₁) * half) (-(x₂ - x₁) * half) ((x₂ - x₁) * (x₂ - x₁) + (y₂ - y₁) * (y₂ - y₁)) half i vs' ∧ nx = [(lst, listOf #[.int ((y₂ - y₁) * half) tk, .int (-(x₂ - x₁) * half) (tk + 1 + 1)] 0), (fnd, listOf vs'.toArray n), (L' + 1 + 1 + 1, oP'), (L' + 1 + 1, oY'), (L' + 1, oX')] ∧ (∃ v₀, oP'.data = .cell v₀) ∧
      ∀ p ∈ [(Str.ofString "half", Value.int half th), (Str.ofString "found", Value.ref fnd)], m p.1 = some p.2)
    (by rfl) List.mem_cons_self rfl rfl F1 N2 ⟨[], 0, oP, .inl ⟨rfl, rfl⟩, rfl, dP, ?mm⟩ ?turn ?done
  case mm => kst_all
  case turn =>
    clear F1 N1 N2
    rintro i v m₁ _ h tk I it hv _ ⟨vs', n', oP', hI, rfl, ⟨v₀, dP'⟩, hm⟩ hoff hit F2 N2
    obtain ⟨pv, tv, rfl, hpv⟩ : ∃ pv tv, v = .int pv tv ∧ (i = 0 ∧ pv = (y₂ - y₁) * half ∨ i = 1 ∧ pv = -(x₂ - x₁) * half) := by
      match i, hv with
      | 0, hv => cases hv; exact ⟨_, _, rfl, .inl ⟨rfl, rfl⟩⟩
      | 1, hv => cases hv; exact ⟨_, _, rfl, .inr ⟨rfl, rfl⟩⟩
    have hb : pv.natAbs < 2 ^ 45 := by rcases hpv with ⟨_, rfl⟩ | ⟨_, rfl⟩ <;> assumption
    replace F2 := frB _ F2 hm
    have hvl : vs'.length ≤ 2 := by
      rcases hI with ⟨_, rfl⟩ | ⟨_, _, rfl⟩ | ⟨_, _, _, rfl⟩ <;> simp
    replace hoff := OffA.of hoff
    simp only [OffA, and_true] at hoff
    dsimp only [kstB] at F2
    have mk := StopAt.mark (n := 1) trivial
    (((iterate 2 (first | walk1 | (dsimp only; walk1))); k_fold))
    (repeat' (first | (k_unfold; (try dsimp only)) | (k_end; kc_close) | ((first | (with_reducible show wpAny _ _ (exec _ _) _ _ _) | (with_reducible show wpAny _ _ (eval (PySem.Expr.BinOp _ _ _ _) _) _ _ _) | (with_reducible show wpAny _ _ (eval (PySem.Expr.Call _ _ _ _) _) _ _ _)); k_fold) | walk1 | (dsimp only; walk1) | (leave1; walk_say "STEP leave1"; (try dsimp only)) | fail "no step"))
    refine LCt.CompSrcT.range (n := half.toNat + 1) (by rfl) (by k_asm) (by k_asm) (by assumption) (small_one (by omega) (by omega) (by omega) (by omega)) ((rangeSize_nat _ _).trans (by omega)) (by rw [PySem.sizeLine_eq]; omega) ?_
    intro g'
    refine restT (fun i ys nx => IntsAre ys (((rangeKs 1 (half.toNat + 1)).take i).filter fun k => decide ((2 * k - 1) * (2 * k - 1) * ((x₂ - x₁) * (x₂ - x₁) + (y₂ - y₁) * (y₂ - y₁)) ≤ 4 * pv * pv)) ∧ nx = _) ⟨.nil, rfl⟩ ?_ ?_
    · rintro i2 ys _ v2 I2 oI2 C2 oC2 D2 m2 h2 tk2 E2 hi2 ⟨t2, rfl⟩ ⟨hys, rfl⟩ hC2 hx2 F2 N2 off2 ne2
      have mk15 := StopAt.mark (n := 15) trivial
      (repeat' (first | (k_unfold; (try dsimp only)) | (k_end; kc_close) | ((first | (with_reducible show wpAny _ _ (exec _ _) _ _ _) | (with_reducible show wpAny _ _ (eval (PySem.Expr.BinOp _ _ _ _) _) _ _ _) | (with_reducible show wpAny _ _ (eval (PySem.Expr.Call _ _ _ _) _) _ _ _)); k_fold) | walk1 | (dsimp only; walk1) | (leave1; walk_say "STEP leave1"; (try dsimp only)) | fail "no step")) <;> unfold Stop
      · exact LCg.CompEnd.intro F2 N2 _ (fun _ h => h) off2 trivial ⟨by rw [filt_yes (rangeKs_at hi2) (decide_eq_true (by assumption))]; exact hys.append (.cons _ _ .nil), rfl⟩
      · exact LCg.CompEnd.intro F2 N2 _ (fun _ h => h) off2 trivial ⟨by rw [filt_no (rangeKs_at hi2) (decide_eq_false (by assumption))]; exact hys, rfl⟩
    · rintro ys _ ⟨hys, rfl⟩
      rw [List.take_of_length_le (by rw [rangeKs_length]; omega)] at hys
      have hln := List.length_filter_le (fun k => decide ((2 * k - 1) * (2 * k - 1) * ((x₂ - x₁) * (x₂ - x₁) + (y₂ - y₁) * (y₂ - y₁)) ≤ 4 * pv * pv)) (rangeKs 1 (half.toNat + 1))
      rw [rangeKs_length] at hln
      replace hln : (List.filter (fun k => decide ((2 * k - 1) * (2 * k - 1) * ((x₂ - x₁) * (x₂ - x₁) + (y₂ - y₁) * (y₂ - y₁)) ≤ 4 * pv * pv)) (rangeKs 1 (half.toNat + 1))).length < 2 ^ 62 := by omega
      (repeat' (first | (k_unfold; (try dsimp only)) | (k_end; kc_close) | ((first | (with_reducible show wpAny _ _ (exec _ _) _ _ _) | (with_reducible show wpAny _ _ (eval (PySem.Expr.BinOp _ _ _ _) _) _ _ _) | (with_reducible show wpAny _ _ (eval (PySem.Expr.Call _ _ _ _) _) _ _ _)); k_fold) | walk1 | (dsimp only; walk1) | (leave1; walk_say "STEP leave1"; (try dsimp only)) | fail "no step"))
      · rename News _ _ _ _ => N3
        simp only [List.push_toArray] at N3
        refine turnZ_next (by assumption) N3 _ ?sub ?off ⟨List.mem_cons_self, vs' ++ [?xa], ?na, ?oa, ?ni, rfl, ?cell, ?m⟩
        case sub => lcg_sub
        case off => exact OffA.mem (by simpa only [OffA, and_true] using hoff)
        case cell => exact ⟨_, by assumption⟩
        case ni => exact nitems_step hI hpv (by rw [lnOf, if_pos (by assumption)]; rfl)
        case m => kst_all
      · rename News _ _ _ _ => N3
        simp only [List.push_toArray] at N3
        refine turnZ_next (by assumption) N3 _ ?sub2 ?off2 ⟨List.mem_cons_self, vs' ++ [?xb], ?nb, ?ob, ?ni2, rfl, ?cell2, ?m2⟩
        case sub2 => lcg_sub
        case off2 => exact OffA.mem (by simpa only [OffA, and_true] using hoff)
        case cell2 => exact ⟨_, by assumption⟩
        case ni2 => exact nitems_step hI hpv (by rw [lnOf, if_neg (by assumption)]; rfl)
        case m2 => kst_all
  case done =>
    clear F1 N1 N2
    rintro m₁ _ h tk2 _ ⟨vs', n', oP', hI, rfl, _, hm⟩ F2 N2
    replace F2 := frB _ F2 hm
    dsimp only [kstB] at F2
    obtain ⟨t, u, rfl⟩ : ∃ t u, vs' = [.int (lnOf ((y₂ - y₁) * half) ((x₂ - x₁) * (x₂ - x₁) + (y₂ - y₁) * (y₂ - y₁)) half) t, .int (lnOf (-(x₂ - x₁) * half) ((x₂ - x₁) * (x₂ - x₁) + (y₂ - y₁) * (y₂ - y₁)) half) u] := by
      rcases hI with ⟨h, _⟩ | ⟨h, _⟩ | ⟨_, h⟩
      · cases h
      · cases h
      · exact h
    rw [lnOf_eq q1 q3 side_le.1 hh, lnOf_eq q1 q4 side_le.2 hh] at N2
    (repeat' (first | (k_unfold; (try dsimp only)) | (k_end; kc_close) | ((first | (with_reducible show wpAny _ _ (exec _ _) _ _ _) | (with_reducible show wpAny _ _ (eval (PySem.Expr.BinOp _ _ _ _) _) _ _ _) | (with_reducible show wpAny _ _ (eval (PySem.Expr.Call _ _ _ _) _) _ _ _)); k_fold) | walk1 | (dsimp only; walk1) | (leave1; walk_say "STEP leave1"; (try dsimp only)) | fail "no step"))
    exact finA hret (by assumption) (by assumption) (by assumption) (by assumption) ⟨_, _, _, _, rfl, rfl⟩ (by lcg_sub) (by lcg_sub)
end
theorem parallel_use {w : World} {p : Program} {loose : List Str} {mean : ExcName → Option Value} {mg mb : Str → Option Value} {all : List (Addr × Obj)}
    {dp un : Nat} {gd : Option (List Code)} {cn : Str} {cs : Scope} {a : Addr} {ccd : Value} {cl : List (Str × Addr)} {outer : List Env} {A₀ : Around} {base h₀ : Heap} {L : Addr} {m : Str → Option Value} {s : Shared} {Q E : Value → Shared → Prop} {a₁ a₂ : Addr} {x₁ y₁ x₂ y₂ : Int} {t₁ u₁ t₂ u₂ : Tok} {half : Int} {th : Tok}
    (B : Below A₀ base outer h₀) (F : Fr h₀ L s.heap m) (X : (K39 w.params).In h₀) (N : News h₀ L s.heap all) (T : Top p loose mean mg mb h₀) (hk : cs.kind = .function)
    (hd : dp + 4 < recursionLimit) (hu : un + 8 * 4 < cLine) (hp : IsTup s.heap a₁ #[.int x₁ t₁, .int y₁ u₁] ∧ IsTup s.heap a₂ #[.int x₂ t₂, .int y₂ u₂])
    (hs : x₁.natAbs < 100 ∧ y₁.natAbs < 100 ∧ x₂.natAbs < 100 ∧ y₂.natAbs < 100 ∧ x₂ - x₁ ≠ 0 ∧ 1 ≤ half ∧ half ≤ 9)
    (ret : ∀ c d₁ d₂ d₃ d₄ n e₁ f₁ g₁ e₂ f₂ g₂ e₃ f₃ g₃ e₄ f₄ g₄ h' tk', Fr h₀ L h' m → News h₀ L h' ([(c, ({ cls := .type "tuple", data := .seq #[.ref d₁, .ref d₂, .ref d₃, .ref d₄] n } : Obj)), (d₁, tup2 (x₁ + nrm1 (x₂ - x₁) (y₂ - y₁) half) (y₁ + nrm2 (x₂ - x₁) (y₂ - y₁) half) e₁ f₁ g₁), (d₂, tup2 (x₂ + nrm1 (x₂ - x₁) (y₂ - y₁) half) (y₂ + nrm2 (x₂ - x₁) (y₂ - y₁) half) e₂ f₂ g₂), (d₃, tup2 (x₂ + -nrm1 (x₂ - x₁) (y₂ - y₁) half) (y₂ + -nrm2 (x₂ - x₁) (y₂ - y₁) half) e₃ f₃ g₃), (d₄, tup2 (x₁ + -nrm1 (x₂ - x₁) (y₂ - y₁) half) (y₁ + -nrm2 (x₂ - x₁) (y₂ - y₁) half) e₄ f₄ g₄)] ++ all) → Q (.ref c) { s with heap := h', toks := tk' }) :
    wpAny (model PySem.Challenge.rw_on0223_01.row.prog w) (ktrTop dp un gd cn cs L a ccd cl outer) (call (.ref 102) [.ref a₁, .ref a₂, .int half th]) Q E s :=
  SpecA.use (parallel_spec hs.1 hs.2.1 hs.2.2.1 hs.2.2.2.1 hs.2.2.2.2.1 hs.2.2.2.2.2.1 hs.2.2.2.2.2.2) B F X N T hk hd hu hp fun _ _ h' tk' hp9 _ _ F' N' => by
    obtain ⟨c, d₁, d₂, d₃, d₄, n, e₁, f₁, g₁, e₂, f₂, g₂, e₃, f₃, g₃, e₄, f₄, g₄, rfl, rfl⟩ := hp9
    exact ret c d₁ d₂ d₃ d₄ n e₁ f₁ g₁ e₂ f₂ g₂ e₃ f₃ g₃ e₄ f₄ g₄ h' tk' F' N'
set_option hygiene false in
local macro_rules | `(tactic| walk_at "call ref") => `(tactic| (k_here; (with_reducible show wpAny _ _ (call (Value.ref 102) _) _ _ _); k_dflt (refine' parallel_use ?k1 ?k2 ?k3 ?k4 ?k5 ?k6 ?k7 ?k8 ?k9 ?s1 ?_; walk_at "zz u"; (case k9 => walk_at "zz p"); (case s1 => exact ⟨by walk_at "zz c", by walk_at "zz c", by walk_at "zz c", by walk_at "zz c", by walk_at "zz c", by walk_at "zz c", by walk_at "zz c"⟩)); (iterate 22 (intro _)); (try simp only [List.cons_append, List.nil_append] at *); (try dsimp only)))
set_option hygiene false in
local macro_rules | `(tactic| walk_at "call ref") => `(tactic| (k_here; (with_reducible show wpAny _ _ (call (Value.ref 142) _) _ _ _); k_dflt (refine' SpecA.useT ?k1 ?k2 ?k3 ?k4 ?k5 ?k6 ?k7 ?k8 ?k9 (lawNormal_spec ?s1 ?s2 ?s3 ?s4 ?s5 ?s6 ?s7) ?_; walk_at "zz u"; (case k9 => walk_at "zz p"); walk_at "zz s"); intro _ _ _ _ _ _ _ _ _; ((rename OffA _ _ => a9); dsimp only [OffA] at a9); (try dsimp only)))
theorem nrm_neg {x y half : Int} (h : 0 < x * x + y * y) : nrm1 (-x) (-y) half = -nrm1 x y half ∧ nrm2 (-x) (-y) half = -nrm2 x y half := by
  unfold nrm1 nrm2
  rw [Int.neg_mul_neg, Int.neg_mul_neg, Int.neg_neg]
  constructor
  · rw [Int.neg_mul]; exact rootOf_neg _ _ h
  · have : x * half = -(-x * half) := by rw [Int.neg_mul, Int.neg_neg]
    rw [this]; exact rootOf_neg _ _ h
section
variable {w : World} {p : Program} {loose : List Str} {mean : ExcName → Option Value} {mg mb : Str → Option Value} {news : List (Addr × Obj)}
theorem lawPar_spec {a₁ a₂ : Addr} {x₁ y₁ x₂ y₂ : Int} {t₁ u₁ t₂ u₂ : Tok} {half : Int} {th : Tok} (hx₁ : x₁.natAbs < 100) (hy₁ : y₁.natAbs < 100) (hx₂ : x₂.natAbs < 100) (hy₂ : y₂.natAbs < 100) (hne : x₂ - x₁ ≠ 0) (hh : 1 ≤ half) (hh' : half ≤ 9) :
    SpecA w p loose mean mg mb 166 20 [.ref a₁, .ref a₂, .int half th] (fun h => IsTup h a₁ #[.int x₁ t₁, .int y₁ u₁] ∧ IsTup h a₂ #[.int x₂ t₂, .int y₂ u₂]) (fun r nx => r = .bool true ∧ nx = []) := by
  w_top off
  unfold SpecA
  k_fill
  intro dp un gd cn cs a ccd cl outer A₀ base h₀ L m s Q E B F X N T hk hd hu hpre hret
  obtain ⟨hp1, hp2⟩ := hpre
  refine wpAny_call ?_
  k_dflt (refine' enterZC ?k1 ?k2 ?k3 ?k5 ?kA ?kF ?kK ?k6 ?k7 ?k8 ?k9 ?kB ?kD ?_ ?c2 ?c3 ?c4; (case kA => exact rfl); (case kF => exact rfl); (case kK => assumption); (case k1 => k_asm); (case k2 => k_asm); (case k3 => k_asm); (case k5 => k_asm); (case k6 => k_is); (case k7 => k_is); (case k8 => ktr_room); (case k9 => exact BindsTo.of_eq rfl); (case kB => exact rfl); (case kD => decide +kernel); (case c2 => exact rfl); (case c3 => exact rfl); (case c4 => exact rfl); k_whole; intro L' h' tk' cells' F' N' Y' B' X' T'; k_cells Y'; (try simp only [List.cons_append, List.nil_append, List.append_nil] at N'); (try dsimp only); (try k_fold); (refine foldA ?_); intro ak)
  have mk := StopAt.mark (n := 2) trivial
  have hne2 : x₁ - x₂ ≠ 0 := by omega
  obtain ⟨q1, q2⟩ := sq2 (x := x₂ - x₁) (y := y₂ - y₁) (by omega) (by omega) hne
  have hn1 : nrm1 (x₁ - x₂) (y₁ - y₂) half = -nrm1 (x₂ - x₁) (y₂ - y₁) half := by
    rw [show x₁ - x₂ = -(x₂ - x₁) by omega, show y₁ - y₂ = -(y₂ - y₁) by omega]; exact (nrm_neg q1).1
  have hn2 : nrm2 (x₁ - x₂) (y₁ - y₂) half = -nrm2 (x₂ - x₁) (y₂ - y₁) half := by
    rw [show x₁ - x₂ = -(x₂ - x₁) by omega, show y₁ - y₂ = -(y₂ - y₁) by omega]; exact (nrm_neg q1).2
  (repeat' (first | (k_unfold; (try dsimp only)) | (k_end; kc_close) | ((first | (with_reducible show wpAny _ _ (exec _ _) _ _ _) | (with_reducible show wpAny _ _ (eval (PySem.Expr.BinOp _ _ _ _) _) _ _ _) | (with_reducible show wpAny _ _ (eval (PySem.Expr.Call _ _ _ _) _) _ _ _)); k_fold) | walk1 | (dsimp only; walk1) | (leave1; walk_say "STEP leave1"; (try dsimp only)) | fail "no step"))
  (repeat (rename (@Ne Nat _ _) => hx9; clear hx9))
  refine eq_trueH (by ked_read) (by ked_read) (by ked_shaped) (by ked_shaped) ?_ ?_ ?_
  · have hcL9 := cLine_is
    simp +zetaDelta only [units_in1, units_deeper, Around.mark_units, units_caller]; (try dsimp only [ktrTop]); omega
  · simp [PyData.eqv, PyData.eqvAll, Int.sub_eq_add_neg]
  (repeat' (first | (k_unfold; (try dsimp only)) | (k_end; kc_close) | ((first | (with_reducible show wpAny _ _ (exec _ _) _ _ _) | (with_reducible show wpAny _ _ (eval (PySem.Expr.BinOp _ _ _ _) _) _ _ _) | (with_reducible show wpAny _ _ (eval (PySem.Expr.Call _ _ _ _) _) _ _ _)); k_fold) | walk1 | (dsimp only; walk1) | (leave1; walk_say "STEP leave1"; (try dsimp only)) | fail "no step"))
  (repeat (rename (@Ne Nat _ _) => hx9; clear hx9)); (repeat (with_reducible rename (And _ _) => hx9; clear hx9))
  refine eq_trueH (by ked_read) (by ked_read) (by ked_shaped) (by ked_shaped) ?_ ?_ ?_
  · have hcL9 := cLine_is
    simp +zetaDelta only [units_in1, units_deeper, Around.mark_units, units_caller]; (try dsimp only [ktrTop]); omega
  · simp only [hn1, hn2]; simp [PyData.eqv, PyData.eqvAll, Int.sub_eq_add_neg]
  (repeat' (first | (k_unfold; (try dsimp only)) | (k_end; kc_close) | ((first | (with_reducible show wpAny _ _ (exec _ _) _ _ _) | (with_reducible show wpAny _ _ (eval (PySem.Expr.BinOp _ _ _ _) _) _ _ _) | (with_reducible show wpAny _ _ (eval (PySem.Expr.Call _ _ _ _) _) _ _ _)); k_fold) | walk1 | (dsimp only; walk1) | (leave1; walk_say "STEP leave1"; (try dsimp only)) | fail "no step"))
  exact finA hret (by assumption) (by assumption) (by assumption) (by assumption) ⟨rfl, rfl⟩ (by lcg_sub) (by lcg_sub)
end
abbrev P2 := Int × Int
def pat (ps : List P2) (i : Nat) : P2 := ps.getD i (0, 0)
theorem pat_get {ps : List P2} {i : Nat} {p : P2} (h : ps[i]? = some p) : pat ps i = p := by unfold pat; rw [List.getD_eq_getElem?_getD, h]; rfl
/-- spots: values that bear pairs of small ints -/
def PtsAre (h : Heap) : List Value → List (Int × Int) → Prop
  | [], [] => True
  | v :: vs, p :: ps => (Pt h v p.1 p.2 ∧ p.1.natAbs < 100 ∧ p.2.natAbs < 100) ∧ PtsAre h vs ps
  | _, _ => False
theorem PtsAre.keeps {h h' : Heap} (k : ∀ b o, h.get? b = some o → h'.get? b = some o) : ∀ {vs : List Value} {ps : List (Int × Int)}, PtsAre h vs ps → PtsAre h' vs ps
  | [], [], _ => trivial
  | _ :: _, _ :: _, ⟨⟨a, b⟩, c⟩ => ⟨⟨a.keeps k, b⟩, PtsAre.keeps k c⟩
  | [], _ :: _, x => x.elim
  | _ :: _, [], x => x.elim
theorem PtsAre.length {h : Heap} : ∀ {vs : List Value} {ps : List (Int × Int)}, PtsAre h vs ps → vs.length = ps.length
  | [], [], _ => rfl
  | _ :: _, _ :: _, x => by rw [List.length_cons, List.length_cons, PtsAre.length x.2]
  | [], _ :: _, x => x.elim
  | _ :: _, [], x => x.elim
theorem PtsAre.get {h : Heap} : ∀ {vs : List Value} {ps : List (Int × Int)}, PtsAre h vs ps → ∀ (i : Nat) (v : Value), vs[i]? = some v → ∃ p, ps[i]? = some p ∧ Pt h v p.1 p.2 ∧ p.1.natAbs < 100 ∧ p.2.natAbs < 100
  | [], [], _, i, v, e => by simp at e
  | _ :: _, p :: _, x, 0, v, e => by
    cases Option.some.inj e
    exact ⟨p, rfl, x.1⟩
  | _ :: _, _ :: _, x, i + 1, v, e => by
    obtain ⟨p, a, b⟩ := PtsAre.get x.2 i v (by simpa using e)
    exact ⟨p, by simpa using a, b⟩
  | [], _ :: _, x, _, _, _ => x.elim
  | _ :: _, [], x, _, _, _ => x.elim
theorem PtsAre.append {h : Heap} : ∀ {vs ws : List Value} {ps qs : List (Int × Int)}, PtsAre h vs ps → PtsAre h ws qs → PtsAre h (vs ++ ws) (ps ++ qs)
  | [], _, [], _, _, y => y
  | _ :: _, _, _ :: _, _, x, y => ⟨x.1, PtsAre.append x.2 y⟩
  | [], _, _ :: _, _, x, _ => x.elim
  | _ :: _, _, [], _, x, _ => x.elim
theorem PtsAre.one {h : Heap} {v : Value} {p : Int × Int} (a : Pt h v p.1 p.2) (b : p.1.natAbs < 100 ∧ p.2.natAbs < 100) : PtsAre h [v] [p] := ⟨⟨a, b⟩, trivial⟩
theorem PtsAre.reverse {h : Heap} : ∀ {vs : List Value} {ps : List (Int × Int)}, PtsAre h vs ps → PtsAre h vs.reverse ps.reverse
  | [], [], _ => trivial
  | v :: vs, p :: ps, x => by
    rw [List.reverse_cons, List.reverse_cons]
    exact PtsAre.append (PtsAre.reverse x.2) ⟨x.1, trivial⟩
  | [], _ :: _, x => x.elim
  | _ :: _, [], x => x.elim
theorem PtsAre.take {h : Heap} : ∀ (k : Nat) {vs : List Value} {ps : List (Int × Int)}, PtsAre h vs ps → PtsAre h (vs.take k) (ps.take k)
  | 0, _, _, _ => by simp [PtsAre]
  | _ + 1, [], [], _ => by simp [PtsAre]
  | k + 1, _ :: _, _ :: _, x => ⟨x.1, PtsAre.take k x.2⟩
  | _ + 1, [], _ :: _, x => x.elim
  | _ + 1, _ :: _, [], x => x.elim
/-- a list or a tuple of these -/
def SeqIs (h : Heap) (l : Addr) (vs : List Value) : Prop := h.IsList l vs.toArray ∨ IsTup h l vs.toArray
theorem SeqIs.keeps {h h' : Heap} {l : Addr} {vs : List Value} (x : SeqIs h l vs) (k : ∀ b o, h.get? b = some o → h'.get? b = some o) : SeqIs h' l vs :=
  x.imp (fun a => a.at fun o e => k _ o e) fun a => a.keeps k
/-- the place that an index tells -/
def idx (k : Int) (n : Nat) : Nat := (if k < 0 then k + n else k).toNat
section
variable {prog : Program} {w : World} {A : Around} {E : Value → Shared → Prop} {s : Shared}
theorem item_seq {value slice : Expr} {l : Addr} {vs : List Value} {k : Int} {u : Tok} {x : Value} {Q : Value → Shared → Prop} (hl : SeqIs s.heap l vs) (h0 : -(vs.length : Int) ≤ k) (h1 : k < (vs.length : Int)) (hn : vs.length < 2 ^ 62)
    (hx : vs[idx k vs.length]? = some x) (h : Q x s)
    (hs : subscripted slice false (.ref l) (.int k u) = operate [.ref l, .int k u] (getItem (.ref l) (.int k u)) := by with_unfolding_all rfl) (hg : ∀ r, letTemporaryGo value (.ref l) r = pure () := by intro _; with_unfolding_all rfl) :
    wpAny (model prog w) A (subscriptTail value slice (.ref l) (.int k u)) Q E s := by
  rcases hl with hl | hl
  · by_cases hk : k < 0
    · unfold idx at hx
      rw [if_pos hk] at hx
      exact subscriptTail_builtin hl.typeIs slot_list_getitem.lookup (wpAny_getItem_list_neg hl hk (by simpa using h0) (by omega) (by simpa using hx) h) hs hg
    · unfold idx at hx
      rw [if_neg hk] at hx
      exact item_listL hl (by omega) (by omega) hx h hs hg
  · refine item_tupleT hl (by omega) (by omega) (j := idx k vs.length) ?_ hx h hs
    unfold seqIndex? idx
    split
    · rename_i hk
      rw [if_pos (by simp only [Bool.and_eq_true, decide_eq_true_eq]; omega)]
    · rename_i hk
      rw [if_pos (by simp only [Bool.and_eq_true, decide_eq_true_eq]; omega)]
theorem idx_lt {k : Int} {n : Nat} (h0 : -(n : Int) ≤ k) (h1 : k < (n : Int)) : idx k n < n := by unfold idx; split <;> omega
theorem item_pt {g : Heap} {value slice : Expr} {l : Addr} {vs : List Value} {ps : List (Int × Int)} {k : Int} {u : Tok} {Q : Value → Shared → Prop} (hl : SeqIs s.heap l vs) (hp : PtsAre g vs ps) (h0 : -(ps.length : Int) ≤ k) (h1 : k < (ps.length : Int)) (hn : ps.length < 2 ^ 62)
    (h : ∀ (a : Addr) t u, vs[idx k vs.length]? = some (.ref a) → IsTup g a #[.int (pat ps (idx k ps.length)).1 t, .int (pat ps (idx k ps.length)).2 u] → -100 < (pat ps (idx k ps.length)).1 → (pat ps (idx k ps.length)).1 < 100 → -100 < (pat ps (idx k ps.length)).2 → (pat ps (idx k ps.length)).2 < 100 → Q (.ref a) s)
    (hs : subscripted slice false (.ref l) (.int k u) = operate [.ref l, .int k u] (getItem (.ref l) (.int k u)) := by with_unfolding_all rfl) (hg : ∀ r, letTemporaryGo value (.ref l) r = pure () := by intro _; with_unfolding_all rfl) :
    wpAny (model prog w) A (subscriptTail value slice (.ref l) (.int k u)) Q E s := by
  have e := hp.length
  have hlt : idx k vs.length < vs.length := idx_lt (by omega) (by omega)
  obtain ⟨p, q1, ⟨a, t, u, e2, q2⟩, q3, q4⟩ := hp.get (idx k vs.length) _ (List.getElem?_eq_getElem hlt)
  refine item_seq hl (by omega) (by omega) (by omega) (List.getElem?_eq_getElem hlt) ?_ hs hg
  have q0 := List.getElem?_eq_getElem hlt
  rw [e2] at q0
  rw [e2]
  rw [e] at q1
  have e3 := pat_get q1
  rw [← e3] at q2 q3 q4
  exact h a t u q0 q2 (by omega) (by omega) (by omega) (by omega)
theorem len_seq {l : Addr} {vs : List Value} {Q : Value → Shared → Prop} (hl : SeqIs s.heap l vs) (hn : vs.length < 2 ^ 62) (h : ∀ t tk, Q (.int (vs.length : Nat) t) { s with toks := tk }) : wpAny (model prog w) A (call (.builtin "len") [.ref l]) Q E s := by
  rcases hl with hl | hl
  · refine Calls.call_len_list hl (by simp; omega) ?_
    have := h (s.toks + 1) (s.toks + 1 + 1)
    simpa using this
  · refine len_tuple hl (by simp; omega) ?_
    have := h (s.toks + 1) (s.toks + 1 + 1)
    simpa using this
end
section
variable {prog : Program} {w : World} {A : Around} {E : Value → Shared → Prop} {s : Shared} {env : Env} {h₀ : Heap} {target : Expr} {body : List Stmt} {Q : Flow → Shared → Prop}
theorem iterS {l : Addr} {vs : List Value} {m₀ : Str → Option Value} {news : List (Addr × Obj)} (J : Nat → (Str → Option Value) → List (Addr × Obj) → Prop)
    (hh : A.handled = none) (hl : SeqIs h₀ l vs) (F : Fr h₀ env.locals s.heap m₀) (N : News h₀ env.locals s.heap news) (hj : J 0 m₀ news)
    (turn : ∀ i v m₁ news₁ h tk I it, vs[i]? = some v → J i m₁ news₁ → (∀ p ∈ news₁, p.1 ≠ I) → Fr h₀ env.locals h m₁ → News h₀ env.locals h ((I, it) :: news₁) →
      wpAny (model prog w) A (assign target env v) (fun _ s₁ => wpAny (model prog w) A (execs body env) (TurnZ h₀ env.locals I it (J (i + 1)) s Q) E s₁) E { s with heap := h, toks := tk })
    (done : ∀ m₁ news₁ h tk, J vs.length m₁ news₁ → Fr h₀ env.locals h m₁ → News h₀ env.locals h news₁ → Q .next { s with heap := h, toks := tk }) :
    wpAny (model prog w) A (pyIter (.ref l)) (fun it s₂ => LoopZ prog w A h₀ env target body Q E it s₂) E s :=
  hl.elim (fun a => iterB J hh a F N hj (fun i v m₁ n₁ h tk I it a b c _ => turn i v m₁ n₁ h tk I it a b c) done) (fun a => iterT J hh a F N hj (fun i v m₁ n₁ h tk I it a b c _ => turn i v m₁ n₁ h tk I it a b c) done)
end
theorem rangeSize_0 (n : Nat) : Builtin.Range.rangeSize 0 (n : Int) 1 = (n : Int) := (rangeSize_nat _ _).trans (by omega)
theorem small_0 {n : Nat} (h : n < 100000) : Builtin.Range.small 0 (n : Int) 1 = true := small_one (by omega) (by omega) (by omega) (by omega)
theorem idx_nat {i n : Nat} : idx (i : Int) n = i := by unfold idx; split <;> omega
theorem idx_natI {k : Int} {n : Nat} (h : 0 ≤ k) : idx k n = k.toNat := by unfold idx; split <;> omega
theorem idx_1 (i n : Nat) : idx (1 + (i : Int)) n = 1 + i := by unfold idx; split <;> omega
theorem idx_2 (i n : Nat) : idx (1 + (i : Int) + 1) n = 2 + i := by unfold idx; split <;> omega
theorem idx_0 (n : Nat) : idx 0 n = 0 := rfl
theorem idx_m1 {n : Nat} (h : 0 < n) : idx (-1) n = n - 1 := by unfold idx; rw [if_pos (by decide)]; omega
/-! the plain law of spots -/
def cross (p q : P2) : Int := p.1 * q.2 - p.2 * q.1
def cycUp (ps : List P2) : Nat → Int
  | 0 => 0
  | i + 1 => cycUp ps i + cross (pat ps (idx ((i : Int) - 1) ps.length)) (pat ps i)
def area2 (ps : List P2) : Int := cycUp ps ps.length
def fanUp (ps : List P2) : Nat → Int
  | 0 => 0
  | i + 1 => fanUp ps i + ((pat ps (1 + i)).1 - (pat ps 0).1) * ((pat ps (2 + i)).2 - (pat ps 0).2) - ((pat ps (1 + i)).2 - (pat ps 0).2) * ((pat ps (2 + i)).1 - (pat ps 0).1)
theorem idx_pred {i n : Nat} (h : 0 < i) : idx ((i : Int) - 1) n = i - 1 := by unfold idx; split <;> omega
theorem idx_last {n : Nat} (h : 0 < n) : idx (((0 : Nat) : Int) - 1) n = n - 1 := by unfold idx; split <;> omega
theorem get_pat {ps : List P2} {i : Nat} (h : i < ps.length) : ps[i]? = some (pat ps i) := by unfold pat; rw [List.getD_eq_getElem?_getD, List.getElem?_eq_getElem h]; rfl
theorem cross_self (p : P2) : cross p p = 0 := by unfold cross; rw [Int.mul_comm]; omega
theorem cross_anti (p q : P2) : cross p q = -cross q p := by unfold cross; rw [Int.mul_comm p.1, Int.mul_comm p.2]; omega
theorem tri_eq (o p q : P2) : (p.1 - o.1) * (q.2 - o.2) - (p.2 - o.2) * (q.1 - o.1) = cross p q - cross p o - cross o q := by
  unfold cross
  simp only [Int.sub_mul, Int.mul_sub]
  rw [Int.mul_comm o.1 o.2]
  omega
/-- the sum of triangles about the first spot is the ring's sum -/
theorem fan_step (ps : List P2) : ∀ m : Nat, m + 1 < ps.length → fanUp ps m = cycUp ps (m + 2) - cross (pat ps (ps.length - 1)) (pat ps 0) + cross (pat ps (m + 1)) (pat ps 0)
  | 0, h => by
    have e : idx (((0 + 1 : Nat) : Int) - 1) ps.length = 0 := idx_pred (by omega)
    show (0 : Int) = cycUp ps 0 + cross (pat ps (idx (((0 : Nat) : Int) - 1) ps.length)) (pat ps 0) + cross (pat ps (idx (((0 + 1 : Nat) : Int) - 1) ps.length)) (pat ps (0 + 1)) - _ + _
    rw [e, idx_last (by omega), cross_anti (pat ps 0) (pat ps (0 + 1))]
    show (0 : Int) = 0 + _ + _ - _ + _
    omega
  | m + 1, h => by
    have ih := fan_step ps m (by omega)
    have e : idx (((m + 2 : Nat) : Int) - 1) ps.length = m + 1 := idx_pred (by omega)
    show fanUp ps m + _ - _ = cycUp ps (m + 2) + cross (pat ps (idx (((m + 2 : Nat) : Int) - 1) ps.length)) (pat ps (m + 2)) - _ + _
    rw [e, ih, show 1 + m = m + 1 by omega, show 2 + m = m + 2 by omega, show m + 1 + 1 = m + 2 by omega]
    have t := tri_eq (pat ps 0) (pat ps (m + 1)) (pat ps (m + 2))
    have a := cross_anti (pat ps 0) (pat ps (m + 2))
    omega
theorem fan_eq (ps : List P2) (h : 0 < ps.length) : fanUp ps (ps.length - 2) = area2 ps := by
  unfold area2
  by_cases h1 : ps.length = 1
  · rw [h1]
    show (0 : Int) = 0 + cross (pat ps (idx (((0 : Nat) : Int) - 1) ps.length)) (pat ps 0)
    rw [idx_last h, h1, show (1 : Nat) - 1 = 0 from rfl, cross_self]; rfl
  · have := fan_step ps (ps.length - 2) (by omega)
    rw [show ps.length - 2 + 2 = ps.length by omega, show ps.length - 2 + 1 = ps.length - 1 by omega] at this
    omega
/-- the sum along a chain -/
def chain : List P2 → Int
  | p :: q :: r => cross p q + chain (q :: r)
  | _ => 0
theorem chain_snoc : ∀ (l : List P2) (a b : P2), chain (l ++ [a, b]) = chain (l ++ [a]) + cross a b
  | [], a, b => by simp [chain]
  | [c], a, b => by simp [chain]
  | c :: d :: r, a, b => by
    have := chain_snoc (d :: r) a b
    simp only [List.cons_append, chain] at this ⊢
    omega
theorem chain_rev : ∀ l : List P2, chain l.reverse = -chain l
  | [] => by simp [chain]
  | [a] => by simp [chain]
  | a :: b :: r => by
    have := chain_rev (b :: r)
    rw [List.reverse_cons] at this
    rw [List.reverse_cons, List.reverse_cons, List.append_assoc, List.singleton_append, chain_snoc, this, cross_anti b a]
    simp only [chain]
    omega
theorem cyc_chain (ps : List P2) : ∀ m : Nat, m + 1 ≤ ps.length → cycUp ps (m + 1) = cross (pat ps (ps.length - 1)) (pat ps 0) + chain (ps.take (m + 1))
  | 0, h => by
    show cycUp ps 0 + cross (pat ps (idx (((0 : Nat) : Int) - 1) ps.length)) (pat ps 0) = _
    rw [idx_last (by omega)]
    have : chain (ps.take (0 + 1)) = 0 := by
      cases ps with
      | nil => rfl
      | cons p r => rfl
    rw [this]
    show (0 : Int) + _ = _ + 0
    omega
  | m + 1, h => by
    have ih := cyc_chain ps m (by omega)
    show cycUp ps (m + 1) + cross (pat ps (idx (((m + 1 : Nat) : Int) - 1) ps.length)) (pat ps (m + 1)) = _
    rw [ih, idx_pred (by omega), show m + 1 - 1 = m by omega]
    have e1 : ps.take (m + 1) = ps.take m ++ [pat ps m] := by rw [List.take_add_one, get_pat (by omega)]; rfl
    have e2 : ps.take (m + 1 + 1) = ps.take m ++ [pat ps m, pat ps (m + 1)] := by rw [List.take_add_one, get_pat (by omega), e1, List.append_assoc]; rfl
    rw [e2, chain_snoc, ← e1]
    omega
theorem area2_chain (ps : List P2) (h : 0 < ps.length) : area2 ps = cross (pat ps (ps.length - 1)) (pat ps 0) + chain ps := by
  have := cyc_chain ps (ps.length - 1) (by omega)
  rw [show ps.length - 1 + 1 = ps.length by omega, List.take_length] at this
  exact this
theorem area2_nil : area2 [] = 0 := rfl
theorem pat_rev {ps : List P2} {i : Nat} (h : i < ps.length) : pat ps.reverse i = pat ps (ps.length - 1 - i) := by
  unfold pat
  rw [List.getD_eq_getElem?_getD, List.getD_eq_getElem?_getD, List.getElem?_reverse h]
theorem area2_rev (ps : List P2) : area2 ps.reverse = -area2 ps := by
  by_cases h : 0 < ps.length
  · rw [area2_chain _ (by rw [List.length_reverse]; exact h), area2_chain ps h, chain_rev, List.length_reverse, pat_rev (by omega), pat_rev (by omega), cross_anti]
    rw [show ps.length - 1 - (ps.length - 1) = 0 by omega, Nat.sub_zero]
    omega
  · have : ps = [] := List.length_eq_zero_iff.mp (by omega)
    subst this
    rfl
/-- without like neighbours -/
def NoAdj : List P2 → Prop
  | p :: q :: r => p ≠ q ∧ NoAdj (q :: r)
  | _ => True
theorem noAdj_snoc : ∀ (l : List P2) (p : P2), NoAdj (l ++ [p]) ↔ NoAdj l ∧ l.getLast? ≠ some p
  | [], p => by simp [NoAdj]
  | [a], p => by simp [NoAdj]
  | a :: b :: r, p => by
    have := noAdj_snoc (b :: r) p
    simp only [List.cons_append, NoAdj] at this ⊢
    rw [this, List.getLast?_cons_cons, and_assoc]
theorem noAdj_dropLast (l : List P2) (h : NoAdj l) : NoAdj l.dropLast := by
  by_cases hl : l = []
  · subst hl; exact h
  · have e := List.dropLast_concat_getLast hl
    rw [← e] at h
    exact ((noAdj_snoc _ _).mp h).1
theorem noAdj_rev : ∀ l : List P2, NoAdj l → NoAdj l.reverse
  | [], h => h
  | [a], _ => by simp [NoAdj]
  | a :: b :: r, h => by
    rw [List.reverse_cons]
    refine (noAdj_snoc _ _).mpr ⟨noAdj_rev (b :: r) h.2, ?_⟩
    rw [List.getLast?_reverse]
    simp only [List.head?_cons, ne_eq, Option.some.injEq]
    exact fun e => h.1 e.symm
def ddStep (acc : List P2) (p : P2) : List P2 := if acc.getLast? = some p then acc else acc ++ [p]
def dedup (ps : List P2) : List P2 := ps.foldl ddStep []
theorem ddStep_noAdj {acc : List P2} (h : NoAdj acc) (p : P2) : NoAdj (ddStep acc p) := by
  unfold ddStep
  split
  · exact h
  · exact (noAdj_snoc _ _).mpr ⟨h, by assumption⟩
theorem foldl_noAdj : ∀ (ps acc : List P2), NoAdj acc → NoAdj (ps.foldl ddStep acc)
  | [], _, h => h
  | p :: r, _, h => foldl_noAdj r _ (ddStep_noAdj h p)
theorem dedup_noAdj (ps : List P2) : NoAdj (dedup ps) := foldl_noAdj ps [] trivial
theorem noAdj_left : ∀ (a b : List P2), NoAdj (a ++ b) → NoAdj a
  | [], _, _ => trivial
  | [_], _, _ => trivial
  | _ :: y :: r, b, h => ⟨h.1, noAdj_left (y :: r) b h.2⟩
theorem foldl_of_noAdj : ∀ (ps acc : List P2), NoAdj (acc ++ ps) → ps.foldl ddStep acc = acc ++ ps
  | [], _, _ => by simp
  | p :: r, acc, h => by
    have e : acc ++ p :: r = (acc ++ [p]) ++ r := by simp
    rw [e] at h
    have h2 := ((noAdj_snoc _ _).mp (noAdj_left _ _ h)).2
    rw [List.foldl_cons, e]
    have e2 : ddStep acc p = acc ++ [p] := by unfold ddStep; rw [if_neg h2]
    rw [e2]
    exact foldl_of_noAdj r _ h
theorem dedup_of_noAdj {ps : List P2} (h : NoAdj ps) : dedup ps = ps := foldl_of_noAdj ps [] h
theorem ddStep_ne (acc : List P2) (p : P2) : ddStep acc p ≠ [] := by
  unfold ddStep
  split
  · rename_i h; intro e; rw [e] at h; cases h
  · simp
theorem ddStep_last (acc : List P2) (p : P2) : (ddStep acc p).getLast? = some p := by
  unfold ddStep
  split
  · assumption
  · simp
theorem ddUp_last {ps : List P2} {i : Nat} (h : i < ps.length) : ((ps.take (i + 1)).foldl ddStep []).getLast? = some (pat ps i) := by
  rw [List.take_add_one, get_pat h]
  simp only [Option.toList_some, List.foldl_append, List.foldl_cons, List.foldl_nil]
  exact ddStep_last _ _
theorem dedup_ne {ps : List P2} (h : ps ≠ []) : dedup ps ≠ [] := by
  have hl : 0 < ps.length := List.length_pos_iff.mpr h
  have := ddUp_last (ps := ps) (i := ps.length - 1) (by omega)
  rw [show ps.length - 1 + 1 = ps.length by omega, List.take_length] at this
  intro e
  unfold dedup at e
  rw [e] at this
  cases this
/-- the ring's end -/
def trim (l : List P2) : List P2 := if 1 < l.length ∧ l.getLast? = l.head? then trim l.dropLast else l
termination_by l.length
decreasing_by simp_wf; omega
theorem trim_go {l : List P2} (h : 1 < l.length) (e : l.getLast? = l.head?) : trim l = trim l.dropLast := by
  rw [trim, if_pos ⟨h, e⟩]
theorem trim_stay {l : List P2} (h : ¬ (1 < l.length ∧ l.getLast? = l.head?)) : trim l = l := by
  rw [trim, if_neg h]
theorem trim_facts : ∀ (n : Nat) (l : List P2), l.length = n → l ≠ [] → NoAdj l → NoAdj (trim l) ∧ trim l ≠ [] ∧ ¬ (1 < (trim l).length ∧ (trim l).getLast? = (trim l).head?) := by
  intro n
  induction n with
  | zero => intro l h hne; exact absurd (List.length_eq_zero_iff.mp h) hne
  | succ n ih =>
    intro l h hne hn
    by_cases c : 1 < l.length ∧ l.getLast? = l.head?
    · rw [trim_go c.1 c.2]
      refine ih _ (by rw [List.length_dropLast]; omega) (fun e => ?_) (noAdj_dropLast l hn)
      have := congrArg List.length e
      rw [List.length_dropLast] at this
      simp only [List.length_nil] at this
      omega
    · rw [trim_stay c]
      exact ⟨hn, hne, c⟩
def sensed (ps : List P2) : Option (List P2) :=
  if area2 (trim (dedup ps)) = 0 then none else some (if 0 < area2 (trim (dedup ps)) then trim (dedup ps) else (trim (dedup ps)).reverse)
/-- what is told stays as it is, with an area above 0 -/
theorem sensed_again {ps q : List P2} (hps : ps ≠ []) (h : sensed ps = some q) : 0 < area2 q ∧ sensed q = some q := by
  obtain ⟨h1, h2, h3⟩ := trim_facts _ (dedup ps) rfl (dedup_ne hps) (dedup_noAdj ps)
  unfold sensed at h
  split at h
  · cases h
  · rename_i hz
    split at h
    · rename_i hp
      have e := Option.some.inj h
      subst e
      refine ⟨hp, ?_⟩
      unfold sensed
      rw [dedup_of_noAdj h1, trim_stay h3, if_neg hz, if_pos hp]
    · rename_i hp
      have e := Option.some.inj h
      subst e
      have ha := area2_rev (trim (dedup ps))
      have h3' : ¬ (1 < (trim (dedup ps)).reverse.length ∧ (trim (dedup ps)).reverse.getLast? = (trim (dedup ps)).reverse.head?) := by
        rw [List.length_reverse, List.getLast?_reverse, List.head?_reverse]
        exact fun e => h3 ⟨e.1, e.2.symm⟩
      refine ⟨by omega, ?_⟩
      unfold sensed
      rw [dedup_of_noAdj (noAdj_rev _ h1), trim_stay h3', if_neg (by omega), if_pos (by omega)]
/-- the law's own choice of spots -/
def ddcUp (ps : List P2) : Nat → List P2
  | 0 => []
  | i + 1 => if i = 0 ∨ pat ps i ≠ pat ps (idx ((i : Int) - 1) ps.length) then ddcUp ps i ++ [pat ps i] else ddcUp ps i
theorem ddcUp_eq (ps : List P2) : ∀ i : Nat, i ≤ ps.length → ddcUp ps i = (ps.take i).foldl ddStep []
  | 0, _ => by simp [ddcUp]
  | i + 1, h => by
    have ih := ddcUp_eq ps i (by omega)
    have e : (ps.take (i + 1)).foldl ddStep [] = ddStep ((ps.take i).foldl ddStep []) (pat ps i) := by
      rw [List.take_add_one, get_pat (by omega)]
      simp only [Option.toList_some, List.foldl_append, List.foldl_cons, List.foldl_nil]
    rw [e, ← ih]
    show (if i = 0 ∨ pat ps i ≠ pat ps (idx ((i : Int) - 1) ps.length) then ddcUp ps i ++ [pat ps i] else ddcUp ps i) = ddStep (ddcUp ps i) (pat ps i)
    by_cases hi : i = 0
    · subst hi
      rw [if_pos (.inl rfl)]
      simp [ddStep, ddcUp]
    · have hl := ddUp_last (ps := ps) (i := i - 1) (by omega)
      rw [show i - 1 + 1 = i by omega, ← ih] at hl
      rw [idx_pred (by omega)]
      unfold ddStep
      rw [hl]
      by_cases q : pat ps i = pat ps (i - 1)
      · rw [if_neg (by rintro (a | a); exact hi a; exact a q), if_pos (by rw [q])]
      · rw [if_pos (.inr q), if_neg (fun z => q (Option.some.inj z).symm)]
local macro_rules | `(tactic| walk_at "subscriptTail Name BinOp ref int") => `(tactic| walk_at "subscriptTail")
local macro_rules | `(tactic| walk_at "subscriptTail Name Name ref int") => `(tactic| walk_at "subscriptTail")
local macro_rules | `(tactic| walk_at "subscriptTail Name Constant ref int") => `(tactic| walk_at "subscriptTail")
local macro_rules | `(tactic| walk_at "exec For Name Call cons nil") => `(tactic| (k_here; (rename StopAt 3 => mk9); (rename Fr _ _ _ _ => lF'); (with_unfolding_all refine forZ lF' ?_)))
local macro_rules | `(tactic| walk_at "exec For Name Name cons nil") => `(tactic| (k_here; (rename StopAt 3 => mk9); (rename Fr _ _ _ _ => lF'); (with_unfolding_all refine forZ lF' ?_)))
local macro_rules | `(tactic| walk_at "subscriptTail") => `(tactic| ((with_reducible show wpAny _ _ (subscriptTail _ _ (Value.ref _) (Value.int _ _)) _ _ _); k_dflt (refine' item_pt ?S ?P ?a ?b ?n ?_ ?s ?g; (case S => first | assumption | exact SeqIs.keeps (by assumption) (Fr.keep (by assumption))); (case P => assumption); (case a => omega); (case b => omega); (case n => omega); (case s => with_unfolding_all rfl); (case g => intro _; with_unfolding_all rfl); k_whole); intro a9 t9 u9 q9 T9 bx9 bx8 by9 by8))
local macro_rules | `(tactic| walk_at "call builtin:len") => `(tactic| (k_here; (with_reducible show wpAny _ _ (call (Value.builtin "len") [Value.ref _]) _ _ _); k_dflt (refine' len_seq ?S ?n ?_; (case S => first | assumption | exact SeqIs.keeps (by assumption) (Fr.keep (by assumption))); (case n => omega); k_whole); intro t9 tk9; (try dsimp only)))
section
variable {w : World} {p : Program} {loose : List Str} {mean : ExcName → Option Value} {mg mb : Str → Option Value} {news : List (Addr × Obj)}
theorem area_spec {l : Addr} {vs : List Value} {ps : List P2} (hn : ps.length < 1000) :
    SpecA w p loose mean mg mb 109 2 [.ref l] (fun h => SeqIs h l vs ∧ PtsAre h vs ps) (fun r nx => (∃ t, r = .int (area2 ps) t) ∧ nx = []) := by
  w_top off
  unfold SpecA
  k_fill
  intro dp un gd cn cs a ccd cl outer A₀ base h₀ L m s Q E B F X N T hk hd hu hpre hret
  obtain ⟨hS, hP⟩ := hpre
  have hlen := hP.length
  refine wpAny_call ?_
  k_dflt (refine' enterZ ?k1 ?k2 ?k3 ?k5 ?kA ?kF ?kK ?k6 ?k7 ?k8 ?k9 ?kB ?_ ?c2 ?c3 ?c4 ?c5; (case kA => exact rfl); (case kF => exact rfl); (case kK => assumption); (case k1 => k_asm); (case k2 => k_asm); (case k3 => k_asm); (case k5 => k_asm); (case k6 => k_is); (case k7 => k_is); (case k8 => ktr_room); (case k9 => exact BindsTo.of_eq rfl); (case c5 => decide); (case kB => exact locs rfl); (case c2 => exact rfl); (case c3 => exact rfl); (case c4 => exact rfl); k_whole; intro L' h' F' N' B' X' T'; (try dsimp only); (try k_fold); (refine foldA ?_); intro ak)
  have mk := StopAt.mark (n := 3) trivial
  (repeat' (first | (k_unfold; (try dsimp only)) | (k_end; kc_close) | ((first | (with_reducible show wpAny _ _ (exec _ _) _ _ _) | (with_reducible show wpAny _ _ (eval (PySem.Expr.BinOp _ _ _ _) _) _ _ _) | (with_reducible show wpAny _ _ (eval (PySem.Expr.Call _ _ _ _) _) _ _ _)); k_fold) | walk1 | (dsimp only; walk1) | (leave1; walk_say "STEP leave1"; (try dsimp only)) | fail "no step"))
  rename_i R1 F1 N1 _
  refine iterR (fun i m nx => nx = [] ∧ ∃ t, ∀ p ∈ [(Str.ofString "spots", Value.ref l), (Str.ofString "found", Value.int (cycUp ps i) t)], m p.1 = some p.2) (by rfl) R1 (small_0 (by omega)) (rangeSize_0 _) F1 N1 ⟨rfl, _, by kst_all⟩ ?turn ?done
  case turn =>
    clear R1 F1 N1
    rintro i ti m₁ _ h tk I it hi ⟨rfl, t, hm⟩ hoff hit F2 N2
    replace F2 := frB _ F2 hm
    dsimp only [kstB] at F2
    (((iterate 2 (first | walk1 | (dsimp only; walk1))); k_fold))
    (repeat' (first | (k_unfold; (try dsimp only)) | (k_end; kc_close) | ((first | (with_reducible show wpAny _ _ (exec _ _) _ _ _) | (with_reducible show wpAny _ _ (eval (PySem.Expr.BinOp _ _ _ _) _) _ _ _) | (with_reducible show wpAny _ _ (eval (PySem.Expr.Call _ _ _ _) _) _ _ _)); k_fold) | walk1 | (dsimp only; walk1) | (leave1; walk_say "STEP leave1"; (try dsimp only)) | fail "no step"))
    rename_i F3 N3
    have e : cycUp ps i + ((pat ps (idx (0 + (i : Int) - 1) ps.length)).1 * (pat ps (idx (0 + (i : Int)) ps.length)).2 - (pat ps (idx (0 + (i : Int) - 1) ps.length)).2 * (pat ps (idx (0 + (i : Int)) ps.length)).1) = cycUp ps (i + 1) := by
      rw [Int.zero_add, idx_nat]; rfl
    rw [e] at F3
    refine turnZ_next F3 N3 [] (by lcg_sub) (fun _ h => nomatch h) ⟨rfl, ?tt, ?m⟩
    case m => kst_all
  case done =>
    clear R1 F1 N1
    rintro m₁ _ h tk ⟨rfl, t, hm⟩ F2 N2
    replace F2 := frB _ F2 hm
    dsimp only [kstB] at F2
    (repeat' (first | (k_unfold; (try dsimp only)) | (k_end; kc_close) | ((first | (with_reducible show wpAny _ _ (exec _ _) _ _ _) | (with_reducible show wpAny _ _ (eval (PySem.Expr.BinOp _ _ _ _) _) _ _ _) | (with_reducible show wpAny _ _ (eval (PySem.Expr.Call _ _ _ _) _) _ _ _)); k_fold) | walk1 | (dsimp only; walk1) | (leave1; walk_say "STEP leave1"; (try dsimp only)) | fail "no step"))
    rw [hlen]
    exact finA hret (by assumption) (by assumption) (by assumption) (by assumption) ⟨⟨_, rfl⟩, rfl⟩ (by lcg_sub) (by lcg_sub)
end
section
variable {w : World} {p : Program} {loose : List Str} {mean : ExcName → Option Value} {mg mb : Str → Option Value} {news : List (Addr × Obj)}
theorem lawArea_spec {l : Addr} {vs : List Value} {ps : List P2} (h0 : 0 < ps.length) (hn : ps.length < 1000) :
    SpecA w p loose mean mg mb 173 2 [.ref l] (fun h => SeqIs h l vs ∧ PtsAre h vs ps) (fun r nx => (∃ t, r = .int (fanUp ps (ps.length - 2)) t) ∧ nx = []) := by
  w_top off
  unfold SpecA
  k_fill
  intro dp un gd cn cs a ccd cl outer A₀ base h₀ L m s Q E B F X N T hk hd hu hpre hret
  obtain ⟨hS, hP⟩ := hpre
  have hlen := hP.length
  refine wpAny_call ?_
  k_dflt (refine' enterZ ?k1 ?k2 ?k3 ?k5 ?kA ?kF ?kK ?k6 ?k7 ?k8 ?k9 ?kB ?_ ?c2 ?c3 ?c4 ?c5; (case kA => exact rfl); (case kF => exact rfl); (case kK => assumption); (case k1 => k_asm); (case k2 => k_asm); (case k3 => k_asm); (case k5 => k_asm); (case k6 => k_is); (case k7 => k_is); (case k8 => ktr_room); (case k9 => exact BindsTo.of_eq rfl); (case c5 => decide); (case kB => exact locs rfl); (case c2 => exact rfl); (case c3 => exact rfl); (case c4 => exact rfl); k_whole; intro L' h' F' N' B' X' T'; (try dsimp only); (try k_fold); (refine foldA ?_); intro ak)
  have mk := StopAt.mark (n := 3) trivial
  (repeat' (first | (k_unfold; (try dsimp only)) | (k_end; kc_close) | ((first | (with_reducible show wpAny _ _ (exec _ _) _ _ _) | (with_reducible show wpAny _ _ (eval (PySem.Expr.BinOp _ _ _ _) _) _ _ _) | (with_reducible show wpAny _ _ (eval (PySem.Expr.Call _ _ _ _) _) _ _ _)); k_fold) | walk1 | (dsimp only; walk1) | (leave1; walk_say "STEP leave1"; (try dsimp only)) | fail "no step"))
  rename_i R1 F1 N1 _
  refine iterR (n := ps.length - 2) (fun i m nx => nx = [] ∧ ∃ t, ∀ p ∈ [(Str.ofString "spots", Value.ref l), (Str.ofString "found", Value.int (fanUp ps i) t)], m p.1 = some p.2) (by rfl) R1 (small_one (by omega) (by omega) (by omega) (by omega)) ((rangeSize_nat _ _).trans (by omega)) F1 N1 ⟨rfl, _, by kst_all⟩ ?turn ?done
  case turn =>
    clear R1 F1 N1
    rintro i ti m₁ _ h tk I it hi ⟨rfl, t, hm⟩ hoff hit F2 N2
    replace F2 := frB _ F2 hm
    dsimp only [kstB] at F2
    (((iterate 2 (first | walk1 | (dsimp only; walk1))); k_fold))
    (repeat' (first | (k_unfold; (try dsimp only)) | (k_end; kc_close) | ((first | (with_reducible show wpAny _ _ (exec _ _) _ _ _) | (with_reducible show wpAny _ _ (eval (PySem.Expr.BinOp _ _ _ _) _) _ _ _) | (with_reducible show wpAny _ _ (eval (PySem.Expr.Call _ _ _ _) _) _ _ _)); k_fold) | walk1 | (dsimp only; walk1) | (leave1; walk_say "STEP leave1"; (try dsimp only)) | fail "no step"))
    rename_i F3 N3
    simp only [idx_1, idx_2, idx_0] at F3
    have e : fanUp ps i + ((pat ps (1 + i)).1 - (pat ps 0).1) * ((pat ps (2 + i)).2 - (pat ps 0).2) - ((pat ps (1 + i)).2 - (pat ps 0).2) * ((pat ps (2 + i)).1 - (pat ps 0).1) = fanUp ps (i + 1) := rfl
    simp only [e] at F3
    refine turnZ_next F3 N3 [] (by lcg_sub) (fun _ h => nomatch h) ⟨rfl, ?tt, ?m⟩
    case m => kst_all
  case done =>
    clear R1 F1 N1
    rintro m₁ _ h tk ⟨rfl, t, hm⟩ F2 N2
    replace F2 := frB _ F2 hm
    dsimp only [kstB] at F2
    (repeat' (first | (k_unfold; (try dsimp only)) | (k_end; kc_close) | ((first | (with_reducible show wpAny _ _ (exec _ _) _ _ _) | (with_reducible show wpAny _ _ (eval (PySem.Expr.BinOp _ _ _ _) _) _ _ _) | (with_reducible show wpAny _ _ (eval (PySem.Expr.Call _ _ _ _) _) _ _ _)); k_fold) | walk1 | (dsimp only; walk1) | (leave1; walk_say "STEP leave1"; (try dsimp only)) | fail "no step"))
    exact finA hret (by assumption) (by assumption) (by assumption) (by assumption) ⟨⟨_, rfl⟩, rfl⟩ (by lcg_sub) (by lcg_sub)
end
def pdat (p : P2) : PyData := .tuple [.int p.1, .int p.2]
theorem PtsAre.reads {h : Heap} : ∀ {vs : List Value} {ps : List P2}, PtsAre h vs ps → ∃ as, ReadsAll h vs (ps.map pdat) as
  | [], [], _ => ⟨_, .nil⟩
  | v :: vs, p :: ps, ⟨⟨⟨a, t, u, e, o, h1, h2, n, h3⟩, _⟩, r⟩ => by
    subst e
    obtain ⟨as, h4⟩ := PtsAre.reads r
    exact ⟨_, .cons (.tuple h1 h2 h3 (.cons (.int _ _) (.cons (.int _ _) .nil))) h4⟩
  | [], _ :: _, x => x.elim
  | _ :: _, [], x => x.elim
theorem pdat_lay : ∀ ps : List P2, PyData.canLayAll0 (ps.map pdat) = true
  | [] => rfl
  | p :: r => by simp [PyData.canLayAll0, PyData.canLay0, pdat, pdat_lay r]
theorem pdat_depth : ∀ ps : List P2, PyData.depthAll (ps.map pdat) ≤ 2
  | [] => Nat.zero_le _
  | p :: r => by
    have := pdat_depth r
    simp [PyData.depthAll, PyData.depth, pdat]
    omega
theorem eqv_pdat (p q : P2) : PyData.eqv (pdat p) (pdat q) = decide (p = q) := by
  obtain ⟨a, b⟩ := p
  obtain ⟨c, d⟩ := q
  by_cases h : a = c <;> by_cases h' : b = d <;> simp [pdat, PyData.eqv, PyData.eqvAll, h, h']
theorem eqvAll_pdat : ∀ ps qs : List P2, PyData.eqvAll (ps.map pdat) (qs.map pdat) = decide (ps = qs)
  | [], [] => by simp [PyData.eqvAll]
  | [], _ :: _ => by simp [PyData.eqvAll]
  | _ :: _, [] => by simp [PyData.eqvAll]
  | a :: r, b :: t => by
    simp only [List.map_cons, PyData.eqvAll, eqv_pdat, eqvAll_pdat r t]
    by_cases h : a = b <;> by_cases h' : r = t <;> simp [h, h']
theorem pdat_shaped (p : P2) : SeqAt.shaped (pdat p) = true := by simp [SeqAt.shaped, pdat, PyData.canLay0, PyData.canLayAll0, PyData.depth, PyData.depthAll]
theorem pdats_shapedT (ps : List P2) : SeqAt.shaped (.tuple (ps.map pdat)) = true := by
  have := pdat_depth ps
  simp [SeqAt.shaped, PyData.canLay0, PyData.depth, pdat_lay]
  omega
theorem pdats_shapedL (ps : List P2) : SeqAt.shaped (.list (ps.map pdat)) = true := by
  have := pdat_depth ps
  simp [SeqAt.shaped, PyData.canLay0, PyData.depth, pdat_lay]
  omega
section
variable {prog : Program} {w : World} {A : Around} {E : Value → Shared → Prop} {s : Shared} {Q : Value → Shared → Prop} {a b : Addr} {p q : P2} {vs ws : List Value} {ps qs : List P2}
theorem read_pt {h : Heap} {x : Int} {y : Int} {t u : Tok} (ha : IsTup h a #[.int x t, .int y u]) : Reads h (.ref a) (pdat (x, y)) [] := by
  obtain ⟨o, h1, h2, n, h3⟩ := ha
  exact .tuple h1 h2 h3 (.cons (.int _ _) (.cons (.int _ _) .nil))
theorem eq_pt {x y x' y' : Int} {t u t' u' : Tok} (ha : IsTup s.heap a #[.int x t, .int y u]) (hb : IsTup s.heap b #[.int x' t', .int y' u']) (hu : A.units + 64 < cLine) (h : Q (.bool (decide ((x, y) = (x', y')))) s) : wpAny (model prog w) A (compareOp .Eq (.ref a) (.ref b)) Q E s :=
  eq_dataH (read_pt ha) (read_pt hb) (pdat_shaped _) (pdat_shaped _) hu (by rw [eqv_pdat]; exact h)
theorem ne_pt {x y x' y' : Int} {t u t' u' : Tok} (ha : IsTup s.heap a #[.int x t, .int y u]) (hb : IsTup s.heap b #[.int x' t', .int y' u']) (hu : A.units + 64 < cLine) (h : Q (.bool (!decide ((x, y) = (x', y')))) s) : wpAny (model prog w) A (compareOp .NotEq (.ref a) (.ref b)) Q E s :=
  ne_dataH (read_pt ha) (read_pt hb) (pdat_shaped _) (pdat_shaped _) hu (by rw [eqv_pdat]; exact h)
theorem eq_nil (ha : s.heap.IsList a vs.toArray) (hb : s.heap.IsList b #[]) (hp : PtsAre s.heap vs ps) (hu : A.units + 64 < cLine) (h : Q (.bool (decide (ps.length = 0))) s) : wpAny (model prog w) A (compareOp .Eq (.ref a) (.ref b)) Q E s := by
  obtain ⟨as, ra⟩ := hp.reads
  obtain ⟨o, h1, h2, n, h3⟩ := ha
  obtain ⟨o', h1', h2', n', h3'⟩ := hb
  refine eq_dataH (.list h1 h2 h3 ra) (.list (xs := []) h1' h2' h3' .nil) (pdats_shapedL ps) (by decide) hu ?_
  have e : PyData.eqv (.list (ps.map pdat)) (.list []) = decide (ps.length = 0) := by
    rw [PyData.eqv, show ([] : List PyData) = ([] : List P2).map pdat from rfl, eqvAll_pdat]
    cases ps <;> simp
  rw [e]; exact h
theorem eq_tups (ha : IsTup s.heap a vs.toArray) (hb : IsTup s.heap b ws.toArray) (hp : PtsAre s.heap vs ps) (hq : PtsAre s.heap ws qs) (hu : A.units + 64 < cLine) (h : Q (.bool (decide (ps = qs))) s) : wpAny (model prog w) A (compareOp .Eq (.ref a) (.ref b)) Q E s := by
  obtain ⟨as, ra⟩ := hp.reads
  obtain ⟨bs, rb⟩ := hq.reads
  obtain ⟨o, h1, h2, n, h3⟩ := ha
  obtain ⟨o', h1', h2', n', h3'⟩ := hb
  exact eq_dataH (.tuple h1 h2 h3 ra) (.tuple h1' h2' h3' rb) (pdats_shapedT ps) (pdats_shapedT qs) hu (by rw [PyData.eqv, eqvAll_pdat]; exact h)
theorem ne_tups (ha : IsTup s.heap a vs.toArray) (hb : IsTup s.heap b ws.toArray) (hp : PtsAre s.heap vs ps) (hq : PtsAre s.heap ws qs) (hu : A.units + 64 < cLine) (h : Q (.bool (!decide (ps = qs))) s) : wpAny (model prog w) A (compareOp .NotEq (.ref a) (.ref b)) Q E s := by
  obtain ⟨as, ra⟩ := hp.reads
  obtain ⟨bs, rb⟩ := hq.reads
  obtain ⟨o, h1, h2, n, h3⟩ := ha
  obtain ⟨o', h1', h2', n', h3'⟩ := hb
  exact ne_dataH (.tuple h1 h2 h3 ra) (.tuple h1' h2' h3' rb) (pdats_shapedT ps) (pdats_shapedT qs) hu (by rw [PyData.eqv, eqvAll_pdat]; exact h)
end
section
variable {prog : Program} {w : World} {A : Around} {E : Value → Shared → Prop} {s : Shared} {h₀ : Heap} {L D : Addr} {m : Str → Option Value} {news news' : List (Addr × Obj)} {n : Nat} {us : List Value} {Q : Value → Shared → Prop}
theorem SeqIs.newsL {h : Heap} (N : News h₀ L h news) (hm : (D, listOf us.toArray n) ∈ news) : SeqIs h D us := .inl (News.isList N hm)
theorem SeqIs.newsT {h : Heap} (N : News h₀ L h news) (hm : (D, { cls := .type "tuple", data := .seq us.toArray n }) ∈ news) : SeqIs h D us := .inr (News.isTup N hm)
theorem append_L {x : Value} (F : Fr h₀ L s.heap m) (N : News h₀ L s.heap news) (U : Upd D (listOf us.toArray n) (listOf (us ++ [x]).toArray (n + 1)) news news') (hz : us.length < 2000)
    (h : ∀ h', Fr h₀ L h' m → News h₀ L h' news' → Q .none { s with heap := h' }) : wpAny (model prog w) A (call (.builtin "list.append") [.ref D, x]) Q E s := by
  rw [← List.push_toArray] at U
  exact append_K F N U h (by rw [sizeLine_eq, List.size_toArray]; omega)
theorem last_get {vs : List Value} {x : Value} (h : vs.dropLast ++ [x] = vs) : kl_last vs.toArray.toList = some (vs.dropLast, x) := by
  have := kpa_last x vs.dropLast
  rw [h] at this
  exact this
theorem pop_L {vs : List Value} (F : Fr h₀ L s.heap m) (N : News h₀ L s.heap news) (U : Upd D (listOf vs.toArray n) (listOf vs.dropLast.toArray (n + 1)) news news') (h0 : 0 < vs.length) (hz : vs.length < 2000)
    (h : ∀ v h', Fr h₀ L h' m → News h₀ L h' news' → Q v { s with heap := h' }) : wpAny (model prog w) A (call (.builtin "list.pop") [.ref D]) Q E s := by
  have hne : vs ≠ [] := List.length_pos_iff.mp h0
  have e := List.dropLast_concat_getLast hne
  exact kl_pop F N (p := vs.dropLast) (y := vs.getLast hne) (last_get e) U (by rw [sizeLine_eq]; simp; omega) fun h' F' N' => h _ h' F' N'
theorem tupleOf_L {l : Addr} {vs : List Value} (F : Fr h₀ L s.heap m) (N : News h₀ L s.heap news) (hl : s.heap.IsList l vs.toArray) (hz : vs.length < 2000)
    (h : ∀ D h', Fr h₀ L h' m → News h₀ L h' ((D, ({ cls := .type "tuple", data := .seq vs.toArray } : Obj)) :: news) → (∀ p ∈ news, p.1 < D) → Q (.ref D) { s with heap := h' }) : wpAny (model prog w) A (call (.type "tuple") [.ref l]) Q E s :=
  kde_tupleOf F N hl (by simp; omega) rfl h
theorem rev_L {value slice : PySem.Expr} {l : Addr} {vs : List Value} {vk : Value} {ops : List Value} (F : Fr h₀ L s.heap m) (N : News h₀ L s.heap news) (hl : s.heap.IsList l vs.toArray) (pk : IsPart vk (some (-1))) (hz : vs.length < 2000)
    (h : ∀ D h', Fr h₀ L h' m → News h₀ L h' ((D, listOf vs.reverse.toArray 0) :: news) → (∀ p ∈ news, p.1 < D) → Q (.ref D) { s with heap := h' })
    (hs : subscripted slice false (.ref l) (.ref s.heap.objs.size) = operate ops (getItem (.ref l) (.ref s.heap.objs.size))) (ht : ∀ r, letTemporaryGo value (.ref l) r = pure ()) :
    wpAny (model prog w) A (subscriptTail value slice (.ref l) (.ref s.heap.objs.size)) Q E { s with heap := s.heap.push { cls := .type "slice", data := .fields #[.none, .none, vk] } } :=
  krv_lit (its := vs.toArray) (zs := vs.reverse) F N hl pk rfl h hs ht (by rw [sizeLine_eq, List.size_toArray]; omega)
end
theorem PtsAre.dropLast {h : Heap} {us : List Value} {qs : List P2} (x : PtsAre h us qs) : PtsAre h us.dropLast qs.dropLast := by
  rw [List.dropLast_eq_take, List.dropLast_eq_take, ← x.length]
  exact x.take _
theorem pat_last {qs : List P2} : qs.getLast? = if qs.length = 0 then none else some (pat qs (qs.length - 1)) := by
  split
  · have : qs = [] := List.length_eq_zero_iff.mp (by assumption)
    subst this; rfl
  · rw [List.getLast?_eq_getElem?, get_pat (by omega)]
theorem pat_head {qs : List P2} (h : 0 < qs.length) : qs.head? = some (pat qs 0) := by
  rw [List.head?_eq_getElem?, get_pat h]
/-- a spot is added, or not -/
theorem dd_add {qs : List P2} {p : P2} (h : qs.length = 0 ∨ ¬ p = pat qs (qs.length - 1)) : ddStep qs p = qs ++ [p] := by
  unfold ddStep
  rw [pat_last]
  by_cases h0 : qs.length = 0
  · rw [if_pos h0, if_neg (by intro e; cases e)]
  · rw [if_neg h0, if_neg]
    intro e
    rcases h with h | h
    · exact h0 h
    · exact h (Option.some.inj e).symm
theorem dd_not {qs : List P2} {p : P2} (h0 : ¬ qs.length = 0) (h : p = pat qs (qs.length - 1)) : ddStep qs p = qs := by
  unfold ddStep
  rw [pat_last, if_neg h0, h, if_pos rfl]
theorem dd_take {ps : List P2} {i : Nat} {p : P2} (h : ps[i]? = some p) : (ps.take (i + 1)).foldl ddStep [] = ddStep ((ps.take i).foldl ddStep []) p := by
  rw [List.take_add_one, h]
  simp only [Option.toList_some, List.foldl_append, List.foldl_cons, List.foldl_nil]
/-- what a call of one_sense tells -/
def SensedPost (vs : List Value) (ps : List P2) (r : Value) (nx : List (Addr × Obj)) : Prop :=
  (sensed ps = none ∧ r = .none ∧ nx = []) ∨ ∃ q c us n, sensed ps = some q ∧ r = .ref c ∧ nx = [(c, { cls := .type "tuple", data := .seq us.toArray n })] ∧ us.length < 1000 ∧ ∀ h, PtsAre h vs ps → PtsAre h us q
local macro_rules | `(tactic| walk_at "subscriptTail") => `(tactic| ((with_reducible show wpAny _ _ (subscriptTail _ _ (Value.ref _) (Value.int _ _)) _ _ _); k_dflt (refine' item_pt ?S ?P ?a ?b ?n ?_ ?s ?g; (case S => (first | assumption | exact SeqIs.keeps (by assumption) (Fr.keep (by assumption)) | exact SeqIs.newsL (by k_asm) (by k_mem) | exact SeqIs.newsT (by k_asm) (by k_mem))); (case P => assumption); (case a => omega); (case b => omega); (case n => omega); (case s => with_unfolding_all rfl); (case g => intro _; with_unfolding_all rfl); k_whole); intro a9 t9 u9 q9 T9 bx9 bx8 by9 by8))
local macro_rules | `(tactic| walk_at "call builtin:len") => `(tactic| (k_here; (with_reducible show wpAny _ _ (call (Value.builtin "len") [Value.ref _]) _ _ _); k_dflt (refine' len_seq ?S ?n ?_; (case S => (first | assumption | exact SeqIs.keeps (by assumption) (Fr.keep (by assumption)) | exact SeqIs.newsL (by k_asm) (by k_mem) | exact SeqIs.newsT (by k_asm) (by k_mem))); (case n => omega); k_whole); intro t9 tk9; (try dsimp only)))
local macro_rules | `(tactic| walk_at "compareOp Eq ref ref") => `(tactic| ((rename StopAt 5 => mk9); k_dflt (first
  | (refine' eq_pt ?a ?b ?r ?_; (case a => (first | assumption | exact IsTup.keeps (by assumption) (Fr.keep (by assumption)))); (case b => (first | assumption | exact IsTup.keeps (by assumption) (Fr.keep (by assumption)))); (case r => (((repeat (with_reducible rename (And _ _) => hx9; clear hx9)); (repeat (rename (@Ne Nat _ _) => hx9; clear hx9)); (have hcL9 := cLine_is); simp +zetaDelta only [units_in1, units_deeper, Around.mark_units, units_caller]; (try dsimp only [ktrTop]); omega))))
  | (refine' eq_nil ?a ?b ?c ?r ?_; (case a => exact News.isList (by k_asm) (by k_mem)); (case b => exact News.isList (by k_asm) (by k_mem)); (case c => exact PtsAre.keeps (Fr.keep (by assumption)) (by assumption)); (case r => (((repeat (with_reducible rename (And _ _) => hx9; clear hx9)); (repeat (rename (@Ne Nat _ _) => hx9; clear hx9)); (have hcL9 := cLine_is); simp +zetaDelta only [units_in1, units_deeper, Around.mark_units, units_caller]; (try dsimp only [ktrTop]); omega)))))))
local macro_rules | `(tactic| walk_at "compareOp NotEq ref ref") => `(tactic| ((rename StopAt 5 => mk9); k_dflt (refine' ne_pt ?a ?b ?r ?_; (case a => (first | assumption | exact IsTup.keeps (by assumption) (Fr.keep (by assumption)))); (case b => (first | assumption | exact IsTup.keeps (by assumption) (Fr.keep (by assumption)))); (case r => (((repeat (with_reducible rename (And _ _) => hx9; clear hx9)); (repeat (rename (@Ne Nat _ _) => hx9; clear hx9)); (have hcL9 := cLine_is); simp +zetaDelta only [units_in1, units_deeper, Around.mark_units, units_caller]; (try dsimp only [ktrTop]); omega))))))
local macro_rules | `(tactic| walk_at "call builtin:list.append") => `(tactic| ((rename StopAt 5 => mk9); k_dflt (refine' append_L ?F ?N ?U ?z ?_; (case F => k_asm); (case N => k_asm); (case U => k_upd); (case z => omega)); intro h' F' N'; (try k_sweep)))
local macro_rules | `(tactic| walk_at "call builtin:list.pop") => `(tactic| ((rename StopAt 5 => mk9); k_dflt (refine' pop_L ?F ?N ?U ?o ?z ?_; (case F => k_asm); (case N => k_asm); (case U => k_upd); (case o => omega); (case z => omega)); intro v' h' F' N'; (try k_sweep)))
local macro_rules | `(tactic| walk_at "call type:tuple") => `(tactic| ((rename StopAt 5 => mk9); k_dflt (refine' tupleOf_L ?F ?N ?l ?z ?_; (case F => k_asm); (case N => k_asm); (case l => exact News.isList (by k_asm) (by k_mem)); (case z => first | omega | (rw [List.length_reverse]; omega))); intro D' h' F' N' l1; (try k_lt l1); (try k_sweep)))
local macro_rules | `(tactic| walk_at "subscriptTail Name Slice ref ref") => `(tactic| ((rename StopAt 5 => mk9); (with_reducible show wpAny _ _ (subscriptTail _ (PySem.Expr.Slice none none (some _) _) (Value.ref _) (Value.ref _)) _ _ _); k_dflt (refine' rev_L ?F ?N ?l ?k ?z ?_ ?s ?t; (case F => k_asm); (case N => k_asm); (case l => exact News.isList (by k_asm) (by k_mem)); (case k => exact IsPart.int _ _); (case z => omega); (case s => with_unfolding_all rfl); (case t => intro _; with_unfolding_all rfl)); intro D' h' F' N' l1; (try k_lt l1); (try k_sweep)))
local macro_rules | `(tactic| walk_at "exec While BoolOp") => `(tactic| ((rename StopAt 5 => mk9); refine Stop.out ?_))
local macro_rules | `(tactic| walk_at "zz p") => `(tactic| exact ⟨by (first | assumption | exact SeqIs.keeps (by assumption) (Fr.keep (by assumption)) | exact SeqIs.newsL (by k_asm) (by k_mem) | exact SeqIs.newsT (by k_asm) (by k_mem)), by exact PtsAre.keeps (Fr.keep (by assumption)) (by assumption)⟩)
set_option hygiene false in
local macro_rules | `(tactic| walk_at "call ref") => `(tactic| (k_here; (with_reducible show wpAny _ _ (call (Value.ref 109) _) _ _ _); k_dflt (refine' SpecA.useI ?k1 ?k2 ?k3 ?k4 ?k5 ?k6 ?k7 ?k8 ?k9 (area_spec ?s1) ?_; walk_at "zz u"; (case k9 => walk_at "zz p"); walk_at "zz s"); intro _ _ _ _ _; (try dsimp only)))
local macro_rules | `(tactic| walk_at "call ref") => `(tactic| ((rename StopAt 6 => mk9); (with_reducible show wpAny _ _ (call (Value.ref 109) [Value.ref _]) _ _ _); refine Stop.out ?_))
theorem sensed_none {ps qs : List P2} (h : trim (dedup ps) = qs) (h0 : area2 qs = 0) : sensed ps = none := by unfold sensed; rw [h, if_pos h0]
theorem sensed_pos {ps qs : List P2} (h : trim (dedup ps) = qs) (h0 : 0 < area2 qs) : sensed ps = some qs := by unfold sensed; rw [h, if_neg (by omega), if_pos h0]
theorem sensed_neg {ps qs : List P2} (h : trim (dedup ps) = qs) (h0 : ¬ area2 qs = 0) (h1 : ¬ 0 < area2 qs) : sensed ps = some qs.reverse := by unfold sensed; rw [h, if_neg h0, if_neg h1]
theorem keepPt {vs : List Value} {ps : List P2} {i : Nat} {v : Value} {p : P2} (hv : vs[i]? = some v) (hp : ps[i]? = some p) : ∀ h, PtsAre h vs ps → PtsAre h [v] [p] := fun h x => by
  obtain ⟨q, e, a, b⟩ := x.get i v hv
  rw [hp] at e
  cases Option.some.inj e
  exact PtsAre.one a b
section
variable {w : World} {p : Program} {loose : List Str} {mean : ExcName → Option Value} {mg mb : Str → Option Value} {news : List (Addr × Obj)}
theorem oneSense_spec {l : Addr} {vs : List Value} {ps : List P2} (hn : ps.length < 1000) :
    SpecA w p loose mean mg mb 116 20 [.ref l] (fun h => SeqIs h l vs ∧ PtsAre h vs ps) (SensedPost vs ps) := by
  w_top off
  unfold SpecA
  k_fill
  intro dp un gd cn cs a ccd cl outer A₀ base h₀ L m s Q E B F X N T hk hd hu hpre hret
  obtain ⟨hS, hP⟩ := hpre
  have hlen := hP.length
  refine wpAny_call ?_
  k_dflt (refine' enterZ ?k1 ?k2 ?k3 ?k5 ?kA ?kF ?kK ?k6 ?k7 ?k8 ?k9 ?kB ?_ ?c2 ?c3 ?c4 ?c5; (case kA => exact rfl); (case kF => exact rfl); (case kK => assumption); (case k1 => k_asm); (case k2 => k_asm); (case k3 => k_asm); (case k5 => k_asm); (case k6 => k_is); (case k7 => k_is); (case k8 => ktr_room); (case k9 => exact BindsTo.of_eq rfl); (case c5 => decide); (case kB => exact locs rfl); (case c2 => exact rfl); (case c3 => exact rfl); (case c4 => exact rfl); k_whole; intro L' h' F' N' B' X' T'; (try dsimp only); (try k_fold); (refine foldA ?_); intro ak)
  have mk := StopAt.mark (n := 3) trivial
  have mk5 := StopAt.mark (n := 5) trivial
  have mk6 := StopAt.mark (n := 6) trivial
  k_steps
  rename_i c _ _ _ F1 N1
  refine iterS (fun i m nx => ∃ us n, us.length ≤ i ∧ (∀ h, PtsAre h vs ps → PtsAre h us ((ps.take i).foldl ddStep [])) ∧ nx = [(c, listOf us.toArray n)] ∧ ∀ p ∈ [(Str.ofString "spots", Value.ref l), (Str.ofString "found", Value.ref c)], m p.1 = some p.2) (by rfl) hS F1 N1 ⟨[], 0, Nat.le_refl _, fun _ _ => trivial, rfl, by kst_all⟩ ?turn ?done
  case turn =>
    clear F1 N1
    rintro i v m₁ _ h tk I it hv ⟨us, n, hul, hI, rfl, hm⟩ hoff F2 N2
    obtain ⟨pp, hp1, ⟨b, t, u, rfl, hb⟩, hp3⟩ := hP.get i v hv
    have hil : i < ps.length := (List.getElem?_eq_some_iff.mp hp1).1
    have hQ := hI _ hP
    have hQl := hQ.length
    have hst := dd_take hp1
    generalize hqs : (ps.take i).foldl ddStep [] = qs at hI hQ hQl hst
    replace F2 := frB _ F2 hm
    dsimp only [kstB] at F2
    replace hoff := OffA.of hoff
    simp only [OffA, and_true] at hoff
    (((iterate 2 (first | walk1 | (dsimp only; walk1))); k_fold))
    k_steps
    · rename_i cnd _ _ F3 N3
      exact turnZ_next F3 N3 [(c, listOf (us ++ [Value.ref b]).toArray (n + 1))] (by lcg_sub) (OffA.mem (by simpa only [OffA, and_true] using hoff)) ⟨_, _, by rw [List.length_append]; exact Nat.succ_le_succ hul,
        fun h x => by rw [hst, dd_add (.inl cnd)]; exact (hI h x).append (keepPt hv hp1 h x), rfl, by kst_all⟩
    · rename_i _ F3 N3 _ cnd _ _ _ _ _ _ _ _ _ ceq
      rw [idx_m1 (by omega)] at ceq
      exact turnZ_next F3 N3 [(c, listOf us.toArray n)] (by lcg_sub) (OffA.mem (by simpa only [OffA, and_true] using hoff)) ⟨_, _, by omega,
        fun h x => by rw [hst, dd_not cnd ceq]; exact hI h x, rfl, by kst_all⟩
    · rename_i cnd _ _ _ _ _ _ _ _ _ cne _ _ F3 N3
      rw [idx_m1 (by omega)] at cne
      exact turnZ_next F3 N3 [(c, listOf (us ++ [Value.ref b]).toArray (n + 1))] (by lcg_sub) (OffA.mem (by simpa only [OffA, and_true] using hoff)) ⟨_, _, by rw [List.length_append]; exact Nat.succ_le_succ hul,
        fun h x => by rw [hst, dd_add (.inr cne)]; exact (hI h x).append (keepPt hv hp1 h x), rfl, by kst_all⟩
  case done =>
    clear F1 N1
    rintro m₁ _ h tk ⟨us, n, hul, hI, rfl, hm⟩ F2 N2
    replace F2 := frB _ F2 hm
    dsimp only [kstB] at F2
    rw [List.take_of_length_le (by omega)] at hI
    (repeat' (first | (k_unfold; (try dsimp only)) | (k_end; kc_close) | ((first | (with_reducible show wpAny _ _ (exec _ _) _ _ _) | (with_reducible show wpAny _ _ (eval (PySem.Expr.BinOp _ _ _ _) _) _ _ _) | (with_reducible show wpAny _ _ (eval (PySem.Expr.Call _ _ _ _) _) _ _ _)); k_fold) | walk1 | (dsimp only; walk1) | (leave1; walk_say "STEP leave1"; (try dsimp only)) | fail "no step"))
    refine While_inv2 (n₀ := us.length) (fun k m nx => ∃ us n qs, us.length = k ∧ k < 1000 ∧ trim qs = trim (dedup ps) ∧ (∀ h, PtsAre h vs ps → PtsAre h us qs) ∧ nx = [(c, listOf us.toArray n)] ∧ ∀ p ∈ [(Str.ofString "spots", Value.ref l), (Str.ofString "found", Value.ref c)], m p.1 = some p.2)
      F2 N2 ⟨us, n, _, rfl, by omega, rfl, hI, rfl, by kst_all⟩ ?_
    clear hul hI hm F2 N2 
    rintro k m₂ _ h₂ tk₂ F2 N2 ⟨us, n, qs, hul, hk1, htr, hI, rfl, hm⟩
    have hQ := hI _ hP
    have hQl := hQ.length
    replace F2 := frB _ F2 hm
    dsimp only [kstB] at F2
    k_steps
    · rename_i hgt _ _ _ _ _ _ _ _ _ _ _ _ _ _ _ _ _ _ ceq _ _ F3 N3
      rw [idx_m1 (by omega), idx_0] at ceq
      refine ⟨_, _, _, _, us.length - 1, rfl, F3, N3, by omega, us.dropLast, _, qs.dropLast, List.length_dropLast, by omega, ?_, fun h x => (hI h x).dropLast, rfl, by kst_all⟩
      rw [← htr]
      exact (trim_go (by omega) (by rw [pat_last, if_neg (by omega), pat_head (by omega)]; exact congrArg some ceq)).symm
    · rename_i hgt _ _ _ _ _ _ _ _ _ _ _ _ _ _ _ _ _ _ cne
      rw [idx_m1 (by omega), idx_0] at cne
      have hT : trim (dedup ps) = qs := by
        rw [← htr]
        refine trim_stay fun z => cne ?_
        have := z.2
        rw [pat_last, if_neg (by omega), pat_head (by omega)] at this
        exact Option.some.inj this
      unfold Stop
      rename StopAt 6 => mk6
      clear mk6
      (repeat' (first | (k_unfold; (try dsimp only)) | (k_end; kc_close) | ((first | (with_reducible show wpAny _ _ (exec _ _) _ _ _) | (with_reducible show wpAny _ _ (eval (PySem.Expr.BinOp _ _ _ _) _) _ _ _) | (with_reducible show wpAny _ _ (eval (PySem.Expr.Call _ _ _ _) _) _ _ _)); k_fold) | walk1 | (dsimp only; walk1) | (leave1; walk_say "STEP leave1"; (try dsimp only)) | fail "no step"))
      · exact finA hret (by assumption) (by assumption) (by assumption) (by assumption) (.inl ⟨sensed_none hT (by assumption), rfl, rfl⟩) (by lcg_sub) (by lcg_sub)
      · exact finA hret (by assumption) (by assumption) (by assumption) (by assumption) (.inr ⟨_, _, us, 0, sensed_pos hT (by assumption), rfl, rfl, by omega, hI⟩) (by lcg_sub) (by lcg_sub)
      · exact finA hret (by assumption) (by assumption) (by assumption) (by assumption) (.inr ⟨_, _, us.reverse, 0, sensed_neg hT (by assumption) (by assumption), rfl, rfl, by rw [List.length_reverse]; omega, fun h x => (hI h x).reverse⟩) (by lcg_sub) (by lcg_sub)
    · rename_i hgt
      have hT : trim (dedup ps) = qs := by
        rw [← htr]
        exact trim_stay fun z => by omega
      unfold Stop
      rename StopAt 6 => mk6
      clear mk6
      (repeat' (first | (k_unfold; (try dsimp only)) | (k_end; kc_close) | ((first | (with_reducible show wpAny _ _ (exec _ _) _ _ _) | (with_reducible show wpAny _ _ (eval (PySem.Expr.BinOp _ _ _ _) _) _ _ _) | (with_reducible show wpAny _ _ (eval (PySem.Expr.Call _ _ _ _) _) _ _ _)); k_fold) | walk1 | (dsimp only; walk1) | (leave1; walk_say "STEP leave1"; (try dsimp only)) | fail "no step"))
      · exact finA hret (by assumption) (by assumption) (by assumption) (by assumption) (.inl ⟨sensed_none hT (by assumption), rfl, rfl⟩) (by lcg_sub) (by lcg_sub)
      · exact finA hret (by assumption) (by assumption) (by assumption) (by assumption) (.inr ⟨_, _, us, 0, sensed_pos hT (by assumption), rfl, rfl, by omega, hI⟩) (by lcg_sub) (by lcg_sub)
      · exact finA hret (by assumption) (by assumption) (by assumption) (by assumption) (.inr ⟨_, _, us.reverse, 0, sensed_neg hT (by assumption) (by assumption), rfl, rfl, by rw [List.length_reverse]; omega, fun h x => (hI h x).reverse⟩) (by lcg_sub) (by lcg_sub)
end
theorem sl_init {vs : List Value} (h : 0 < vs.length) : slicePick vs.toArray none (some (-1)) none = vs.dropLast.toArray := by
  have e : sliceBounds none (some (-1)) none vs.toArray.size = ((0 : Int), ((vs.length - 1 : Nat) : Int), (1 : Int)) := by
    unfold sliceBounds
    have h1 : (-1 : Int) < 0 := by decide
    have h2 : ((none : Option Int).getD 1 > 0) := by decide
    simp only [h1, h2, if_true, List.size_toArray]
    refine Prod.ext rfl (Prod.ext ?_ rfl)
    show max 0 (min (-1 + (vs.length : Int)) (vs.length : Int)) = ((vs.length - 1 : Nat) : Int)
    omega
  unfold slicePick
  rw [e]
  have e2 : sliceRange (0 : Int) ((vs.length - 1 : Nat) : Int) 1 = (List.range (vs.length - 1)).map (0 + ·) := by
    unfold sliceRange
    have h1 : (1 : Int) > 0 := by decide
    simp only [h1, if_true, Int.ediv_one]
    have e3 : (if (0 : Int) < ((vs.length - 1 : Nat) : Int) then ((vs.length - 1 : Nat) : Int) - 0 + 1 - 1 else 0).toNat = vs.length - 1 := by split <;> omega
    rw [e3]
    apply List.map_congr_left
    intro k _
    omega
  rw [e2, pick_run, List.drop_zero, List.dropLast_eq_take]
section
variable {prog : Program} {w : World} {A : Around} {E : Value → Shared → Prop} {s : Shared} {h₀ : Heap} {L : Addr} {m : Str → Option Value} {news : List (Addr × Obj)} {Q : Value → Shared → Prop}
theorem init_L {value slice : PySem.Expr} {l : Addr} {vs : List Value} {u : Tok} {ops : List Value} (F : Fr h₀ L s.heap m) (N : News h₀ L s.heap news) (hl : s.heap.IsList l vs.toArray) (h0 : 0 < vs.length) (hz : vs.length < 2000)
    (h : ∀ D h', Fr h₀ L h' m → News h₀ L h' ((D, listOf vs.dropLast.toArray 0) :: news) → (∀ p ∈ news, p.1 < D) → Q (.ref D) { s with heap := h' })
    (hs : subscripted slice false (.ref l) (.ref s.heap.objs.size) = operate ops (getItem (.ref l) (.ref s.heap.objs.size))) (ht : ∀ r, letTemporaryGo value (.ref l) r = pure ()) :
    wpAny (model prog w) A (subscriptTail value slice (.ref l) (.ref s.heap.objs.size)) Q E { s with heap := s.heap.push { cls := .type "slice", data := .fields #[.none, .int (-1) u, .none] } } := by
  refine slice_list3 F N hl .none (.int _ _) .none (by decide) (fun h' F' N' => h _ h' F' ?_ fun p hp => Nat.lt_succ_of_lt (Heap.lt_size (N p hp).1)) hs ht (by rw [sizeLine_eq, List.size_toArray]; omega)
  rw [sl_init h0] at N'
  exact N'
end
theorem PtsAre.bound {h : Heap} {vs : List Value} {ps : List P2} (x : PtsAre h vs ps) {i : Nat} (hi : i < ps.length) : -100 < (pat ps i).1 ∧ (pat ps i).1 < 100 ∧ -100 < (pat ps i).2 ∧ (pat ps i).2 < 100 := by
  have e := x.length
  obtain ⟨p, q1, _, q3, q4⟩ := x.get i _ (List.getElem?_eq_getElem (by omega : i < vs.length))
  rw [pat_get q1]
  omega
theorem ddc_add {vs ys : List Value} {ps : List P2} {i : Nat} {v : Value} (hi : i < ps.length) (hl : vs.length = ps.length) (hys : ∀ h, PtsAre h vs ps → PtsAre h ys (ddcUp ps i)) (hv : vs[idx (0 + (i : Int)) vs.length]? = some v)
    (c : i = 0 ∨ ¬ pat ps (idx (0 + (i : Int)) ps.length) = pat ps (idx (0 + (i : Int) - 1) ps.length)) : ∀ h, PtsAre h vs ps → PtsAre h (ys ++ [v]) (ddcUp ps (i + 1)) := fun h x => by
  rw [Int.zero_add] at hv c
  rw [idx_nat] at hv c
  show PtsAre h (ys ++ [v]) (if i = 0 ∨ pat ps i ≠ pat ps (idx ((i : Int) - 1) ps.length) then ddcUp ps i ++ [pat ps i] else ddcUp ps i)
  rw [if_pos c]
  exact (hys h x).append (keepPt hv (get_pat hi) h x)
theorem ddc_not {vs ys : List Value} {ps : List P2} {i : Nat} (hys : ∀ h, PtsAre h vs ps → PtsAre h ys (ddcUp ps i)) (c : ¬ i = 0) (c2 : pat ps (idx (0 + (i : Int)) ps.length) = pat ps (idx (0 + (i : Int) - 1) ps.length)) :
    ∀ h, PtsAre h vs ps → PtsAre h ys (ddcUp ps (i + 1)) := fun h x => by
  rw [Int.zero_add, idx_nat] at c2
  show PtsAre h ys (if i = 0 ∨ pat ps i ≠ pat ps (idx ((i : Int) - 1) ps.length) then ddcUp ps i ++ [pat ps i] else ddcUp ps i)
  rw [if_neg (by rintro (z | z); exact c z; exact z c2)]
  exact hys h x
local macro_rules | `(tactic| walk_at "subscriptTail Name Slice ref ref") => `(tactic| ((rename StopAt 5 => mk9); (with_reducible show wpAny _ _ (subscriptTail _ (PySem.Expr.Slice none (some _) none _) (Value.ref _) (Value.ref _)) _ _ _); k_dflt (refine' init_L ?F ?N ?l ?o ?z ?_ ?s ?t; (case F => k_asm); (case N => k_asm); (case l => exact News.isList (by k_asm) (by k_mem)); (case o => omega); (case z => omega); (case s => with_unfolding_all rfl); (case t => intro _; with_unfolding_all rfl)); intro D' h' F' N' l1; (try k_lt l1); (try k_sweep)))
section
variable {w : World} {p : Program} {loose : List Str} {mean : ExcName → Option Value} {mg mb : Str → Option Value} {news : List (Addr × Obj)}
theorem lawSensed_spec {l : Addr} {vs : List Value} {ps : List P2} (hps : ps ≠ []) (hn : ps.length < 1000) :
    SpecA w p loose mean mg mb 147 20 [.ref l] (fun h => SeqIs h l vs ∧ PtsAre h vs ps) (SensedPost vs ps) := by
  w_top off
  unfold SpecA
  k_fill
  intro dp un gd cn cs a ccd cl outer A₀ base h₀ L m s Q E B F X N T hk hd hu hpre hret
  obtain ⟨hS, hP⟩ := hpre
  have hlen := hP.length
  refine wpAny_call ?_
  k_dflt (refine' enterZC ?k1 ?k2 ?k3 ?k5 ?kA ?kF ?kK ?k6 ?k7 ?k8 ?k9 ?kB ?kD ?_ ?c2 ?c3 ?c4; (case kA => exact rfl); (case kF => exact rfl); (case kK => assumption); (case k1 => k_asm); (case k2 => k_asm); (case k3 => k_asm); (case k5 => k_asm); (case k6 => k_is); (case k7 => k_is); (case k8 => ktr_room); (case k9 => exact BindsTo.of_eq rfl); (case kB => exact rfl); (case kD => decide +kernel); (case c2 => exact rfl); (case c3 => exact rfl); (case c4 => exact rfl); k_whole; intro L' h' tk' cells' F' N' Y' B' X' T'; k_cells Y'; (try simp only [List.cons_append, List.nil_append, List.append_nil] at N'); (try dsimp only); (try k_fold); (refine foldA ?_); intro ak)
  have mk := StopAt.mark (n := 3) trivial
  have mk5 := StopAt.mark (n := 5) trivial
  have mk1 := StopAt.mark (n := 1) trivial
  (repeat' (first | (k_unfold; (try dsimp only)) | (k_end; kc_close) | ((first | (with_reducible show wpAny _ _ (exec _ _) _ _ _) | (with_reducible show wpAny _ _ (eval (PySem.Expr.BinOp _ _ _ _) _) _ _ _) | (with_reducible show wpAny _ _ (eval (PySem.Expr.Call _ _ _ _) _) _ _ _)); k_fold) | walk1 | (dsimp only; walk1) | (leave1; walk_say "STEP leave1"; (try dsimp only)) | fail "no step"))
  refine LCt.CompSrcT.range (n := ps.length) (by rfl) (by k_asm) (by k_asm) (by assumption) (small_0 (by omega)) ((rangeSize_0 _).trans (by omega)) (by rw [PySem.sizeLine_eq]; omega) ?_
  intro g'
  refine restT (fun i ys nx => ys.length ≤ i ∧ (∀ h, PtsAre h vs ps → PtsAre h ys (ddcUp ps i)) ∧ nx = _) ⟨Nat.le_refl _, fun _ _ => trivial, rfl⟩ ?_ ?_
  · rintro i ys _ v2 I2 oI2 C2 oC2 D2 m2 h2 tk2 E2 hi2 ⟨t2, rfl⟩ ⟨hyl, hys, rfl⟩ hC2 hx2 F2 N2 off2 ne2
    have mk15 := StopAt.mark (n := 15) trivial
    k_steps <;> unfold Stop
    · rename_i hi0 _ _ _ hv _ _ _ _ _
      exact LCg.CompEnd.intro F2 N2 _ (fun _ h => h) off2 trivial ⟨by rw [List.length_append]; exact Nat.succ_le_succ hyl, ddc_add hi2 hlen hys hv (.inl (by omega)), rfl⟩
    · rename_i hi0 _ _ _ hv _ _ _ _ _ _ _ _ _ _ _ _ _ _ ceq
      exact LCg.CompEnd.intro F2 N2 _ (fun _ h => h) off2 trivial ⟨by omega, ddc_not hys (by omega) ceq, rfl⟩
    · rename_i cne _ _ _ hv _ _ _ _ _
      exact LCg.CompEnd.intro F2 N2 _ (fun _ h => h) off2 trivial ⟨by rw [List.length_append]; exact Nat.succ_le_succ hyl, ddc_add hi2 hlen hys hv (.inr cne), rfl⟩
  · rintro ys _ ⟨hyl, hys, rfl⟩
    rw [ddcUp_eq ps _ (Nat.le_refl _), List.take_length] at hys
    have hpos : 0 < (dedup ps).length := List.length_pos_iff.mpr (dedup_ne hps)
    have hyl2 := (hys _ hP).length
    k_steps
    rename_i c _ _ F2 N2 _
    replace N2 : News s.heap L' _ [(c, listOf ys.toArray ys.length)] := fun q hq => N2 q (by rcases List.mem_singleton.mp hq with rfl; exact List.mem_cons_self)
    refine While_inv2 (n₀ := ys.length) (fun k m nx => ∃ c us n qs, us.length = k ∧ k < 1000 ∧ 0 < k ∧ trim qs = trim (dedup ps) ∧ (∀ h, PtsAre h vs ps → PtsAre h us qs) ∧ nx = [(c, listOf us.toArray n)] ∧ ∀ p ∈ [(Str.ofString "found", Value.ref c)], m p.1 = some p.2)
      F2 N2 ⟨c, ys, _, _, rfl, by omega, by unfold dedup at hpos; omega, rfl, hys, rfl, by kst_all⟩ ?_
    clear hyl hys hpos hyl2 F2 N2
    rintro k m₂ _ h₂ tk₂ F2 N2 ⟨c, us, n, qs, hul, hk1, hk0, htr, hI, rfl, hm⟩
    have hQ := hI _ hP
    have hQl := hQ.length
    have hq0 : 0 < qs.length := by omega
    replace F2 := frB _ F2 hm
    dsimp only [kstB] at F2
    refine wpAny_mono (Q := fun b s₂ => ∃ tk', s₂ = { s with heap := h₂, toks := tk' } ∧ (if b = true then 1 < qs.length ∧ pat qs (qs.length - 1) = pat qs 0 else trim (dedup ps) = qs)) ?test ?rest (fun _ _ e => e)
    case test =>
      (repeat' (first | (k_unfold; (try dsimp only)) | (k_end; kc_close) | ((first | (with_reducible show wpAny _ _ (exec _ _) _ _ _) | (with_reducible show wpAny _ _ (eval (PySem.Expr.BinOp _ _ _ _) _) _ _ _) | (with_reducible show wpAny _ _ (eval (PySem.Expr.Call _ _ _ _) _) _ _ _)); k_fold) | walk1 | (dsimp only; walk1) | (leave1; walk_say "STEP leave1"; (try dsimp only)) | fail "no step"))
      · rename (((pat qs _).1, (pat qs _).2) = ((pat qs _).1, (pat qs _).2)) => ceq
        rw [idx_m1 (by omega), idx_0] at ceq
        exact ceq
      · rename (¬((pat qs _).1, (pat qs _).2) = ((pat qs _).1, (pat qs _).2)) => cne
        rw [idx_m1 (by omega), idx_0] at cne
        rw [← htr]
        refine trim_stay fun z => cne ?_
        have := z.2
        rw [pat_last, if_neg (by omega), pat_head (by omega)] at this
        exact Option.some.inj this
      · rw [← htr]
        exact trim_stay fun z => by omega
    rintro b _ ⟨tk₃, rfl, hb⟩
    cases b with
    | true =>
      rw [if_pos rfl] at hb ⊢
      obtain ⟨hgt, ceq⟩ := hb
      (repeat' (first | (k_unfold; (try dsimp only)) | (k_end; kc_close) | ((first | (with_reducible show wpAny _ _ (exec _ _) _ _ _) | (with_reducible show wpAny _ _ (eval (PySem.Expr.BinOp _ _ _ _) _) _ _ _) | (with_reducible show wpAny _ _ (eval (PySem.Expr.Call _ _ _ _) _) _ _ _)); k_fold) | walk1 | (dsimp only; walk1) | (leave1; walk_say "STEP leave1"; (try dsimp only)) | fail "no step"))
      rename Fr _ _ _ _ => F3
      rename News _ _ _ _ => N3
      refine ⟨_, _, _, _, us.length - 1, rfl, F3, (fun q hq => N3 q (by rcases List.mem_singleton.mp hq with rfl; exact List.mem_cons_self)), by omega, _, us.dropLast, 0, qs.dropLast, List.length_dropLast, by omega, by omega, ?_, fun h x => (hI h x).dropLast, rfl, by kst_all⟩
      rw [← htr]
      exact (trim_go (by omega) (by rw [pat_last, if_neg (by omega), pat_head (by omega)]; exact congrArg some ceq)).symm
    | false =>
      rw [if_neg (by decide)] at hb
      rw [if_neg (by decide)]
      have hT := hb
      obtain ⟨bp1, bp2, bp3, bp4⟩ := hQ.bound hq0
      k_steps
      rename_i R1 F3 N3 _
      simp only [idx_0] at F3
      replace N3 : News s.heap L' _ [(c, listOf us.toArray n)] := cb_drop N3 (by lcg_sub)
      refine iterR (n := qs.length - 2) (fun i m nx => nx = [(c, listOf us.toArray n)] ∧ ∃ t tx ty, ∀ p ∈ [(Str.ofString "found", Value.ref c), (Str.ofString "area", Value.int (fanUp qs i) t), (Str.ofString "x", Value.int (pat qs 0).1 tx), (Str.ofString "y", Value.int (pat qs 0).2 ty)], m p.1 = some p.2)
        (by rfl) R1 (small_one (by omega) (by omega) (by omega) (by omega)) ((rangeSize_nat _ _).trans (by omega)) F3 N3 ⟨rfl, _, _, _, by kst_all⟩ ?turn ?done
      case turn =>
        clear R1 F3 N3 hm; (try clear N2)
        rintro i ti m₁ _ h tk I it hi ⟨rfl, t, tx, ty, hm⟩ hoff hit F2 N2
        replace F2 := frB _ F2 hm
        dsimp only [kstB] at F2
        replace hoff := OffA.of hoff
        simp only [OffA, and_true] at hoff
        (((iterate 2 (first | walk1 | (dsimp only; walk1))); k_fold))
        (repeat' (first | (k_unfold; (try dsimp only)) | (k_end; kc_close) | ((first | (with_reducible show wpAny _ _ (exec _ _) _ _ _) | (with_reducible show wpAny _ _ (eval (PySem.Expr.BinOp _ _ _ _) _) _ _ _) | (with_reducible show wpAny _ _ (eval (PySem.Expr.Call _ _ _ _) _) _ _ _)); k_fold) | walk1 | (dsimp only; walk1) | (leave1; walk_say "STEP leave1"; (try dsimp only)) | fail "no step"))
        rename Fr _ _ _ _ => F4
        rename News _ _ _ _ => N4
        simp only [idx_1, idx_2] at F4
        have e : fanUp qs i + ((pat qs (1 + i)).1 - (pat qs 0).1) * ((pat qs (2 + i)).2 - (pat qs 0).2) - ((pat qs (1 + i)).2 - (pat qs 0).2) * ((pat qs (2 + i)).1 - (pat qs 0).1) = fanUp qs (i + 1) := rfl
        simp only [e] at F4
        refine turnZ_next F4 N4 [(c, listOf us.toArray n)] (by lcg_sub) (OffA.mem (by simpa only [OffA, and_true] using hoff)) ⟨rfl, ?tt, ?tx, ?ty, ?m⟩
        case m => kst_all
      case done =>
        clear R1 F3 N3 hm; (try clear N2)
        rintro m₁ _ h tk ⟨rfl, t, tx, ty, hm⟩ F2 N2
        replace F2 := frB _ F2 hm
        dsimp only [kstB] at F2
        simp only [fan_eq qs hq0] at F2
        (repeat' (first | (k_unfold; (try dsimp only)) | (k_end; kc_close) | ((first | (with_reducible show wpAny _ _ (exec _ _) _ _ _) | (with_reducible show wpAny _ _ (eval (PySem.Expr.BinOp _ _ _ _) _) _ _ _) | (with_reducible show wpAny _ _ (eval (PySem.Expr.Call _ _ _ _) _) _ _ _)); k_fold) | walk1 | (dsimp only; walk1) | (leave1; walk_say "STEP leave1"; (try dsimp only)) | fail "no step"))
        · exact finA hret (by assumption) (by assumption) (by assumption) (by assumption) (.inl ⟨sensed_none hT (by assumption), rfl, rfl⟩) (by lcg_sub) (by lcg_sub)
        · exact finA hret (by assumption) (by assumption) (by assumption) (by assumption) (.inr ⟨_, _, us, 0, sensed_pos hT (by assumption), rfl, rfl, by omega, hI⟩) (by lcg_sub) (by lcg_sub)
        · exact finA hret (by assumption) (by assumption) (by assumption) (by assumption) (.inr ⟨_, _, us.reverse, 0, sensed_neg hT (by assumption) (by assumption), rfl, rfl, by rw [List.length_reverse]; omega, fun h x => (hI h x).reverse⟩) (by lcg_sub) (by lcg_sub)
end
theorem SensedPost.isNone {vs : List Value} {ps : List P2} {r : Value} {nx : List (Addr × Obj)} (h : SensedPost vs ps r nx) (e : sensed ps = none) : r = .none ∧ nx = [] := by
  rcases h with ⟨_, a, b⟩ | ⟨q, _, _, _, e2, _⟩
  · exact ⟨a, b⟩
  · rw [e] at e2; cases e2
theorem SensedPost.isSome {vs : List Value} {ps q : List P2} {r : Value} {nx : List (Addr × Obj)} (h : SensedPost vs ps r nx) (e : sensed ps = some q) :
    ∃ c us n, r = .ref c ∧ nx = [(c, ({ cls := .type "tuple", data := .seq us.toArray n } : Obj))] ∧ us.length < 1000 ∧ ∀ h, PtsAre h vs ps → PtsAre h us q := by
  rcases h with ⟨e2, _⟩ | ⟨q, c, us, n, e2, a⟩
  · rw [e] at e2; cases e2
  · rw [e] at e2; cases e2; exact ⟨c, us, n, a⟩
theorem SpecA.useNone {w : World} {p : Program} {loose : List Str} {mean : ExcName → Option Value} {mg mb : Str → Option Value} {f : Addr} {need : Nat} {vs : List Value} {all : List (Addr × Obj)} {Pre : Heap → Prop}
    {dp un : Nat} {gd : Option (List Code)} {cn : Str} {cs : Scope} {a : Addr} {ccd : Value} {cl : List (Str × Addr)} {outer : List Env} {A₀ : Around} {base h₀ : Heap} {L : Addr} {m : Str → Option Value} {s : Shared} {Q E : Value → Shared → Prop} {xs : List Value} {ps : List P2}
    (B : Below A₀ base outer h₀) (F : Fr h₀ L s.heap m) (X : (K39 w.params).In h₀) (N : News h₀ L s.heap all) (T : Top p loose mean mg mb h₀) (hk : cs.kind = .function)
    (hd : dp + need < recursionLimit) (hu : un + 8 * need < cLine) (hp : Pre s.heap) (S : SpecA w p loose mean mg mb f need vs Pre (SensedPost xs ps)) (e : sensed ps = none) (ret : ∀ h' tk', Fr h₀ L h' m → News h₀ L h' all → Q .none { s with heap := h', toks := tk' }) :
    wpAny (model PySem.Challenge.rw_on0223_01.row.prog w) (ktrTop dp un gd cn cs L a ccd cl outer) (call (.ref f) vs) Q E s :=
  SpecA.use S B F X N T hk hd hu hp fun _ _ h' tk' hp9 _ _ F' N' => by obtain ⟨rfl, rfl⟩ := hp9.isNone e; exact ret h' tk' F' N'
theorem SpecA.useSome {w : World} {p : Program} {loose : List Str} {mean : ExcName → Option Value} {mg mb : Str → Option Value} {f : Addr} {need : Nat} {vs : List Value} {all : List (Addr × Obj)} {Pre : Heap → Prop}
    {dp un : Nat} {gd : Option (List Code)} {cn : Str} {cs : Scope} {a : Addr} {ccd : Value} {cl : List (Str × Addr)} {outer : List Env} {A₀ : Around} {base h₀ : Heap} {L : Addr} {m : Str → Option Value} {s : Shared} {Q E : Value → Shared → Prop} {xs : List Value} {ps : List P2} {q : List P2}
    (B : Below A₀ base outer h₀) (F : Fr h₀ L s.heap m) (X : (K39 w.params).In h₀) (N : News h₀ L s.heap all) (T : Top p loose mean mg mb h₀) (hk : cs.kind = .function)
    (hd : dp + need < recursionLimit) (hu : un + 8 * need < cLine) (hp : Pre s.heap) (S : SpecA w p loose mean mg mb f need vs Pre (SensedPost xs ps)) (e : sensed ps = some q) (ret : ∀ c us n h' tk', us.length < 1000 → (∀ h, PtsAre h xs ps → PtsAre h us q) → Fr h₀ L h' m → News h₀ L h' ((c, ({ cls := .type "tuple", data := .seq us.toArray n } : Obj)) :: all) → Q (.ref c) { s with heap := h', toks := tk' }) :
    wpAny (model PySem.Challenge.rw_on0223_01.row.prog w) (ktrTop dp un gd cn cs L a ccd cl outer) (call (.ref f) vs) Q E s :=
  SpecA.use S B F X N T hk hd hu hp fun _ _ h' tk' hp9 _ _ F' N' => by obtain ⟨c, us, n, rfl, rfl, h1, h2⟩ := hp9.isSome e; exact ret c us n h' tk' h1 h2 F' N'
section
variable {w : World} {p : Program} {loose : List Str} {mean : ExcName → Option Value} {mg mb : Str → Option Value} {news : List (Addr × Obj)}
theorem lawArea_spec2 {l : Addr} {vs : List Value} {ps : List P2} (h0 : 0 < ps.length) (hn : ps.length < 1000) :
    SpecA w p loose mean mg mb 173 2 [.ref l] (fun h => SeqIs h l vs ∧ PtsAre h vs ps) (fun r nx => (∃ t, r = .int (area2 ps) t) ∧ nx = []) := by
  have := lawArea_spec (w := w) (p := p) (loose := loose) (mean := mean) (mg := mg) (mb := mb) (l := l) (vs := vs) h0 hn
  rw [fan_eq ps h0] at this
  exact this
end
set_option hygiene false in
local macro_rules | `(tactic| walk_at "call ref") => `(tactic| (k_here; (with_reducible show wpAny _ _ (call (Value.ref 173) _) _ _ _); k_dflt (refine' SpecA.useI ?k1 ?k2 ?k3 ?k4 ?k5 ?k6 ?k7 ?k8 ?k9 (lawArea_spec2 ?s1 ?s2) ?_; walk_at "zz u"; (case k9 => walk_at "zz p"); walk_at "zz s"); intro _ _ _ _ _; (try dsimp only)))
set_option hygiene false in
local macro_rules | `(tactic| walk_at "call ref") => `(tactic| (k_here; (with_reducible show wpAny _ _ (call (Value.ref 116) _) _ _ _); k_dflt (first | (refine' SpecA.useNone ?k1 ?k2 ?k3 ?k4 ?k5 ?k6 ?k7 ?k8 ?k9 (oneSense_spec ?s1) ?s9 ?_; walk_at "zz u"; (case k9 => walk_at "zz p"); (case s9 => assumption); walk_at "zz s"; intro _ _ _ _) | (refine' SpecA.useSome ?k1 ?k2 ?k3 ?k4 ?k5 ?k6 ?k7 ?k8 ?k9 (oneSense_spec ?s1) ?s9 ?_; walk_at "zz u"; (case k9 => walk_at "zz p"); (case s9 => assumption); walk_at "zz s"; intro _ _ _ _ _ _ kq9 _ _; (have hq9 := kq9 _ (by assumption)))); (try dsimp only)))
set_option hygiene false in
local macro_rules | `(tactic| walk_at "zz e") => `(tactic| ((case za => exact News.isTup (by k_asm) (by k_mem)); (case zb => exact News.isTup (by k_asm) (by k_mem)); (case zc => exact PtsAre.keeps (Fr.keep (by assumption)) (by assumption)); (case zd => exact PtsAre.keeps (Fr.keep (by assumption)) (by assumption)); (case zr => (((repeat (with_reducible rename (And _ _) => hx9; clear hx9)); (repeat (rename (@Ne Nat _ _) => hx9; clear hx9)); (have hcL9 := cLine_is); simp +zetaDelta only [units_in1, units_deeper, Around.mark_units, units_caller]; (try dsimp only [ktrTop]); omega)))))
set_option hygiene false in
local macro_rules | `(tactic| walk_at "compareOp NotEq ref ref") => `(tactic| ((rename StopAt 7 => mk9); k_dflt (refine' ne_tups ?za ?zb ?zc ?zd ?zr ?_; walk_at "zz e"); (try simp only [eq_self, decide_true, Bool.not_true])))
set_option hygiene false in
local macro_rules | `(tactic| walk_at "compareOp Eq ref ref") => `(tactic| ((rename StopAt 7 => mk9); k_dflt (refine' eq_tups ?za ?zb ?zc ?zd ?zr ?_; walk_at "zz e"); (try simp only [eq_self, decide_true])))
section
variable {w : World} {p : Program} {loose : List Str} {mean : ExcName → Option Value} {mg mb : Str → Option Value} {news : List (Addr × Obj)}
theorem spots_spec {l : Addr} {vs : List Value} {ps : List P2} (h0 : 0 < ps.length) (hn : ps.length < 1000) :
    SpecA w p loose mean mg mb 180 40 [.ref l] (fun h => SeqIs h l vs ∧ PtsAre h vs ps) (fun r nx => r = .bool true ∧ nx = []) := by
  w_top off
  unfold SpecA
  k_fill
  intro dp un gd cn cs a ccd cl outer A₀ base h₀ L m s Q E B F X N T hk hd hu hpre hret
  obtain ⟨hS, hP⟩ := hpre
  have hlen := hP.length
  have hps : ps ≠ [] := List.length_pos_iff.mp h0
  refine wpAny_call ?_
  k_dflt (refine' enterZ ?k1 ?k2 ?k3 ?k5 ?kA ?kF ?kK ?k6 ?k7 ?k8 ?k9 ?kB ?_ ?c2 ?c3 ?c4 ?c5; (case kA => exact rfl); (case kF => exact rfl); (case kK => assumption); (case k1 => k_asm); (case k2 => k_asm); (case k3 => k_asm); (case k5 => k_asm); (case k6 => k_is); (case k7 => k_is); (case k8 => ktr_room); (case k9 => exact BindsTo.of_eq rfl); (case c5 => decide); (case kB => exact locs rfl); (case c2 => exact rfl); (case c3 => exact rfl); (case c4 => exact rfl); k_whole; intro L' h' F' N' B' X' T'; (try dsimp only); (try k_fold); (refine foldA ?_); intro ak)
  have mk := StopAt.mark (n := 3) trivial
  have mk7 := StopAt.mark (n := 7) trivial
  (repeat' (first | (k_unfold; (try dsimp only)) | (k_end; kc_close) | ((first | (with_reducible show wpAny _ _ (exec _ _) _ _ _) | (with_reducible show wpAny _ _ (eval (PySem.Expr.BinOp _ _ _ _) _) _ _ _) | (with_reducible show wpAny _ _ (eval (PySem.Expr.Call _ _ _ _) _) _ _ _)); k_fold) | walk1 | (dsimp only; walk1) | (leave1; walk_say "STEP leave1"; (try dsimp only)) | fail "no step"))
  refine' SpecA.use (lawSensed_spec hps hn) ?k1 ?k2 ?k3 ?k4 ?k5 ?k6 ?k7 ?k8 ?hp ?_; (case k1 => k_asm); (case k2 => k_asm); (case k3 => k_asm); (case k4 => k_asm); (case k5 => k_asm); (case k6 => first | assumption | exact rfl); (case k7 => ktr_room); (case k8 => ktr_units); (case hp => exact ⟨by (first | assumption | exact SeqIs.keeps (by assumption) (Fr.keep (by assumption)) | exact SeqIs.newsL (by k_asm) (by k_mem) | exact SeqIs.newsT (by k_asm) (by k_mem)), by exact PtsAre.keeps (Fr.keep (by assumption)) (by assumption)⟩)
  intro r9 nx9 h9 tk9 hp9 a9 s9 F9 N9
  rcases hp9 with ⟨hs, rfl, rfl⟩ | ⟨q, c, us, n, hs, rfl, rfl, hul, hk⟩
  · (try simp only [List.cons_append, List.nil_append] at N9)
    clear a9 s9
    (repeat' (first | (k_unfold; (try dsimp only)) | (k_end; kc_close) | ((first | (with_reducible show wpAny _ _ (exec _ _) _ _ _) | (with_reducible show wpAny _ _ (eval (PySem.Expr.BinOp _ _ _ _) _) _ _ _) | (with_reducible show wpAny _ _ (eval (PySem.Expr.Call _ _ _ _) _) _ _ _)); k_fold) | walk1 | (dsimp only; walk1) | (leave1; walk_say "STEP leave1"; (try dsimp only)) | fail "no step"))
    · exact absurd rfl (by assumption : area2 ps ≠ area2 ps)
    · exact finA hret (by assumption) (by assumption) (by assumption) (by assumption) ⟨rfl, rfl⟩ (by lcg_sub) (by lcg_sub)
  · (try simp only [List.cons_append, List.nil_append] at N9)
    (try simp only [ApartA, OffA, and_true] at a9)
    have hQ := hk _ hP
    have hql : q.length < 1000 := by rw [← hQ.length]; exact hul
    obtain ⟨hpos, hag⟩ := sensed_again hps hs
    (repeat' (first | (k_unfold; (try dsimp only)) | (k_end; kc_close) | ((first | (with_reducible show wpAny _ _ (exec _ _) _ _ _) | (with_reducible show wpAny _ _ (eval (PySem.Expr.BinOp _ _ _ _) _) _ _ _) | (with_reducible show wpAny _ _ (eval (PySem.Expr.Call _ _ _ _) _) _ _ _)); k_fold) | walk1 | (dsimp only; walk1) | (leave1; walk_say "STEP leave1"; (try dsimp only)) | fail "no step"))
    · exact absurd rfl (by assumption : area2 ps ≠ area2 ps)
    · exact finA hret (by assumption) (by assumption) (by assumption) (by assumption) ⟨rfl, rfl⟩ (by lcg_sub) (by lcg_sub)
end
/-- the source's object: a list of two counts -/
def Src (o : Obj) : Prop := ∃ a ta b tb n, 0 ≤ a ∧ 0 ≤ b ∧ b < 2 ^ 31 ∧ o = listOf #[.int a ta, .int b tb] n
theorem SpecA.useS {w : World} {p : Program} {loose : List Str} {mean : ExcName → Option Value} {mg mb : Str → Option Value} {f : Addr} {need : Nat} {vs : List Value} {all : List (Addr × Obj)} {Pre : Heap → Prop}
    {dp un : Nat} {gd : Option (List Code)} {cn : Str} {cs : Scope} {a : Addr} {ccd : Value} {cl : List (Str × Addr)} {outer : List Env} {A₀ : Around} {base h₀ : Heap} {L : Addr} {m : Str → Option Value} {s : Shared} {Q E : Value → Shared → Prop} 
    (B : Below A₀ base outer h₀) (F : Fr h₀ L s.heap m) (X : (K39 w.params).In h₀) (N : News h₀ L s.heap all) (T : Top p loose mean mg mb h₀) (hk : cs.kind = .function)
    (hd : dp + need < recursionLimit) (hu : un + 8 * need < cLine) (hp : Pre s.heap) (S : SpecA w p loose mean mg mb f need vs Pre (fun r nx => ∃ c o, r = .ref c ∧ nx = [(c, o)] ∧ Src o))
    (ret : ∀ c o h' tk', Src o → OffA c all → Fr h₀ L h' m → News h₀ L h' ((c, o) :: all) → Q (.ref c) { s with heap := h', toks := tk' }) :
    wpAny (model PySem.Challenge.rw_on0223_01.row.prog w) (ktrTop dp un gd cn cs L a ccd cl outer) (call (.ref f) vs) Q E s :=
  SpecA.use S B F X N T hk hd hu hp fun _ _ h' tk' hp9 a9 _ F' N' => by obtain ⟨c, o, rfl, rfl, ho⟩ := hp9; exact ret c o h' tk' ho a9.1 F' N'

theorem fmod_nn (a : Int) {b : Int} (h : 0 < b) : 0 ≤ Int.fmod a b := by
  rw [Int.fmod_eq_emod_of_nonneg _ (Int.le_of_lt h)]
  exact Int.emod_nonneg _ (Int.ne_of_gt h)
local macro_rules | `(tactic| k_all) => `(tactic| with_reducible assumption)
local macro_rules | `(tactic| walk_at "subscriptTail") => `(tactic| ((rename StopAt 8 => mk9); (with_reducible show wpAny _ _ (subscriptTail _ _ (Value.ref _) (Value.int _ _)) _ _ _); k_dflt (refine' item_listL ?l ?a ?b ?x ?_ ?s ?g; (case l => exact News.isList (by k_asm) (by k_mem)); (case a => decide); (case b => decide); (case x => exact rfl); (case s => with_unfolding_all rfl); (case g => intro _; with_unfolding_all rfl); k_whole)))
local macro_rules | `(tactic| walk_at "subscriptTail Name Constant ref int") => `(tactic| ((rename StopAt 8 => mk9); (with_reducible show wpAny _ _ (subscriptTail _ _ (Value.ref _) (Value.int _ _)) _ _ _); k_dflt (refine' item_listL ?l ?a ?b ?x ?_ ?s ?g; (case l => exact News.isList (by k_asm) (by k_mem)); (case a => decide); (case b => decide); (case x => exact rfl); (case s => with_unfolding_all rfl); (case g => intro _; with_unfolding_all rfl); k_whole)))
section
variable {w : World} {p : Program} {loose : List Str} {mean : ExcName → Option Value} {mg mb : Str → Option Value}
theorem take_spec {src : Addr} {o : Obj} {rest : List (Addr × Obj)} {top : Int} {t : Tok} (ho : Src o) (hoff : ∀ p ∈ rest, p.1 ≠ src) (h0 : 0 < top) (h1 : top < 2 ^ 60) :
    Spec w p loose mean mg mb 130 3 [.ref src, .int top t] ((src, o) :: rest) (fun r nx => ∃ v t o', r = .int v t ∧ 0 ≤ v ∧ v < top ∧ Src o' ∧ nx = (src, o') :: rest) := by
  obtain ⟨c0, ta, c1, tb, n, ha, hb, hb', rfl⟩ := ho
  w_top off
  unfold Spec
  k_fill
  intro dp un gd cn cs a ccd cl outer A₀ base h₀ L m s Q E B F X N T hk hd hu hret
  refine wpAny_call ?_
  k_dflt cell_enter
  have mk8 := StopAt.mark (n := 8) trivial
  (repeat' (first | (k_unfold; (try dsimp only)) | (k_end; kc_close) | ((first | (with_reducible show wpAny _ _ (exec _ _) _ _ _) | (with_reducible show wpAny _ _ (eval (PySem.Expr.BinOp _ _ _ _) _) _ _ _) | (with_reducible show wpAny _ _ (eval (PySem.Expr.Call _ _ _ _) _) _ _ _)); k_fold) | walk1 | (dsimp only; walk1) | (leave1; walk_say "STEP leave1"; (try dsimp only)) | fail "no step"))
  · refine hret _ ((src, listOf #[.int _ _, .int _ _] _) :: rest) _ _ ?_ (by assumption) (by assumption)
    exact ⟨_, _, _, rfl, fmod_nn _ h0, Int.fmod_lt_of_pos _ h0, ⟨_, _, _, _, _, Int.fdiv_nonneg ha (Int.le_of_lt h0), hb, hb', rfl⟩, rfl⟩
  · refine hret _ ((src, listOf #[.int _ _, .int _ _] _) :: rest) _ _ ?_ (by assumption) (by assumption)
    exact ⟨_, _, _, rfl, fmod_nn _ h0, Int.fmod_lt_of_pos _ h0, ⟨_, _, _, _, _, ha, fmod_nn _ (by decide), Int.lt_of_lt_of_le (Int.fmod_lt_of_pos _ (by decide)) (by decide), rfl⟩, rfl⟩
end
section
variable {w : World} {p : Program} {loose : List Str} {mean : ExcName → Option Value} {mg mb : Str → Option Value} {src : Addr} {o : Obj} {all : List (Addr × Obj)} {g : Obj → List (Addr × Obj)}
  {dp un : Nat} {gd : Option (List Code)} {cn : Str} {cs : Scope} {a : Addr} {ccd : Value} {cl : List (Str × Addr)} {outer : List Env} {A₀ : Around} {base h₀ : Heap} {L : Addr} {m : Str → Option Value} {s : Shared} {Q E : Value → Shared → Prop}
theorem take_use {top : Int} {t : Tok} (ho : Src o) (U : UpdF src o all g) (h0 : 0 < top) (h1 : top < 2 ^ 60)
    (B : Below A₀ base outer h₀) (F : Fr h₀ L s.heap m) (X : (K39 w.params).In h₀) (N : News h₀ L s.heap all) (T : Top p loose mean mg mb h₀) (hk : cs.kind = .function) (hd : dp + 3 < recursionLimit) (hu : un + 8 * 3 < cLine)
    (ret : ∀ v t o' h' tk', 0 ≤ v → v < top → Src o' → Fr h₀ L h' m → News h₀ L h' (g o') → Q (.int v t) { s with heap := h', toks := tk' }) :
    wpAny (model PySem.Challenge.rw_on0223_01.row.prog w) (ktrTop dp un gd cn cs L a ccd cl outer) (call (.ref 130) [.ref src, .int top t]) Q E s := by
  obtain ⟨pre, post, rfl, hg, h2, h3⟩ := U.split
  refine Spec.use (take_spec (rest := pre ++ post) ho (fun q hq => (List.mem_append.mp hq).elim (h2 q) (h3 q)) h0 h1) B F X (fun q hq => N q ?_) T hk hd hu ?_
  · rcases List.mem_cons.mp hq with rfl | hq
    · exact List.mem_append.mpr (.inr List.mem_cons_self)
    · exact List.mem_append.mpr ((List.mem_append.mp hq).imp id (List.mem_cons_of_mem _))
  · rintro r nx h' tk' ⟨v, t, o', rfl, a1, a2, a3, rfl⟩ F' N'
    refine ret v t o' h' tk' a1 a2 a3 F' ?_
    rw [hg]
    intro q hq
    refine N' q ?_
    rcases List.mem_append.mp hq with hq | hq
    · exact List.mem_cons_of_mem _ (List.mem_append.mpr (.inl hq))
    · rcases List.mem_cons.mp hq with rfl | hq
      · exact List.mem_cons_self
      · exact List.mem_cons_of_mem _ (List.mem_append.mpr (.inr hq))
theorem item_any {prog : Program} {A : Around} {value slice : PySem.Expr} {l : Addr} {vs : List Value} {k : Int} {u : Tok} (hl : SeqIs s.heap l vs) (h0 : 0 ≤ k) (h1 : k < (vs.length : Int)) (hn : vs.length < 1000)
    (h : ∀ x, x ∈ vs → Q x s)
    (hs : subscripted slice false (.ref l) (.int k u) = operate [.ref l, .int k u] (getItem (.ref l) (.int k u)) := by with_unfolding_all rfl) (hg : ∀ r, letTemporaryGo value (.ref l) r = pure () := by intro _; with_unfolding_all rfl) :
    wpAny (model prog w) A (subscriptTail value slice (.ref l) (.int k u)) Q E s := by
  have hlt : idx k vs.length < vs.length := idx_lt (by omega) h1
  exact item_seq hl (by omega) h1 (by omega) (List.getElem?_eq_getElem hlt) (h _ (List.getElem_mem hlt)) hs hg
end
theorem ten12 : (10 : Int) ^ Int.toNat 12 = 1000000000000 := by decide
theorem ten6 : (10 : Int) ^ Int.toNat 6 = 1000000 := by decide
set_option hygiene false in
local macro_rules | `(tactic| walk_at "call ref") => `(tactic| (k_here; (with_reducible show wpAny _ _ (call (Value.ref 130) _) _ _ _); k_dflt (refine' take_use ?zho ?zU ?s1 ?s2 ?k1 ?k2 ?k3 ?k4 ?k5 ?k6 ?k7 ?k8 ?_; (case k4 => k_asm); (case zU => k_updF); (case zho => with_reducible assumption); (case s1 => first | omega | decide); (case s2 => first | omega | decide); walk_at "zz u"); intro _ _ _ _ _ _ bv8 _ _ N9; (try simp only [ten12, ten6] at bv8); (try dsimp only at N9); (try dsimp only)))
local macro_rules | `(tactic| walk_at "call builtin:len") => `(tactic| ((rename StopAt 9 => mk9); k_dflt (refine' len_seq ?S ?n ?_; (case S => exact SeqIs.newsL (by k_asm) (List.mem_cons_of_mem _ (by assumption))); (case n => omega); k_whole); intro t9 tk9; (try dsimp only)))
local macro_rules | `(tactic| walk_at "subscriptTail") => `(tactic| ((rename StopAt 9 => mk9); (with_reducible show wpAny _ _ (subscriptTail _ _ (Value.ref _) (Value.int _ _)) _ _ _); k_dflt (refine' item_any ?S ?a ?b ?n ?_ ?s ?g; (case S => exact SeqIs.newsL (by k_asm) (List.mem_cons_of_mem _ (by assumption))); (case a => omega); (case b => omega); (case n => omega); (case s => with_unfolding_all rfl); (case g => intro _; with_unfolding_all rfl); k_whole); intro x9 hx9))
section
variable {w : World} {p : Program} {loose : List Str} {mean : ExcName → Option Value} {mg mb : Str → Option Value}
theorem one_spec {src th : Addr} {o : Obj} {rest : List (Addr × Obj)} {vs : List Value} {n : Nat} (ho : Src o) (hoff : ∀ p ∈ rest, p.1 ≠ src) (hm : (th, listOf vs.toArray n) ∈ rest) (h0 : 0 < vs.length) (h1 : vs.length < 1000) :
    Spec w p loose mean mg mb 137 8 [.ref src, .ref th] ((src, o) :: rest) (fun r nx => ∃ o', r ∈ vs ∧ Src o' ∧ nx = (src, o') :: rest) := by
  w_top off
  unfold Spec
  k_fill
  intro dp un gd cn cs a ccd cl outer A₀ base h₀ L m s Q E B F X N T hk hd hu hret
  refine wpAny_call ?_
  k_dflt cell_enter
  have mk9 := StopAt.mark (n := 9) trivial
  (repeat' (first | (k_unfold; (try dsimp only)) | (k_end; kc_close) | ((first | (with_reducible show wpAny _ _ (exec _ _) _ _ _) | (with_reducible show wpAny _ _ (eval (PySem.Expr.BinOp _ _ _ _) _) _ _ _) | (with_reducible show wpAny _ _ (eval (PySem.Expr.Call _ _ _ _) _) _ _ _)); k_fold) | walk1 | (dsimp only; walk1) | (leave1; walk_say "STEP leave1"; (try dsimp only)) | fail "no step"))
  exact hret _ _ _ _ ⟨_, by assumption, by assumption, rfl⟩ (by assumption) (by assumption)
end
theorem item_int {prog : Program} {w : World} {A : Around} {s : Shared} {Q E : Value → Shared → Prop} {value slice : PySem.Expr} {l : Addr} {vs : List Value} {ns : List Int} {k : Int} {u : Tok} (hl : SeqIs s.heap l vs) (hi : IntsAre vs ns) (h0 : 0 ≤ k) (h1 : k < (vs.length : Int)) (hn : vs.length < 1000)
    (h : ∀ z t, Q (.int z t) s)
    (hs : subscripted slice false (.ref l) (.int k u) = operate [.ref l, .int k u] (getItem (.ref l) (.int k u)) := by with_unfolding_all rfl) (hg : ∀ r, letTemporaryGo value (.ref l) r = pure () := by intro _; with_unfolding_all rfl) :
    wpAny (model prog w) A (subscriptTail value slice (.ref l) (.int k u)) Q E s := by
  refine item_any hl h0 h1 hn (fun x hx => ?_) hs hg
  have : ∀ {vs : List Value} {ns : List Int}, IntsAre vs ns → ∀ x, x ∈ vs → ∃ z t, x = .int z t := by
    intro vs ns hi
    induction hi with
    | nil => intro x hx; nomatch hx
    | cons k t r ih =>
      intro x hx
      rcases List.mem_cons.mp hx with rfl | hx
      · exact ⟨_, _, rfl⟩
      · exact ih x hx
  obtain ⟨z, t, rfl⟩ := this hi x hx
  exact h z t
theorem big_nn (z : Int) : 0 ≤ (if -1 - z > z then -1 - z else z) := by split <;> omega
theorem big_nn2 (z : Int) (b : Bool) : 0 ≤ (if -1 - z > z then -1 - z else z) * (if b = true then 1 else 0) := Int.mul_nonneg (big_nn z) (by split <;> decide)
theorem mod31 (z : Int) : 0 ≤ Int.fmod z 2147483647 ∧ Int.fmod z 2147483647 < 2 ^ 31 := ⟨fmod_nn _ (by decide), Int.lt_of_lt_of_le (Int.fmod_lt_of_pos _ (by decide)) (by decide)⟩
local macro_rules | `(tactic| walk_at "subscriptTail") => `(tactic| ((rename StopAt 10 => mk9); (with_reducible show wpAny _ _ (subscriptTail _ _ (Value.ref _) (Value.int _ _)) _ _ _); k_dflt (refine' item_int ?S ?I ?a ?b ?n ?_ ?s ?g; (case S => (first | assumption | exact SeqIs.keeps (by assumption) (Fr.keep (by assumption)) | exact SeqIs.newsL (by k_asm) (by k_mem) | exact SeqIs.newsT (by k_asm) (by k_mem))); (case I => with_reducible assumption); (case a => omega); (case b => omega); (case n => omega); (case s => with_unfolding_all rfl); (case g => intro _; with_unfolding_all rfl); k_whole); intro z9 t9))
section
variable {w : World} {p : Program} {loose : List Str} {mean : ExcName → Option Value} {mg mb : Str → Option Value}
theorem pool_spec {scr : Addr} {vs : List Value} {ns : List Int} {k : Int} {t : Tok} (hi : IntsAre vs ns) (hn : vs.length < 1000) (h0 : 0 ≤ k) (h1 : k < 100) :
    SpecA w p loose mean mg mb 123 3 [.ref scr, .int k t] (fun h => SeqIs h scr vs) (fun r nx => ∃ c o, r = .ref c ∧ nx = [(c, o)] ∧ Src o) := by
  w_top off
  unfold SpecA
  k_fill
  intro dp un gd cn cs a ccd cl outer A₀ base h₀ L m s Q E B F X N T hk hd hu hpre hret
  have mk10 := StopAt.mark (n := 10) trivial
  refine wpAny_call ?_
  k_dflt (refine' enterZ ?k1 ?k2 ?k3 ?k5 ?kA ?kF ?kK ?k6 ?k7 ?k8 ?k9 ?kB ?_ ?c2 ?c3 ?c4 ?c5; (case kA => exact rfl); (case kF => exact rfl); (case kK => assumption); (case k1 => k_asm); (case k2 => k_asm); (case k3 => k_asm); (case k5 => k_asm); (case k6 => k_is); (case k7 => k_is); (case k8 => ktr_room); (case k9 => exact BindsTo.of_eq rfl); (case c5 => decide); (case kB => exact locs rfl); (case c2 => exact rfl); (case c3 => exact rfl); (case c4 => exact rfl); k_whole; intro L' h' F' N' B' X' T'; (try dsimp only); (try k_fold); (refine foldA ?_); intro ak)
  (repeat' (first | (k_unfold; (try dsimp only)) | (k_end; kc_close) | ((first | (with_reducible show wpAny _ _ (exec _ _) _ _ _) | (with_reducible show wpAny _ _ (eval (PySem.Expr.BinOp _ _ _ _) _) _ _ _) | (with_reducible show wpAny _ _ (eval (PySem.Expr.Call _ _ _ _) _) _ _ _)); k_fold) | walk1 | (dsimp only; walk1) | (leave1; walk_say "STEP leave1"; (try dsimp only)) | fail "no step"))
  all_goals
    refine finA (nx := [(_, listOf #[.int _ _, .int _ _] 0)]) hret (by assumption) (by assumption) (by assumption) (by assumption) ⟨_, _, rfl, rfl, _, _, _, _, _, ?_, ?_, ?_, rfl⟩ (by intro q hq; exact hq) (by intro q hq; exact hq)
    · exact big_nn2 _ _
    · exact (mod31 _).1
    · exact (mod31 _).2
end
section
variable {w : World} {p : Program} {loose : List Str} {mean : ExcName → Option Value} {mg mb : Str → Option Value} {src th : Addr} {o : Obj} {all : List (Addr × Obj)} {g : Obj → List (Addr × Obj)} {vs : List Value} {n : Nat}
  {dp un : Nat} {gd : Option (List Code)} {cn : Str} {cs : Scope} {a : Addr} {ccd : Value} {cl : List (Str × Addr)} {outer : List Env} {A₀ : Around} {base h₀ : Heap} {L : Addr} {m : Str → Option Value} {s : Shared} {Q E : Value → Shared → Prop}
theorem one_use (ho : Src o) (U : UpdF src o all g) (hm : (th, listOf vs.toArray n) ∈ all) (hne : th ≠ src) (h0 : 0 < vs.length) (h1 : vs.length < 1000)
    (B : Below A₀ base outer h₀) (F : Fr h₀ L s.heap m) (X : (K39 w.params).In h₀) (N : News h₀ L s.heap all) (T : Top p loose mean mg mb h₀) (hk : cs.kind = .function) (hd : dp + 8 < recursionLimit) (hu : un + 8 * 8 < cLine)
    (ret : ∀ v o' h' tk', v ∈ vs → Src o' → Fr h₀ L h' m → News h₀ L h' (g o') → Q v { s with heap := h', toks := tk' }) :
    wpAny (model PySem.Challenge.rw_on0223_01.row.prog w) (ktrTop dp un gd cn cs L a ccd cl outer) (call (.ref 137) [.ref src, .ref th]) Q E s := by
  obtain ⟨pre, post, rfl, hg, h2, h3⟩ := U.split
  have hm2 : (th, listOf vs.toArray n) ∈ pre ++ post := by
    rcases List.mem_append.mp hm with h | h
    · exact List.mem_append.mpr (.inl h)
    · rcases List.mem_cons.mp h with h | h
      · exact absurd (congrArg Prod.fst h) hne
      · exact List.mem_append.mpr (.inr h)
  refine Spec.use (one_spec (rest := pre ++ post) ho (fun q hq => (List.mem_append.mp hq).elim (h2 q) (h3 q)) hm2 h0 h1) B F X (fun q hq => N q ?_) T hk hd hu ?_
  · rcases List.mem_cons.mp hq with rfl | hq
    · exact List.mem_append.mpr (.inr List.mem_cons_self)
    · exact List.mem_append.mpr ((List.mem_append.mp hq).imp id (List.mem_cons_of_mem _))
  · rintro r nx h' tk' ⟨o', a1, a3, rfl⟩ F' N'
    refine ret r o' h' tk' a1 a3 F' ?_
    rw [hg]
    intro q hq
    refine N' q ?_
    rcases List.mem_append.mp hq with hq | hq
    · exact List.mem_cons_of_mem _ (List.mem_append.mpr (.inl hq))
    · rcases List.mem_cons.mp hq with rfl | hq
      · exact List.mem_cons_self
      · exact List.mem_cons_of_mem _ (List.mem_append.mpr (.inr hq))
end
theorem cases2 {v : Value} {x y : Int} {t u : Tok} {G : Prop} (h : v ∈ [Value.int x t, Value.int y u]) (lo hi : Int) (hx : lo ≤ x ∧ x ≤ hi) (hy : lo ≤ y ∧ y ≤ hi) (k : ∀ z t, v = .int z t → lo ≤ z → z ≤ hi → G) : G := by
  rcases List.mem_cons.mp h with rfl | h
  · exact k _ _ rfl hx.1 hx.2
  · cases List.mem_singleton.mp h
    exact k _ _ rfl hy.1 hy.2
theorem cases3 {v : Value} {x y z : Int} {t u r : Tok} {G : Prop} (h : v ∈ [Value.int x t, Value.int y u, Value.int z r]) (lo hi : Int) (hx : lo ≤ x ∧ x ≤ hi) (hy : lo ≤ y ∧ y ≤ hi) (hz : lo ≤ z ∧ z ≤ hi) (k : ∀ z t, v = .int z t → lo ≤ z → z ≤ hi → G) : G := by
  rcases List.mem_cons.mp h with rfl | h
  · exact k _ _ rfl hx.1 hx.2
  · exact cases2 h lo hi hy hz k
theorem two_small {u : Int} (h : u.natAbs < 50) : (2 * u).natAbs < 100 := by omega
/-- a tuple of two small ints that stands in a ledger -/
def TupIn (T : List (Addr × Obj)) (v : Value) : Prop := ∃ (a : Addr) (x y : Int) (t u : Tok) (n : Nat), v = .ref a ∧ (a, ({ cls := .type "tuple", data := .seq #[.int x t, .int y u] n } : Obj)) ∈ T ∧ x.natAbs < 50 ∧ y.natAbs < 100
theorem TupIn.mono {T T' : List (Addr × Obj)} {v : Value} (h : TupIn T v) (k : ∀ q ∈ T, q ∈ T') : TupIn T' v := by
  obtain ⟨a, x, y, t, u, n, e, m, b⟩ := h
  exact ⟨a, x, y, t, u, n, e, k _ m, b⟩
theorem TupIn.intro {T : List (Addr × Obj)} {a : Addr} {x y : Int} {t u : Tok} {n : Nat} (m : (a, ({ cls := .type "tuple", data := .seq #[.int x t, .int y u] n } : Obj)) ∈ T) (b : x.natAbs < 50) (c : y.natAbs < 100) : TupIn T (.ref a) :=
  ⟨a, x, y, t, u, n, rfl, m, b, c⟩
theorem tups_pts {T : List (Addr × Obj)} : ∀ {ys : List Value}, (∀ y ∈ ys, TupIn T y) → ∃ ps : List P2, ps.length = ys.length ∧ ∀ g : Heap, (∀ q ∈ T, g.get? q.1 = some q.2) → PtsAre g ys ps
  | [], _ => ⟨[], rfl, fun _ _ => trivial⟩
  | v :: ys, h => by
    obtain ⟨ps, e, k⟩ := tups_pts (ys := ys) fun y hy => h y (List.mem_cons_of_mem _ hy)
    obtain ⟨a, x, y, t, u, n, rfl, m, b, c⟩ := h v List.mem_cons_self
    refine ⟨(x, y) :: ps, by rw [List.length_cons, List.length_cons, e], fun g hg => ⟨⟨⟨a, t, u, rfl, ⟨_, hg _ m, rfl, n, rfl⟩⟩, ?_, c⟩, k g hg⟩⟩
    exact Nat.lt_of_lt_of_le b (by decide)
theorem compEnd_new {h₀ h' : Heap} {L I C D Dn : Addr} {m : Str → Option Value} {s₁ : Shared} {oI oC oD on : Obj} {y : Value} {tk : Nat} {nx : List (Addr × Obj)} {Z : Prop} (F : Fr h₀ L h' m) (N : News h₀ L h' ((Dn, on) :: (I, oI) :: (C, oC) :: (D, oD) :: nx))
    (l : I < Dn ∧ C < Dn ∧ D < Dn ∧ Z) (off : LCg.Off3 I C D nx) (hT : TupIn ((Dn, on) :: nx) y) :
    LCg.CompEnd h₀ L m s₁ I oI C oC D oD (fun _ => True) (fun y news' => (∀ q ∈ nx, q ∈ news') ∧ TupIn news' y) y { s₁ with heap := h', toks := tk } := by
  refine LCg.CompEnd.intro F N ((Dn, on) :: nx) ?_ ⟨⟨Nat.ne_of_gt l.1, Nat.ne_of_gt l.2.1, Nat.ne_of_gt l.2.2.1⟩, off⟩ trivial ⟨fun q hq => List.mem_cons_of_mem _ hq, hT⟩
  intro p hp
  simp only [List.mem_cons] at hp ⊢
  rcases hp with h | h | h | h | h
  · exact .inr (.inl h)
  · exact .inr (.inr (.inl h))
  · exact .inr (.inr (.inr (.inl h)))
  · exact .inl h
  · exact .inr (.inr (.inr (.inr h)))
section
variable {prog : Program} {w : World} {A : Around} {h₀ : Heap} {L : Addr} {m : Str → Option Value} {env : Env} {elt : Expr} {x x₂ : Str} {scope : Scope} {cl : List (Str × Addr)} {s : Shared} {S : List (Addr × Obj) → Prop} {P : Nat → Value → Prop} {Fin : List Value → List (Addr × Obj) → Prop} {news : List (Addr × Obj)}
/-- a comprehension that takes pairs apart, by what holds between the turns -/
theorem restP {n : Nat} (Inv : Nat → List Value → List (Addr × Obj) → Prop) (start : Inv 0 [] news)
    (turn : ∀ i ys news v, i < n → P i v → Inv i ys news → ∃ (t : Addr) (ot : Obj) (v₁ v₂ : Value) (nt : Nat), v = .ref t ∧ (t, ot) ∈ news ∧ ot.cls = .type "tuple" ∧ ot.data = .seq #[v₁, v₂] nt ∧
      ∀ I oI C oC D m₂ h tk (E' : Value → Shared → Prop), LCg.NsObj oC m₂ → m₂ x = some v₁ → m₂ x₂ = some v₂ → Fr h₀ L h m → News h₀ L h ((I, oI) :: (C, oC) :: (D, LCg.lst ys) :: news) → LCg.Off3 I C D news → ((@Ne Nat I C) ∧ (@Ne Nat I D) ∧ (@Ne Nat C D)) →
      wpAny (model prog w) A (eval elt (compEnvC scope cl C env)) (LCg.CompEnd h₀ L m { s with heap := h, toks := tk } I oI C oC D (LCg.lst ys) S (fun y news' => Inv (i + 1) (ys ++ [y]) news')) E' { s with heap := h, toks := tk })
    (fin : ∀ ys news', Inv n ys news' → Fin ys news') : LCp.CompRestP prog w A h₀ L m env elt x x₂ scope cl s S P Fin n 0 [] news := by
  have key : ∀ (j i : Nat) ys news, i + j = n → Inv i ys news → LCp.CompRestP prog w A h₀ L m env elt x x₂ scope cl s S P Fin j i ys news := by
    intro j
    induction j with
    | zero =>
      intro i ys news hi hv
      obtain rfl : i = n := by omega
      exact LCp.CompRestP.zero (fin _ _ hv)
    | succ j ih =>
      intro i ys news hi hv
      refine LCp.CompRestP.succ ?_
      intro v hP
      obtain ⟨t, ot, v₁, v₂, nt, a, b, c, d, k⟩ := turn i ys news v (by omega) hP hv
      refine ⟨t, ot, v₁, v₂, nt, a, b, c, d, ?_⟩
      intro I oI C oC D m₂ h tk E' hC hx hy F N off ne
      refine wpAny_mono (k I oI C oC D m₂ h tk E' hC hx hy F N off ne) (fun y s₂ hr => ?_) fun _ _ e => e
      obtain ⟨h', tk', nw, e, F', N', off', hS, hI⟩ := hr
      exact ⟨h', tk', nw, e, F', N', off', hS, ih (i + 1) _ _ (by omega) hI⟩
  exact key n 0 [] news (by omega) start
end
theorem News.widen {h₀ h : Heap} {L : Addr} {a b : Addr × Obj} {base nx : List (Addr × Obj)} (N : News h₀ L h (a :: b :: nx)) (k : ∀ q ∈ base, q ∈ nx) : News h₀ L h (a :: b :: (base ++ nx)) := fun q hq => by
  rcases List.mem_cons.mp hq with e | hq
  · exact N q (List.mem_cons.mpr (.inl e))
  rcases List.mem_cons.mp hq with e | hq
  · exact N q (List.mem_cons_of_mem _ (List.mem_cons.mpr (.inl e)))
  · refine N q (List.mem_cons_of_mem _ (List.mem_cons_of_mem _ ?_))
    exact (List.mem_append.mp hq).elim (k q) id
section
variable {prog : Program} {w : World} {A : Around} {E : Value → Shared → Prop} {s : Shared} {h₀ : Heap} {L a b : Addr} {m : Str → Option Value} {news : List (Addr × Obj)} {vs ws : List Value} {Q : Value → Shared → Prop}
theorem add_L (F : Fr h₀ L s.heap m) (N : News h₀ L s.heap news) (ha : s.heap.IsList a vs.toArray) (hb : s.heap.IsList b ws.toArray) (h1 : vs.length < 1000) (h2 : ws.length < 1000)
    (h : ∀ D h', Fr h₀ L h' m → News h₀ L h' ((D, listOf (vs ++ ws).toArray 0) :: news) → (∀ p ∈ news, p.1 < D) → Q (.ref D) { s with heap := h' }) :
    wpAny (model prog w) A (binaryOp .Add (.ref a) (.ref b)) Q E s :=
  kmk_add_lit F N ha hb (by simp) h (by simp [PySem.sizeLine_eq]; omega)
end
section
variable {prog : Program} {w : World} {A : Around} {h₀ : Heap} {L : Addr} {m : Str → Option Value} {env : Env} {elt : Expr} {x x₂ : Str} {scope : Scope} {cl : List (Str × Addr)} {s₁ : Shared} {Fin : Shared → List Value → List (Addr × Obj) → Prop} {base : List (Addr × Obj)}
/-- tuples that stand in the ledger, taken apart one by one; each turn tells another such tuple -/
theorem pairs_src {ax : Addr} {vs : List Value} {k : Nat} (hh : A.handled = none) (F : Fr h₀ L s₁.heap m) (N : News h₀ L s₁.heap base) (hm : (ax, listOf vs.toArray k) ∈ base) (hsz : vs.length < 1000) (hT : ∀ y ∈ vs, TupIn base y)
    (turn : ∀ nx ys (u₁ u₂ : Int) (t₁ t₂ : Tok) I oI C oC D m₂ h tk (E' : Value → Shared → Prop), (∀ q ∈ base, q ∈ nx) → u₁.natAbs < 50 → LCg.NsObj oC m₂ → m₂ x = some (.int u₁ t₁) → m₂ x₂ = some (.int u₂ t₂) → Fr h₀ L h m → News h₀ L h ((I, oI) :: (C, oC) :: (D, LCg.lst ys) :: nx) → LCg.Off3 I C D nx → ((@Ne Nat I C) ∧ (@Ne Nat I D) ∧ (@Ne Nat C D)) →
      wpAny (model prog w) A (eval elt (compEnvC scope cl C env)) (LCg.CompEnd h₀ L m { s₁ with heap := h, toks := tk } I oI C oC D (LCg.lst ys) (fun _ => True) (fun y news' => (∀ q ∈ nx, q ∈ news') ∧ TupIn news' y)) E' { s₁ with heap := h, toks := tk })
    (fin : ∀ g zs nx, (∀ q ∈ base, q ∈ nx) → zs.length = vs.length → (∀ z ∈ vs, TupIn nx z) → (∀ z ∈ zs, TupIn nx z) → Fin { s₁ with heap := g } zs nx) :
    LCp.SrcLP prog w A h₀ L m env elt x x₂ scope cl Fin (.ref ax) s₁ := by
  refine LCp.SrcLP.ledger hh F N hm (by rw [List.size_toArray, sizeLine_eq]; omega) fun g => ?_
  rw [List.size_toArray]
  refine restP (fun i zs nx => (∀ q ∈ base, q ∈ nx) ∧ zs.length = i ∧ ∀ z ∈ zs, TupIn nx z) ⟨fun _ h => h, rfl, fun _ h => nomatch h⟩ ?_ fun zs nx hi => fin g zs nx hi.1 hi.2.1 (fun z hz => (hT z hz).mono hi.1) hi.2.2
  rintro i ys nx v hi hP ⟨hb, hl, hz⟩
  have hv : v ∈ vs := by
    have : vs[i]? = some v := by simpa using hP
    exact List.mem_of_getElem? this
  obtain ⟨a, u₁, u₂, t₁, t₂, n, rfl, hmem, b1, b2⟩ := hT v hv
  refine ⟨a, _, _, _, n, rfl, hb _ hmem, rfl, rfl, ?_⟩
  intro I oI C oC D m₂ h tk E' hC hx hy F N off ne
  refine wpAny_mono (turn nx ys u₁ u₂ t₁ t₂ I oI C oC D m₂ h tk E' hb b1 hC hx hy F N off ne) (fun y s₂ hr => ?_) fun _ _ e => e
  obtain ⟨h', tk', nw, e, F', N', off', hS, k1, k2⟩ := hr
  refine ⟨h', tk', nw, e, F', N', off', .inr ⟨_, k1 _ (hb _ hm), rfl, _, rfl⟩, fun q hq => k1 _ (hb _ hq), by rw [List.length_append, hl]; rfl, fun z hz' => ?_⟩
  rcases List.mem_append.mp hz' with hz' | hz'
  · exact (hz _ hz').mono k1
  · cases List.mem_singleton.mp hz'; exact k2
end
theorem pick3 {h₀ h : Heap} {L a b c : Addr} {LED nx : List (Addr × Obj)} {ys zs : List Value} {ps rs : List P2} {k₁ k₂ k₃ i : Nat} {v : Value} (hv : [Value.ref a, Value.ref b, Value.ref c][i]? = some v) (_N : News h₀ L h LED)
    (m₁ : (a, listOf ys.toArray k₁) ∈ LED) (m₂ : (b, listOf (ys ++ ys.reverse).toArray k₂) ∈ LED) (m₃ : (c, listOf zs.toArray k₃) ∈ LED) (mx : ∀ q ∈ nx, q ∈ LED)
    (hps : ∀ g : Heap, (∀ q ∈ nx, g.get? q.1 = some q.2) → PtsAre g ys ps) (hrs : ∀ g : Heap, (∀ q ∈ nx, g.get? q.1 = some q.2) → PtsAre g zs rs) (h0 : 0 < ps.length) (h1 : ps.length < 400) (h2 : rs.length = ps.length) :
    ∃ (l : Addr) (us : List Value) (qs : List P2), v = .ref l ∧ 0 < qs.length ∧ qs.length < 1000 ∧ ∀ g : Heap, News h₀ L g LED → SeqIs g l us ∧ PtsAre g us qs := by
  match i, hv with
  | 0, hv =>
    cases Option.some.inj hv
    exact ⟨a, ys, ps, rfl, h0, by omega, fun g N => ⟨.inl (News.isList N m₁), hps g fun q hq => (N q (mx q hq)).1⟩⟩
  | 1, hv =>
    cases Option.some.inj hv
    refine ⟨b, _, ps ++ ps.reverse, rfl, by rw [List.length_append]; omega, by rw [List.length_append, List.length_reverse]; omega, fun g N => ⟨.inl (News.isList N m₂), ?_⟩⟩
    have := hps g fun q hq => (N q (mx q hq)).1
    exact this.append this.reverse
  | 2, hv =>
    cases Option.some.inj hv
    exact ⟨c, zs, rs, rfl, by omega, by omega, fun g N => ⟨.inl (News.isList N m₃), hrs g fun q hq => (N q (mx q hq)).1⟩⟩
  | _ + 3, hv => nomatch hv
local macro_rules | `(tactic| walk_at "binaryOp Add ref ref") => `(tactic| ((rename StopAt 13 => mk9); (with_reducible show wpAny _ _ (binaryOp _ (Value.ref _) (Value.ref _)) _ _ _); k_dflt (refine' add_L ?F ?N ?a ?b ?e ?z ?_; (case F => k_asm); (case N => k_asm); (case a => exact News.isList (by k_asm) (by k_mem)); (case b => exact News.isList (by k_asm) (by k_mem)); (case e => ((try simp only [List.length_reverse]); omega)); (case z => ((try simp only [List.length_reverse]); omega))); intro D' h' F' N' l1; (try k_lt l1); (try k_sweep)))
local macro_rules | `(tactic| walk_at "SrcLP") => `(tactic| ((rename StopAt 1 => mk9); refine Stop.out ?_))
theorem cases3q {v : Value} {x y z : Int} {t u r : Tok} {G : Prop} (h : v ∈ [Value.int x t, Value.int y u, Value.int z r]) (hx : 1 ≤ x ∧ x ≤ 2 ^ 21) (hy : 1 ≤ y ∧ y ≤ 2 ^ 21) (hz : 1 ≤ z ∧ z ≤ 2 ^ 21)
    (k : ∀ z t, v = .int z t → 1 ≤ z → z ≤ 2 ^ 21 → 0 < z * z → z * z < 2 ^ 60 → G) : G := by
  refine cases3 h 1 (2 ^ 21) hx hy hz fun z t e a b => k z t e a b (Int.mul_pos (by omega) (by omega)) ?_
  have := Int.mul_le_mul b b (by omega) (by decide)
  omega
theorem sensed_it : sensed [(0, 0), (0, 3), (4, 3)] = some [(4, 3), (0, 3), (0, 0)] := by
  have h : trim (dedup [(0, 0), (0, 3), (4, 3)]) = [(0, 0), (0, 3), (4, 3)] := trim_stay (by decide)
  unfold sensed
  rw [h]
  decide
local macro_rules | `(tactic| walk_at "call ref") => `(tactic| ((rename StopAt 12 => mk9); (with_reducible show wpAny _ _ (call (Value.ref 180) _) _ _ _); refine Stop.out ?_))
local macro_rules | `(tactic| walk_at "zz p") => `(tactic| (first | assumption | exact SeqIs.keeps (by assumption) (Fr.keep (by assumption)) | exact SeqIs.newsL (by k_asm) (by k_mem) | exact SeqIs.newsT (by k_asm) (by k_mem)))
set_option hygiene false in
local macro_rules | `(tactic| walk_at "call ref") => `(tactic| (k_here; (with_reducible show wpAny _ _ (call (Value.ref 123) _) _ _ _); k_dflt (refine' SpecA.useS ?k1 ?k2 ?k3 ?k4 ?k5 ?k6 ?k7 ?k8 ?k9 (pool_spec ?s1 ?s2 ?s3 ?s4) ?_; walk_at "zz u"; (case k9 => walk_at "zz p"); walk_at "zz s"); intro _ _ _ _ _ _ _ _; ((rename OffA _ _ => a9); dsimp only [OffA] at a9); (try dsimp only)))
set_option hygiene false in
local macro_rules | `(tactic| walk_at "call ref") => `(tactic| (k_here; (with_reducible show wpAny _ _ (call (Value.ref 154) _) _ _ _); k_dflt (refine' Spec.useB ?k1 ?k2 ?k3 ?k4 ?k5 ?k6 ?k7 ?k8 (lawShare_spec _ _ _ _ ?s1 ?s2 ?s3) ?_; walk_at "zz u"; walk_at "zz s"); intro _ _ _ _; (try dsimp only)))
set_option hygiene false in
local macro_rules | `(tactic| walk_at "call ref") => `(tactic| (k_here; (with_reducible show wpAny _ _ (call (Value.ref 161) _) _ _ _); k_dflt (refine' Spec.useB ?k1 ?k2 ?k3 ?k4 ?k5 ?k6 ?k7 ?k8 (lawRoot_spec _ _ _ _ ?s1 ?s2 ?s3) ?_; walk_at "zz u"; walk_at "zz s"); intro _ _ _ _; (try dsimp only)))
set_option hygiene false in
local macro_rules | `(tactic| walk_at "call ref") => `(tactic| (k_here; (with_reducible show wpAny _ _ (call (Value.ref 137) _) _ _ _); k_dflt (refine' one_use ?zho ?zU ?zhm ?zhn ?za ?zb ?k1 ?k2 ?k3 ?k4 ?k5 ?k6 ?k7 ?k8 ?_; (case k4 => k_asm); (case zU => k_updF); (case zho => with_reducible assumption); (case zhm => k_mem); (case zhn => k_ne); (case za => exact Nat.le_of_ble_eq_true rfl); (case zb => exact Nat.le_of_ble_eq_true rfl); walk_at "zz u"); intro _ _ _ _ hv9 _ _ N9; (try dsimp only at N9); (try dsimp only); (first
  | (refine' cases2 hv9 (-(2 ^ 41)) (2 ^ 41) ?s1 ?s2 ?_; walk_at "zz s"; intro z9 t9 e9 _ _; subst e9)
  | (refine' cases3q hv9 ?s1 ?s2 ?s3 ?_; walk_at "zz s"; intro z9 t9 e9 _ _ _ _; subst e9)
  | skip)))
set_option hygiene false in
local macro_rules | `(tactic| walk_at "call ref") => `(tactic| (k_here; (with_reducible show wpAny _ _ (call (Value.ref 166) _) _ _ _); k_dflt (refine' SpecA.useB ?k1 ?k2 ?k3 ?k4 ?k5 ?k6 ?k7 ?k8 ?k9 (lawPar_spec ?s1 ?s2 ?s3 ?s4 ?s5 ?s6 ?s7) ?_; walk_at "zz u"; (case k9 => walk_at "zz p"); walk_at "zz s"); intro _ _ _ _; (try dsimp only)))
local macro_rules | `(tactic| walk_at "call ref") => `(tactic| ((rename StopAt 14 => mk9); (with_reducible show wpAny _ _ (call (Value.ref 116) _) _ _ _); refine Stop.out ?_))
theorem law_holds : PySem.Challenge.rw_on0223_01.Holds := by
  w_on
  refine holds_law said39 fun said => ?_
  refine holds_open (q := V39) (loose := []) (Xt := fun s => xlAt V39 [] s && recOk (RowW.records (PySem.Challenge.rw_on0223_01.row.toRowW)) s) (XP := XL V39 []) (Yf := Hook.obs (kHook K39 as39 as_39)) (Ya := Hook.val (kHook K39 as39 as_39)) (YP := Hook.says (kHook K39 as39 as_39)) (N := 2362) left39 (Hook.of (kHook K39 as39 as_39)) (Hook.keeps (kHook K39 as39 as_39)) (fun s e => xl_of s (Bool.and_eq_true_iff.mp e).1) XL.keeps (by rfl) (by rfl) (by rfl) (fun s e => recFacts_of (Bool.and_eq_true_iff.mp e).2) (by rfl) said (by decide +kernel) ⟨rfl, rfl, rfl, rfl, rfl, by decide +kernel⟩ ?hw ?hc
  case hw => w_witness2
  clear said
  k_go0
  refine foldA ?_
  intro ak
  have mk3 := StopAt.mark (n := 3) trivial
  k_steps
  rename_i scr vs _ hL _ _ _ hI _ hcond _ _ _ _ _ _ ow ov dw dv X0 _ _ _ _ _ _ _ _ _ _ _ _ _ R1 F1 N1 _
  have hsl : SeqIs _ scr vs := .inl hL
  have hil := hI.length
  refine iterR (n := (max 1 (min vs.length 2))) (fun i m nx => ∃ o1 o2 v1 v2, nx = [(_, o1), (_, o2)] ∧ o1.data = .cell v1 ∧ o2.data = .cell v2 ∧ ∀ p ∈ [(Str.ofString "script", Value.ref scr)], m p.1 = some p.2) (by rfl) R1 ?small ?size F1 N1 ⟨ow, ov, _, _, rfl, dw, dv, by kst_all⟩ ?turn ?done
  case small => refine small_one ?_ ?_ ?_ ?_ <;> (first | omega | ((repeat' split) <;> omega))
  case size => refine (rangeSize_nat _ _).trans ?_; (repeat' split) <;> omega
  case turn =>
    clear R1 F1 N1
    rintro i ti m₁ _ h tk I it hi hv0 hoff hit F2 N2
    refine ex4 hv0 ?_
    intro o1 o2 v1 v2 hv1
    refine and4 hv1 ?_
    intro enx ho1 ho2 hm
    rw [enx] at hoff N2
    clear enx hv1 hv0
    replace F2 := frB _ F2 hm
    dsimp only [kstB] at F2
    replace hoff := OffA.of hoff
    simp only [OffA, and_true] at hoff
    (try dsimp only)
    (((iterate 2 (first | walk1 | (dsimp only; walk1))); k_fold))
    k_steps
    rename_i c oS _ _ hoS _ oC F3 N3 dC _ _ _ _ _ R3 F4 N4 _
    refine iterR (n := 6) (fun i m nx => ∃ oS oM oC vM, nx = [(c, oS), (I, it), (_, oM), (_, oC)] ∧ Src oS ∧ oM.data = .cell vM ∧ oC.data = .cell (some (.ref c)) ∧ ∀ p ∈ [(Str.ofString "script", Value.ref scr)], m p.1 = some p.2) (by rfl) R3 (by rfl) (by rfl) F4 N4 ⟨oS, o1, oC, v1, rfl, hoS, ho1, dC, by kst_all⟩ ?turn2 ?done2
    case turn2 =>
      clear R3 F3 N3 F4 N4 hoS dC
      rintro i2 ti2 m₂ _ h2 tk2 I2 it2 hi2 hv0 hoff2 hit2 F2 N2
      refine ex4 hv0 ?_
      intro oS oM oC vM hv1
      refine and5 hv1 ?_
      intro enx hoS ho1 hoC hm
      rw [enx] at hoff2 N2
      clear enx hv1 hv0
      replace F2 := frB _ F2 hm
      dsimp only [kstB] at F2
      replace hoff2 := OffA.of hoff2
      simp only [OffA, and_true] at hoff2
      have mk12 := StopAt.mark (n := 12) trivial
      (try dsimp only)
      (((iterate 2 (first | walk1 | (dsimp only; walk1))); k_fold))
      (repeat' (first | (k_unfold; (try dsimp only)) | (k_end; kc_close) | ((first | (with_reducible show wpAny _ _ (exec _ _) _ _ _) | (with_reducible show wpAny _ _ (eval (PySem.Expr.BinOp _ _ _ _) _) _ _ _) | (with_reducible show wpAny _ _ (eval (PySem.Expr.Call _ _ _ _) _) _ _ _)); k_fold) | walk1 | (dsimp only; walk1) | (leave1; walk_say "STEP leave1"; (try dsimp only)) | fail "no step"))
      rename Fr _ _ _ _ => F9
      rename News _ _ _ _ => N9
      exact turnZ_next F9 N9 [(c, _), (I, it), (_, oM), (_, oC)] (by lcg_sub) (OffA.mem (by simpa only [OffA, and_true] using hoff2)) ⟨_, _, _, _, rfl, by assumption, ho1, hoC, by kst_all⟩
    case done2 =>
      clear R3 F3 N3 F4 N4 hoS dC
      rintro m₂ _ h2 tk2 hv0 F2 N2
      refine ex4 hv0 ?_
      intro oS oM oC vM hv1
      refine and5 hv1 ?_
      intro enx hoS ho1 hoC hm
      rw [enx] at N2
      clear enx hv1 hv0
      replace F2 := frB _ F2 hm
      dsimp only [kstB] at F2
      have mk12 := StopAt.mark (n := 12) trivial
      (try dsimp only)
      k_steps
      rename_i R3 F3 N3 _
      refine iterR (n := 2) (fun i m nx => ∃ oS oM oC vM, nx = [(c, oS), (I, it), (_, oM), (_, oC)] ∧ Src oS ∧ oM.data = .cell vM ∧ oC.data = .cell (some (.ref c)) ∧ ∀ p ∈ [(Str.ofString "script", Value.ref scr)], m p.1 = some p.2) (by rfl) R3 (by rfl) (by rfl) F3 N3 ⟨oS, oM, oC, vM, rfl, hoS, ho1, hoC, by kst_all⟩ ?turn3 ?done3
      case turn3 =>
        clear R3 F3 N3 F2 N2 hoS hoC ho1 hm
        rintro i3 ti3 m₃ _ h3 tk3 I3 it3 hi3 hv0 hoff3 hit3 F3 N3
        refine ex4 hv0 ?_
        intro oS oM oC vM hv1
        refine and5 hv1 ?_
        intro enx hoS ho1 hoC hm
        rw [enx] at hoff3 N3
        clear enx hv1 hv0
        replace F3 := frB _ F3 hm
        dsimp only [kstB] at F3
        replace hoff3 := OffA.of hoff3
        simp only [OffA, and_true] at hoff3
        (try dsimp only)
        (((iterate 2 (first | walk1 | (dsimp only; walk1))); k_fold))
        (repeat' (first | (k_unfold; (try dsimp only)) | (k_end; kc_close) | ((first | (with_reducible show wpAny _ _ (exec _ _) _ _ _) | (with_reducible show wpAny _ _ (eval (PySem.Expr.BinOp _ _ _ _) _) _ _ _) | (with_reducible show wpAny _ _ (eval (PySem.Expr.Call _ _ _ _) _) _ _ _)); k_fold) | walk1 | (dsimp only; walk1) | (leave1; walk_say "STEP leave1"; (try dsimp only)) | fail "no step"))
        rename Fr _ _ _ _ => F9
        rename News _ _ _ _ => N9
        exact turnZ_next F9 N9 [(c, _), (I, it), (_, oM), (_, oC)] (by lcg_sub) (OffA.mem (by simpa only [OffA, and_true] using hoff3)) ⟨_, _, _, _, rfl, by assumption, ho1, hoC, by kst_all⟩
      case done3 =>
        clear R3 F3 N3 F2 N2 hoS hoC ho1 hm
        rintro m₃ _ h3 tk3 ⟨oS, oM, oC, vM, rfl, hoS, ho1, hoC, hm⟩ F3 N3
        dsimp only
        replace F3 := frB _ F3 hm
        dsimp only [kstB] at F3
        have mk1 := StopAt.mark (n := 1) trivial
        have mk13 := StopAt.mark (n := 13) trivial
        have mk5 := StopAt.mark (n := 5) trivial
        k_steps
        rename_i D1 _ _ D2 _ _ D3 _ _ D4 _ _ D5 _ _ l5 _ _ _ _ _ oM2 _ _ dM2 vT _ oT _ _ bT0 hoT _ _ _ _ _ _ _ R4 F4 N4 _
        refine LCg.CompSrc.range (n := (1 + vT).toNat) (by rfl) F4 N4 R4 (small_one (by omega) (by omega) (by omega) (by omega)) ((rangeSize_nat _ _).trans (by omega)) (by rw [PySem.sizeLine_eq]; omega) ?_
        intro g'
        refine restU (fun i ys nx => ∃ oX, Src oX ∧ ys.length = i ∧ (∀ y ∈ ys, y ∈ [Value.ref D1, Value.ref D2, Value.ref D3, Value.ref D4, Value.ref D5]) ∧ nx = [(l5, listOf (List.toArray [Value.ref D1, Value.ref D2, Value.ref D3, Value.ref D4, Value.ref D5]) 0), (D5, _), (D4, _), (D3, _), (D2, _), (D1, _), (c, oX), (I, it), (_, oM2), (_, oC)]) ⟨_, hoT, rfl, (fun _ h => nomatch h), rfl⟩ ?elt ?fin
        case elt =>
          clear F4 N4 R4 hoT
          rintro i4 ys _ v4 I4 oI4 C4 oC4 E4 m4 h4 tk4 X4 hi4 ⟨t4, rfl⟩ ⟨oX, hoX, hyl, hys, rfl⟩ hC4 hx4 F4 N4 off4 ne4
          have off5 := off4
          simp only [LCg.Off3, and_true] at off5
          (repeat' (first | (k_unfold; (try dsimp only)) | (k_end; kc_close) | ((first | (with_reducible show wpAny _ _ (exec _ _) _ _ _) | (with_reducible show wpAny _ _ (eval (PySem.Expr.BinOp _ _ _ _) _) _ _ _) | (with_reducible show wpAny _ _ (eval (PySem.Expr.Call _ _ _ _) _) _ _ _)); k_fold) | walk1 | (dsimp only; walk1) | (leave1; walk_say "STEP leave1"; (try dsimp only)) | fail "no step"))
          · assumption
          · rw [List.length_append, hyl]; rfl
          · rcases List.mem_append.mp (by assumption : _ ∈ ys ++ _) with h | h
            · exact hys _ h
            · cases List.mem_singleton.mp h; assumption
        case fin =>
          clear F4 N4 R4 hoT hoS
          rintro ys _ ⟨oX, hoX, hyl, hys, rfl⟩
          k_steps
          rename_i Ds _ _ _ Dr _ _ Db _ F5 N5 _
          refine pairs_src (by rfl) F5 N5 (by k_mem) (by omega) ?tups ?elt2 ?fin2
          case tups =>
            intro y hy
            have := hys y hy
            simp only [List.mem_cons, List.not_mem_nil, or_false] at this
            rcases this with rfl | rfl | rfl | rfl | rfl <;> exact TupIn.intro (by k_mem) (by decide) (by decide)
          case elt2 =>
            clear F5 N5
            intro nx zs u₁ u₂ t₁ t₂ I5 oI5 C5 oC5 E5 m5 h5 tk5 X5 hb5 b5 hC5 hx5 hy5 F5 N5 off5 ne5
            k_steps
            rename_i Dn _ F6 N6 l6
            exact compEnd_new F6 N6 l6 off5 (TupIn.intro List.mem_cons_self b5 (two_small b5))
          case fin2 =>
            clear F5 N5
            intro g5 zs nx hb5 hzl hys2 hzs
            k_steps
            rename_i Dp _ _ _ Dl _ F6 N6 _
            replace N6 := News.widen N6 hb5
            simp only [List.cons_append, List.nil_append] at N6
            obtain ⟨ps, hpl, hps⟩ := tups_pts hys2
            obtain ⟨rs, hrl, hrs⟩ := tups_pts hzs
            clear hys hys2 hzs hb5
            refine iterN (vs := [Value.ref Ds, Value.ref Db, Value.ref Dp]) (fun i m nx' => nx' = _ ∧ ∀ p ∈ [(Str.ofString "script", Value.ref scr)], m p.1 = some p.2) (by rfl) List.mem_cons_self rfl rfl F6 N6 ⟨rfl, by kst_all⟩ ?turn4 ?done4
            case turn4 =>
              clear F6 N6 hm
              rintro i6 v6 m₄ _ h6 tk6 I6 it6 hv6 hl6 hv0 hoff6 hit6 F6 N6
              refine and2 hv0 ?_
              intro enx hm
              rw [enx] at hoff6 N6 hl6
              clear enx hv0
              replace F6 := frB _ F6 hm
              dsimp only [kstB] at F6
              obtain ⟨l6, us, qs, rfl, hq0, hq1, hpt⟩ := pick3 hv6 N6 (by k_mem) (by k_mem) (by k_mem) (fun q hq => by repeat (first | exact hq | apply List.mem_cons_of_mem)) hps hrs (by omega) (by omega) (by omega)
              (try dsimp only)
              (((iterate 2 (first | walk1 | (dsimp only; walk1))); k_fold))
              (repeat' (first | (k_unfold; (try dsimp only)) | (k_end; kc_close) | ((first | (with_reducible show wpAny _ _ (exec _ _) _ _ _) | (with_reducible show wpAny _ _ (eval (PySem.Expr.BinOp _ _ _ _) _) _ _ _) | (with_reducible show wpAny _ _ (eval (PySem.Expr.Call _ _ _ _) _) _ _ _)); k_fold) | walk1 | (dsimp only; walk1) | (leave1; walk_say "STEP leave1"; (try dsimp only)) | fail "no step"))
              unfold Stop
              refine' SpecA.use (spots_spec hq0 hq1) ?k1 ?k2 ?k3 ?k4 ?k5 ?k6 ?k7 ?k8 ?hp ?_; (case k1 => k_asm); (case k2 => k_asm); (case k3 => k_asm); (case k4 => k_asm); (case k5 => k_asm); (case k6 => first | assumption | exact rfl); (case k7 => ktr_room); (case k8 => ktr_units); (case hp => exact hpt _ (by assumption))
              intro r9 nx9 h9 tk9 hp9 a9 s9 F9 N9
              obtain ⟨rfl, rfl⟩ := hp9
              simp only [List.nil_append] at N9
              clear a9 s9
              (repeat' (first | (k_unfold; (try dsimp only)) | (k_end; kc_close) | ((first | (with_reducible show wpAny _ _ (exec _ _) _ _ _) | (with_reducible show wpAny _ _ (eval (PySem.Expr.BinOp _ _ _ _) _) _ _ _) | (with_reducible show wpAny _ _ (eval (PySem.Expr.Call _ _ _ _) _) _ _ _)); k_fold) | walk1 | (dsimp only; walk1) | (leave1; walk_say "STEP leave1"; (try dsimp only)) | fail "no step"))
              rename Fr _ _ _ _ => F9
              rename News _ _ _ _ => N9
              exact turnZ_next F9 N9 _ (fun _ h => h) hoff6 ⟨hl6, rfl, by kst_all⟩
            case done4 =>
              clear F6 N6 hm
              rintro m₄ _ h6 tk6 hl6 hv0 F6 N6
              refine and2 hv0 ?_
              intro enx hm
              rw [enx] at N6 hl6
              clear enx hv0
              replace F6 := frB _ F6 hm
              dsimp only [kstB] at F6
              (try dsimp only)
              (repeat' (first | (k_unfold; (try dsimp only)) | (k_end; kc_close) | ((first | (with_reducible show wpAny _ _ (exec _ _) _ _ _) | (with_reducible show wpAny _ _ (eval (PySem.Expr.BinOp _ _ _ _) _) _ _ _) | (with_reducible show wpAny _ _ (eval (PySem.Expr.Call _ _ _ _) _) _ _ _)); k_fold) | walk1 | (dsimp only; walk1) | (leave1; walk_say "STEP leave1"; (try dsimp only)) | fail "no step"))
              exact turnZ_next F6 N6 [(_, oM2), (_, oC)] (by lcg_sub) (OffA.mem (by simpa only [OffA, and_true] using hoff)) ⟨_, _, _, _, rfl, dM2, hoC, by kst_all⟩
  case done =>
    clear R1 F1 N1
    rintro m₁ _ h tk hv0 F2 N2
    refine ex4 hv0 ?_
    intro o1 o2 v1 v2 hv1
    refine and4 hv1 ?_
    intro enx ho1 ho2 hm
    rw [enx] at N2
    clear enx hv1 hv0
    replace F2 := frB _ F2 hm
    dsimp only [kstB] at F2
    (rename StopAt 3 => mk; clear mk)
    have mk14 := StopAt.mark (n := 14) trivial
    have mk2 := StopAt.mark (n := 2) trivial
    k_steps
    rename_i d1 _ _ d2 _ _ d3 _ _ l1 _ F3 N3 _
    unfold Stop
    have hP3 : PtsAre _ [Value.ref d1, Value.ref d2, Value.ref d3] [(0, 0), (0, 3), (4, 3)] := ⟨⟨⟨d1, _, _, rfl, News.isTup N3 (by k_mem)⟩, by decide, by decide⟩, ⟨⟨d2, _, _, rfl, News.isTup N3 (by k_mem)⟩, by decide, by decide⟩, ⟨⟨d3, _, _, rfl, News.isTup N3 (by k_mem)⟩, by decide, by decide⟩, trivial⟩
    refine' SpecA.useSome ?k1 ?k2 ?k3 ?k4 ?k5 ?k6 ?k7 ?k8 ?k9 (oneSense_spec (l := l1) (vs := [Value.ref d1, Value.ref d2, Value.ref d3]) (ps := [(0, 0), (0, 3), (4, 3)]) (by decide)) sensed_it ?_; (case k1 => k_asm); (case k2 => k_asm); (case k3 => k_asm); (case k4 => k_asm); (case k5 => k_asm); (case k6 => first | assumption | exact rfl); (case k7 => ktr_room); (case k8 => ktr_units); (case k9 => exact ⟨SeqIs.newsL N3 (by k_mem), hP3⟩)
    intro c9 us9 n9 h9 tk9 hul9 kq9 F4 N4
    clear hP3
    dsimp only
    k_steps
    rename_i D4 _ _ D5 _ _ D6 _ _ Dt _ F5 N5 _
    unfold Stop
    have hP5 : PtsAre _ [Value.ref d1, Value.ref d2, Value.ref d3] [(0, 0), (0, 3), (4, 3)] := ⟨⟨⟨d1, _, _, rfl, News.isTup N5 (by k_mem)⟩, by decide, by decide⟩, ⟨⟨d2, _, _, rfl, News.isTup N5 (by k_mem)⟩, by decide, by decide⟩, ⟨⟨d3, _, _, rfl, News.isTup N5 (by k_mem)⟩, by decide, by decide⟩, trivial⟩
    have hP4 : PtsAre _ [Value.ref D4, Value.ref D5, Value.ref D6] [(4, 3), (0, 3), (0, 0)] := ⟨⟨⟨D4, _, _, rfl, News.isTup N5 (by k_mem)⟩, by decide, by decide⟩, ⟨⟨D5, _, _, rfl, News.isTup N5 (by k_mem)⟩, by decide, by decide⟩, ⟨⟨D6, _, _, rfl, News.isTup N5 (by k_mem)⟩, by decide, by decide⟩, trivial⟩
    refine ne_tups (News.isTup N5 (by k_mem)) (News.isTup N5 (by k_mem)) (kq9 _ hP5) hP4 ?room ?_
    case room => (((repeat (with_reducible rename (And _ _) => hx9; clear hx9)); (repeat (rename (@Ne Nat _ _) => hx9; clear hx9)); (have hcL9 := cLine_is); simp +zetaDelta only [units_in1, units_deeper, Around.mark_units, units_caller]; (try dsimp only [ktrTop]); omega))
    clear hP4 hP5 kq9
    simp only [decide_true, Bool.not_true]
    have e1 : shareOf 1 2 = 1 := by decide
    have e2 : shareOf (-3) 2 = -2 := by decide
    k_steps
end Mine
theorem PySem.Challenge.cw_on0223_01_holds : PySem.Challenge.rw_on0223_01.Holds :=
  Mine.law_holds
