import PyProof.Rows.All
import Wide.All
import OpenK.AllK
import Wide.FinOn
import Lean
import PySem.Challenge.RW_on0233_01
open PySem PySem.W PyProof.Rows PySem.Calls
set_option Elab.async false
set_option maxRecDepth 100000
set_option maxHeartbeats 8000000
local macro_rules | `(tactic| walk_at $s:str) => `(tactic| k_extra $s)
local macro_rules | `(tactic| k_ne) => `(tactic| k_extra "k_ne")
local macro_rules | `(tactic| k_all) => `(tactic| k_extra "k_all")
local macro_rules | `(tactic| ksw_same) => `(tactic| k_extra "ksw_same")
local macro_rules | `(tactic| cell_enter) => `(tactic| k_extra "cell_enter")
local macro_rules | `(tactic| mul_fits) => `(tactic| k_extra "mul_fits")
local macro_rules | `(tactic| omega) => `(tactic| k_extra "omega")
namespace Mine
noncomputable def nth : List Stmt → Nat → Option Stmt
  | [], _ => none
  | s :: _, 0 => some s
  | _ :: r, n + 1 => nth r n
noncomputable def meths : Option Stmt → List Stmt
  | some (.ClassDef _ _ _ b _ _ _ _ _ _ _) => b
  | _ => []
noncomputable def theHeap : Params → Frag := (fun
  (n21 : Str) (a21 : Arguments) (b21 : List Stmt) (d21 : List PySem.Expr) (r21 : Option PySem.Expr) (t21 : List TypeParam) (c21 : Scope) (u21 : Option Scope) (v21 : Str) (p21 : Pos) (_ : nth PySem.Challenge.pw_on0233_01.main.body 0 = some (Stmt.FunctionDef n21 a21 b21 d21 r21 t21 c21 u21 v21 p21))
  (n35 : Str) (a35 : Arguments) (b35 : List Stmt) (d35 : List PySem.Expr) (r35 : Option PySem.Expr) (t35 : List TypeParam) (c35 : Scope) (u35 : Option Scope) (v35 : Str) (p35 : Pos) (_ : nth (meths (nth PySem.Challenge.pw_on0233_01.main.body 2)) 0 = some (Stmt.FunctionDef n35 a35 b35 d35 r35 t35 c35 u35 v35 p35))
  (n60 : Str) (a60 : Arguments) (b60 : List Stmt) (d60 : List PySem.Expr) (r60 : Option PySem.Expr) (t60 : List TypeParam) (c60 : Scope) (u60 : Option Scope) (v60 : Str) (p60 : Pos) (_ : nth PySem.Challenge.pw_on0233_01.main.body 5 = some (Stmt.FunctionDef n60 a60 b60 d60 r60 t60 c60 u60 v60 p60))
  (n67 : Str) (a67 : Arguments) (b67 : List Stmt) (d67 : List PySem.Expr) (r67 : Option PySem.Expr) (t67 : List TypeParam) (c67 : Scope) (u67 : Option Scope) (v67 : Str) (p67 : Pos) (_ : nth PySem.Challenge.pw_on0233_01.main.body 6 = some (Stmt.FunctionDef n67 a67 b67 d67 r67 t67 c67 u67 v67 p67))
  (n74 : Str) (a74 : Arguments) (b74 : List Stmt) (d74 : List PySem.Expr) (r74 : Option PySem.Expr) (t74 : List TypeParam) (c74 : Scope) (u74 : Option Scope) (v74 : Str) (p74 : Pos) (_ : nth PySem.Challenge.pw_on0233_01.main.body 7 = some (Stmt.FunctionDef n74 a74 b74 d74 r74 t74 c74 u74 v74 p74))
  (n81 : Str) (a81 : Arguments) (b81 : List Stmt) (d81 : List PySem.Expr) (r81 : Option PySem.Expr) (t81 : List TypeParam) (c81 : Scope) (u81 : Option Scope) (v81 : Str) (p81 : Pos) (_ : nth PySem.Challenge.pw_on0233_01.main.body 8 = some (Stmt.FunctionDef n81 a81 b81 d81 r81 t81 c81 u81 v81 p81))
  (n95 : Str) (a95 : Arguments) (b95 : List Stmt) (d95 : List PySem.Expr) (r95 : Option PySem.Expr) (t95 : List TypeParam) (c95 : Scope) (u95 : Option Scope) (v95 : Str) (p95 : Pos) (_ : nth (meths (nth PySem.Challenge.pw_on0233_01.main.body 15)) 0 = some (Stmt.FunctionDef n95 a95 b95 d95 r95 t95 c95 u95 v95 p95))
  (n102 : Str) (a102 : Arguments) (b102 : List Stmt) (d102 : List PySem.Expr) (r102 : Option PySem.Expr) (t102 : List TypeParam) (c102 : Scope) (u102 : Option Scope) (v102 : Str) (p102 : Pos) (_ : nth (meths (nth PySem.Challenge.pw_on0233_01.main.body 15)) 1 = some (Stmt.FunctionDef n102 a102 b102 d102 r102 t102 c102 u102 v102 p102))
  (n109 : Str) (a109 : Arguments) (b109 : List Stmt) (d109 : List PySem.Expr) (r109 : Option PySem.Expr) (t109 : List TypeParam) (c109 : Scope) (u109 : Option Scope) (v109 : Str) (p109 : Pos) (_ : nth (meths (nth PySem.Challenge.pw_on0233_01.main.body 15)) 2 = some (Stmt.FunctionDef n109 a109 b109 d109 r109 t109 c109 u109 v109 p109))
  (n116 : Str) (a116 : Arguments) (b116 : List Stmt) (d116 : List PySem.Expr) (r116 : Option PySem.Expr) (t116 : List TypeParam) (c116 : Scope) (u116 : Option Scope) (v116 : Str) (p116 : Pos) (_ : nth (meths (nth PySem.Challenge.pw_on0233_01.main.body 15)) 3 = some (Stmt.FunctionDef n116 a116 b116 d116 r116 t116 c116 u116 v116 p116))
  (n123 : Str) (a123 : Arguments) (b123 : List Stmt) (d123 : List PySem.Expr) (r123 : Option PySem.Expr) (t123 : List TypeParam) (c123 : Scope) (u123 : Option Scope) (v123 : Str) (p123 : Pos) (_ : nth (meths (nth PySem.Challenge.pw_on0233_01.main.body 15)) 4 = some (Stmt.FunctionDef n123 a123 b123 d123 r123 t123 c123 u123 v123 p123))
  (n137 : Str) (a137 : Arguments) (b137 : List Stmt) (d137 : List PySem.Expr) (r137 : Option PySem.Expr) (t137 : List TypeParam) (c137 : Scope) (u137 : Option Scope) (v137 : Str) (p137 : Pos) (_ : nth PySem.Challenge.pw_on0233_01.main.body 16 = some (Stmt.FunctionDef n137 a137 b137 d137 r137 t137 c137 u137 v137 p137))
  (n144 : Str) (a144 : Arguments) (b144 : List Stmt) (d144 : List PySem.Expr) (r144 : Option PySem.Expr) (t144 : List TypeParam) (c144 : Scope) (u144 : Option Scope) (v144 : Str) (p144 : Pos) (_ : nth PySem.Challenge.pw_on0233_01.main.body 17 = some (Stmt.FunctionDef n144 a144 b144 d144 r144 t144 c144 u144 v144 p144))
  (n151 : Str) (a151 : Arguments) (b151 : List Stmt) (d151 : List PySem.Expr) (r151 : Option PySem.Expr) (t151 : List TypeParam) (c151 : Scope) (u151 : Option Scope) (v151 : Str) (p151 : Pos) (_ : nth PySem.Challenge.pw_on0233_01.main.body 18 = some (Stmt.FunctionDef n151 a151 b151 d151 r151 t151 c151 u151 v151 p151))
  (n158 : Str) (a158 : Arguments) (b158 : List Stmt) (d158 : List PySem.Expr) (r158 : Option PySem.Expr) (t158 : List TypeParam) (c158 : Scope) (u158 : Option Scope) (v158 : Str) (p158 : Pos) (_ : nth PySem.Challenge.pw_on0233_01.main.body 21 = some (Stmt.FunctionDef n158 a158 b158 d158 r158 t158 c158 u158 v158 p158))
  (n165 : Str) (a165 : Arguments) (b165 : List Stmt) (d165 : List PySem.Expr) (r165 : Option PySem.Expr) (t165 : List TypeParam) (c165 : Scope) (u165 : Option Scope) (v165 : Str) (p165 : Pos) (_ : nth PySem.Challenge.pw_on0233_01.main.body 22 = some (Stmt.FunctionDef n165 a165 b165 d165 r165 t165 c165 u165 v165 p165))
  (n172 : Str) (a172 : Arguments) (b172 : List Stmt) (d172 : List PySem.Expr) (r172 : Option PySem.Expr) (t172 : List TypeParam) (c172 : Scope) (u172 : Option Scope) (v172 : Str) (p172 : Pos) (_ : nth PySem.Challenge.pw_on0233_01.main.body 24 = some (Stmt.FunctionDef n172 a172 b172 d172 r172 t172 c172 u172 v172 p172))
  (n179 : Str) (a179 : Arguments) (b179 : List Stmt) (d179 : List PySem.Expr) (r179 : Option PySem.Expr) (t179 : List TypeParam) (c179 : Scope) (u179 : Option Scope) (v179 : Str) (p179 : Pos) (_ : nth PySem.Challenge.pw_on0233_01.main.body 25 = some (Stmt.FunctionDef n179 a179 b179 d179 r179 t179 c179 u179 v179 p179))
  (n186 : Str) (a186 : Arguments) (b186 : List Stmt) (d186 : List PySem.Expr) (r186 : Option PySem.Expr) (t186 : List TypeParam) (c186 : Scope) (u186 : Option Scope) (v186 : Str) (p186 : Pos) (_ : nth PySem.Challenge.pw_on0233_01.main.body 26 = some (Stmt.FunctionDef n186 a186 b186 d186 r186 t186 c186 u186 v186 p186))
  (n193 : Str) (a193 : Arguments) (b193 : List Stmt) (d193 : List PySem.Expr) (r193 : Option PySem.Expr) (t193 : List TypeParam) (c193 : Scope) (u193 : Option Scope) (v193 : Str) (p193 : Pos) (_ : nth PySem.Challenge.pw_on0233_01.main.body 27 = some (Stmt.FunctionDef n193 a193 b193 d193 r193 t193 c193 u193 v193 p193))
  (n200 : Str) (a200 : Arguments) (b200 : List Stmt) (d200 : List PySem.Expr) (r200 : Option PySem.Expr) (t200 : List TypeParam) (c200 : Scope) (u200 : Option Scope) (v200 : Str) (p200 : Pos) (_ : nth PySem.Challenge.pw_on0233_01.main.body 28 = some (Stmt.FunctionDef n200 a200 b200 d200 r200 t200 c200 u200 v200 p200))
  (n207 : Str) (a207 : Arguments) (b207 : List Stmt) (d207 : List PySem.Expr) (r207 : Option PySem.Expr) (t207 : List TypeParam) (c207 : Scope) (u207 : Option Scope) (v207 : Str) (p207 : Pos) (_ : nth PySem.Challenge.pw_on0233_01.main.body 29 = some (Stmt.FunctionDef n207 a207 b207 d207 r207 t207 c207 u207 v207 p207))
  (n214 : Str) (a214 : Arguments) (b214 : List Stmt) (d214 : List PySem.Expr) (r214 : Option PySem.Expr) (t214 : List TypeParam) (c214 : Scope) (u214 : Option Scope) (v214 : Str) (p214 : Pos) (_ : nth PySem.Challenge.pw_on0233_01.main.body 30 = some (Stmt.FunctionDef n214 a214 b214 d214 r214 t214 c214 u214 v214 p214))
  (n221 : Str) (a221 : Arguments) (b221 : List Stmt) (d221 : List PySem.Expr) (r221 : Option PySem.Expr) (t221 : List TypeParam) (c221 : Scope) (u221 : Option Scope) (v221 : Str) (p221 : Pos) (_ : nth PySem.Challenge.pw_on0233_01.main.body 31 = some (Stmt.FunctionDef n221 a221 b221 d221 r221 t221 c221 u221 v221 p221))
  (n228 : Str) (a228 : Arguments) (b228 : List Stmt) (d228 : List PySem.Expr) (r228 : Option PySem.Expr) (t228 : List TypeParam) (c228 : Scope) (u228 : Option Scope) (v228 : Str) (p228 : Pos) (_ : nth PySem.Challenge.pw_on0233_01.main.body 32 = some (Stmt.FunctionDef n228 a228 b228 d228 r228 t228 c228 u228 v228 p228))
  (n233 : Str) (a233 : Arguments) (b233 : List Stmt) (d233 : List PySem.Expr) (r233 : Option PySem.Expr) (t233 : List TypeParam) (c233 : Scope) (u233 : Option Scope) (v233 : Str) (p233 : Pos) (_ : nth PySem.Challenge.pw_on0233_01.main.body 33 = some (Stmt.FunctionDef n233 a233 b233 d233 r233 t233 c233 u233 v233 p233))
  (n238 : Str) (a238 : Arguments) (b238 : List Stmt) (d238 : List PySem.Expr) (r238 : Option PySem.Expr) (t238 : List TypeParam) (c238 : Scope) (u238 : Option Scope) (v238 : Str) (p238 : Pos) (_ : nth PySem.Challenge.pw_on0233_01.main.body 34 = some (Stmt.FunctionDef n238 a238 b238 d238 r238 t238 c238 u238 v238 p238))
  (n245 : Str) (a245 : Arguments) (b245 : List Stmt) (d245 : List PySem.Expr) (r245 : Option PySem.Expr) (t245 : List TypeParam) (c245 : Scope) (u245 : Option Scope) (v245 : Str) (p245 : Pos) (_ : nth PySem.Challenge.pw_on0233_01.main.body 35 = some (Stmt.FunctionDef n245 a245 b245 d245 r245 t245 c245 u245 v245 p245)) => fun (P : Params) =>
    ((nat_lit 2), { cls := Value.none, data := Data.dict #[{ hash := PyData.keyHash P (Str.ofString "type.__subclasses__.Exception.0"), key := Value.str (Str.ofString "type.__subclasses__.Exception.0") 221, val := Value.int 38 0 }, { hash := PyData.keyHash P (Str.ofString "type.__subclasses__.Exception.n"), key := Value.str (Str.ofString "type.__subclasses__.Exception.n") 222, val := Value.int 1 0 }] 2 }) ::
    ((nat_lit 3), { cls := Value.type "dict", data := Data.dict #[{ hash := PyData.keyHash P (Str.ofString "__name__"), key := Value.str (Str.ofString "__name__") 165, val := Value.str (Str.ofString "law_on0233_01") 406 }, { hash := PyData.keyHash P (Str.ofString "__doc__"), key := Value.str (Str.ofString "__doc__") 166, val := Value.none }, { hash := PyData.keyHash P (Str.ofString "__package__"), key := Value.str (Str.ofString "__package__") 167, val := Value.none }, { hash := PyData.keyHash P (Str.ofString "__loader__"), key := Value.str (Str.ofString "__loader__") 168, val := Value.builtin "__main__.__loader__#opaque" }, { hash := PyData.keyHash P (Str.ofString "__spec__"), key := Value.str (Str.ofString "__spec__") 169, val := Value.none }, { hash := PyData.keyHash P (Str.ofString "__annotations__"), key := Value.str (Str.ofString "__annotations__") 170, val := Value.ref 6 }, { hash := PyData.keyHash P (Str.ofString "__builtins__"), key := Value.str (Str.ofString "__builtins__") 171, val := Value.ref 4 }, { hash := PyData.keyHash P (Str.ofString "__file__"), key := Value.str (Str.ofString "__file__") 173, val := Value.str (Str.ofString "/claim/cut.py") 172 }, { hash := PyData.keyHash P (Str.ofString "__cached__"), key := Value.str (Str.ofString "__cached__") 174, val := Value.none }, { hash := PyData.keyHash P (Str.ofString "_wall"), key := Value.str (Str.ofString "_wall") 193, val := Value.ref 21 }, { hash := PyData.keyHash P (Str.ofString "MillError"), key := Value.str (Str.ofString "MillError") 224, val := Value.ref 38 }, { hash := PyData.keyHash P (Str.ofString "FontFault"), key := Value.str (Str.ofString "FontFault") 240, val := Value.ref 51 }, { hash := PyData.keyHash P (Str.ofString "u16"), key := Value.str (Str.ofString "u16") 250, val := Value.ref 60 }, { hash := PyData.keyHash P (Str.ofString "s16"), key := Value.str (Str.ofString "s16") 259, val := Value.ref 67 }, { hash := PyData.keyHash P (Str.ofString "put16"), key := Value.str (Str.ofString "put16") 266, val := Value.ref 74 }, { hash := PyData.keyHash P (Str.ofString "part_of"), key := Value.str (Str.ofString "part_of") 275, val := Value.ref 81 }, { hash := PyData.keyHash P (Str.ofString "X_SHORT"), key := Value.str (Str.ofString "X_SHORT") 279, val := Value.int 2 278 }, { hash := PyData.keyHash P (Str.ofString "Y_SHORT"), key := Value.str (Str.ofString "Y_SHORT") 281, val := Value.int 4 280 }, { hash := PyData.keyHash P (Str.ofString "REPEAT"), key := Value.str (Str.ofString "REPEAT") 283, val := Value.int 8 282 }, { hash := PyData.keyHash P (Str.ofString "X_SAME"), key := Value.str (Str.ofString "X_SAME") 285, val := Value.int 16 284 }, { hash := PyData.keyHash P (Str.ofString "Y_SAME"), key := Value.str (Str.ofString "Y_SAME") 287, val := Value.int 32 286 }, { hash := PyData.keyHash P (Str.ofString "Octets"), key := Value.str (Str.ofString "Octets") 346, val := Value.ref 126 }, { hash := PyData.keyHash P (Str.ofString "read_flags"), key := Value.str (Str.ofString "read_flags") 357, val := Value.ref 137 }, { hash := PyData.keyHash P (Str.ofString "read_deltas"), key := Value.str (Str.ofString "read_deltas") 371, val := Value.ref 144 }, { hash := PyData.keyHash P (Str.ofString "read_ends"), key := Value.str (Str.ofString "read_ends") 382, val := Value.ref 151 }, { hash := PyData.keyHash P (Str.ofString "MOST_REPEATS"), key := Value.str (Str.ofString "MOST_REPEATS") 386, val := Value.int 255 385 }, { hash := PyData.keyHash P (Str.ofString "axis_flag"), key := Value.str (Str.ofString "axis_flag") 395, val := Value.ref 158 }, { hash := PyData.keyHash P (Str.ofString "flag_octets"), key := Value.str (Str.ofString "flag_octets") 405, val := Value.ref 165 }, { hash := PyData.keyHash P (Str.ofString "_law_pool"), key := Value.str (Str.ofString "_law_pool") 418, val := Value.ref 172 }, { hash := PyData.keyHash P (Str.ofString "_law_take"), key := Value.str (Str.ofString "_law_take") 427, val := Value.ref 179 }, { hash := PyData.keyHash P (Str.ofString "_law_one"), key := Value.str (Str.ofString "_law_one") 435, val := Value.ref 186 }, { hash := PyData.keyHash P (Str.ofString "_law_flags"), key := Value.str (Str.ofString "_law_flags") 445, val := Value.ref 193 }, { hash := PyData.keyHash P (Str.ofString "_law_written"), key := Value.str (Str.ofString "_law_written") 457, val := Value.ref 200 }, { hash := PyData.keyHash P (Str.ofString "_law_refused"), key := Value.str (Str.ofString "_law_refused") 464, val := Value.ref 207 }, { hash := PyData.keyHash P (Str.ofString "_law_flags_right"), key := Value.str (Str.ofString "_law_flags_right") 477, val := Value.ref 214 }, { hash := PyData.keyHash P (Str.ofString "_law_step"), key := Value.str (Str.ofString "_law_step") 486, val := Value.ref 221 }, { hash := PyData.keyHash P (Str.ofString "_law_told"), key := Value.str (Str.ofString "_law_told") 495, val := Value.ref 228 }, { hash := PyData.keyHash P (Str.ofString "_law_axis_right"), key := Value.str (Str.ofString "_law_axis_right") 501, val := Value.ref 233 }, { hash := PyData.keyHash P (Str.ofString "_law_ends_right"), key := Value.str (Str.ofString "_law_ends_right") 507, val := Value.ref 238 }, { hash := PyData.keyHash P (Str.ofString "law"), key := Value.str (Str.ofString "law") 517, val := Value.ref 245 }] 40 }) ::
    ((nat_lit 15), { cls := Value.type "tuple", data := Data.seq #[] }) ::
    ((nat_lit 17), { cls := Value.type "tuple", data := Data.seq #[Value.str (Str.ofString "k") 190] }) ::
    ((nat_lit 18), { cls := Value.type "tuple", data := Data.seq #[] }) ::
    ((nat_lit 20), { cls := Value.type "code", data := Data.fields #[Value.str (Str.ofString "_wall") 187, Value.str (Str.ofString "_wall") 188, Value.str (Str.ofString "/claim/cut.py") 189, Value.int 1 0, Value.int 1 0, Value.int 0 0, Value.int 0 0, Value.int 3 0, Value.ref 15, Value.bool true, Value.int 181 0, Value.ref 16, Value.none, Value.ref 17, Value.ref 18, Value.ref 19, Value.int 191 0, Value.int 1 0, Value.str (Str.ofString "/claim/cut.py") 192] }) ::
    ((nat_lit 21), { cls := Value.type "function", data := Data.func { name := Str.ofString "_wall", qualname := Str.ofString "_wall", params := a21, body := FuncBody.stmts b21, scope := c21, globals := 3, closure := [], defaults := Value.none, kwdefaults := Value.none, pyModule := Value.str (Str.ofString "__main__") 164, code := Value.ref 20 } }) ::
    ((nat_lit 22), { cls := Value.type "tuple", data := Data.seq #[Value.type "Exception"] }) ::
    ((nat_lit 29), { cls := Value.type "tuple", data := Data.seq #[] }) ::
    ((nat_lit 31), { cls := Value.type "tuple", data := Data.seq #[Value.str (Str.ofString "self") 211, Value.str (Str.ofString "message") 212] }) ::
    ((nat_lit 32), { cls := Value.type "tuple", data := Data.seq #[] }) ::
    ((nat_lit 34), { cls := Value.type "code", data := Data.fields #[Value.str (Str.ofString "__init__") 208, Value.str (Str.ofString "MillError.__init__") 209, Value.str (Str.ofString "/claim/cut.py") 210, Value.int 7 0, Value.int 2 0, Value.int 0 0, Value.int 0 0, Value.int 3 0, Value.ref 29, Value.bool true, Value.int 181 0, Value.ref 30, Value.none, Value.ref 31, Value.ref 32, Value.ref 33, Value.int 213 0, Value.int 7 0, Value.str (Str.ofString "/claim/cut.py") 214] }) ::
    ((nat_lit 35), { cls := Value.type "function", data := Data.func { name := Str.ofString "__init__", qualname := Str.ofString "MillError.__init__", params := a35, body := FuncBody.stmts b35, scope := c35, globals := 3, closure := [], defaults := Value.none, kwdefaults := Value.none, pyModule := Value.str (Str.ofString "outlinemill.errors") 194, code := Value.ref 34 } }) ::
    ((nat_lit 36), { cls := Value.type "tuple", data := Data.seq #[Value.str (Str.ofString "message") 216] }) ::
    ((nat_lit 37), { cls := Value.type "dict", data := Data.dict #[{ hash := PyData.keyHash P (Str.ofString "__module__"), key := Value.str (Str.ofString "__module__") 203, val := Value.str (Str.ofString "outlinemill.errors") 194 }, { hash := PyData.keyHash P (Str.ofString "__firstlineno__"), key := Value.str (Str.ofString "__firstlineno__") 207, val := Value.int 5 206 }, { hash := PyData.keyHash P (Str.ofString "__init__"), key := Value.str (Str.ofString "__init__") 215, val := Value.ref 35 }, { hash := PyData.keyHash P (Str.ofString "__static_attributes__"), key := Value.str (Str.ofString "__static_attributes__") 217, val := Value.ref 36 }, { hash := PyData.keyHash P (Str.ofString "__weakref__"), key := Value.str (Str.ofString "__weakref__") 219, val := Value.ref 39 }, { hash := PyData.keyHash P (Str.ofString "__doc__"), key := Value.str (Str.ofString "__doc__") 220, val := Value.none }] 3 }) ::
    ((nat_lit 38), { cls := Value.type "type", data := Data.cls { name := Str.ofString "MillError", bases := [Value.type "Exception"], mro := [Value.ref 38, Value.type "Exception", Value.type "BaseException", Value.type "object"], ns := 37, qualname := Str.ofString "MillError", subclasses := [Value.ref 51] }, slots := #[some (Value.ref 22), none, some (Value.str (Str.ofString "MillError") 196), some (Value.str (Str.ofString "MillError") 204), some (Value.builtin "Exception.__new__"), some (Value.bool true)] }) ::
    ((nat_lit 39), { cls := Value.type "getset_descriptor", data := Data.fields #[Value.str (Str.ofString "__weakref__") 218, Value.ref 38, Value.builtin "ExceptionGroup.__weakref__", Value.none] }) ::
    ((nat_lit 42), { cls := Value.type "tuple", data := Data.seq #[Value.ref 38] }) ::
    ((nat_lit 49), { cls := Value.type "tuple", data := Data.seq #[] }) ::
    ((nat_lit 50), { cls := Value.type "dict", data := Data.dict #[{ hash := PyData.keyHash P (Str.ofString "__module__"), key := Value.str (Str.ofString "__module__") 232, val := Value.str (Str.ofString "outlinemill.errors") 194 }, { hash := PyData.keyHash P (Str.ofString "__firstlineno__"), key := Value.str (Str.ofString "__firstlineno__") 236, val := Value.int 9 235 }, { hash := PyData.keyHash P (Str.ofString "__static_attributes__"), key := Value.str (Str.ofString "__static_attributes__") 237, val := Value.ref 49 }, { hash := PyData.keyHash P (Str.ofString "__doc__"), key := Value.str (Str.ofString "__doc__") 238, val := Value.none }] 2 }) ::
    ((nat_lit 51), { cls := Value.type "type", data := Data.cls { name := Str.ofString "FontFault", bases := [Value.ref 38], mro := [Value.ref 51, Value.ref 38, Value.type "Exception", Value.type "BaseException", Value.type "object"], ns := 50, qualname := Str.ofString "FontFault" }, slots := #[some (Value.ref 42), none, some (Value.str (Str.ofString "FontFault") 225), some (Value.str (Str.ofString "FontFault") 233), some (Value.builtin "Exception.__new__"), some (Value.bool true)] }) ::
    ((nat_lit 54), { cls := Value.type "tuple", data := Data.seq #[] }) ::
    ((nat_lit 56), { cls := Value.type "tuple", data := Data.seq #[Value.str (Str.ofString "octets") 246, Value.str (Str.ofString "at") 247] }) ::
    ((nat_lit 57), { cls := Value.type "tuple", data := Data.seq #[] }) ::
    ((nat_lit 59), { cls := Value.type "code", data := Data.fields #[Value.str (Str.ofString "u16") 243, Value.str (Str.ofString "u16") 244, Value.str (Str.ofString "/claim/cut.py") 245, Value.int 12 0, Value.int 2 0, Value.int 0 0, Value.int 0 0, Value.int 3 0, Value.ref 54, Value.bool true, Value.int 181 0, Value.ref 55, Value.none, Value.ref 56, Value.ref 57, Value.ref 58, Value.int 248 0, Value.int 12 0, Value.str (Str.ofString "/claim/cut.py") 249] }) ::
    ((nat_lit 60), { cls := Value.type "function", data := Data.func { name := Str.ofString "u16", qualname := Str.ofString "u16", params := a60, body := FuncBody.stmts b60, scope := c60, globals := 3, closure := [], defaults := Value.none, kwdefaults := Value.none, pyModule := Value.str (Str.ofString "outlinemill.sfnt") 241, code := Value.ref 59 } }) ::
    ((nat_lit 61), { cls := Value.type "tuple", data := Data.seq #[] }) ::
    ((nat_lit 63), { cls := Value.type "tuple", data := Data.seq #[Value.str (Str.ofString "octets") 254, Value.str (Str.ofString "at") 255, Value.str (Str.ofString "found") 256] }) ::
    ((nat_lit 64), { cls := Value.type "tuple", data := Data.seq #[] }) ::
    ((nat_lit 66), { cls := Value.type "code", data := Data.fields #[Value.str (Str.ofString "s16") 251, Value.str (Str.ofString "s16") 252, Value.str (Str.ofString "/claim/cut.py") 253, Value.int 16 0, Value.int 2 0, Value.int 0 0, Value.int 0 0, Value.int 3 0, Value.ref 61, Value.bool true, Value.int 181 0, Value.ref 62, Value.none, Value.ref 63, Value.ref 64, Value.ref 65, Value.int 257 0, Value.int 16 0, Value.str (Str.ofString "/claim/cut.py") 258] }) ::
    ((nat_lit 67), { cls := Value.type "function", data := Data.func { name := Str.ofString "s16", qualname := Str.ofString "s16", params := a67, body := FuncBody.stmts b67, scope := c67, globals := 3, closure := [], defaults := Value.none, kwdefaults := Value.none, pyModule := Value.str (Str.ofString "outlinemill.sfnt") 241, code := Value.ref 66 } }) ::
    ((nat_lit 68), { cls := Value.type "tuple", data := Data.seq #[] }) ::
    ((nat_lit 70), { cls := Value.type "tuple", data := Data.seq #[Value.str (Str.ofString "number") 263] }) ::
    ((nat_lit 71), { cls := Value.type "tuple", data := Data.seq #[] }) ::
    ((nat_lit 73), { cls := Value.type "code", data := Data.fields #[Value.str (Str.ofString "put16") 260, Value.str (Str.ofString "put16") 261, Value.str (Str.ofString "/claim/cut.py") 262, Value.int 19 0, Value.int 1 0, Value.int 0 0, Value.int 0 0, Value.int 3 0, Value.ref 68, Value.bool true, Value.int 181 0, Value.ref 69, Value.none, Value.ref 70, Value.ref 71, Value.ref 72, Value.int 264 0, Value.int 19 0, Value.str (Str.ofString "/claim/cut.py") 265] }) ::
    ((nat_lit 74), { cls := Value.type "function", data := Data.func { name := Str.ofString "put16", qualname := Str.ofString "put16", params := a74, body := FuncBody.stmts b74, scope := c74, globals := 3, closure := [], defaults := Value.none, kwdefaults := Value.none, pyModule := Value.str (Str.ofString "outlinemill.sfnt") 241, code := Value.ref 73 } }) ::
    ((nat_lit 75), { cls := Value.type "tuple", data := Data.seq #[] }) ::
    ((nat_lit 77), { cls := Value.type "tuple", data := Data.seq #[Value.str (Str.ofString "octets") 270, Value.str (Str.ofString "at") 271, Value.str (Str.ofString "size") 272] }) ::
    ((nat_lit 78), { cls := Value.type "tuple", data := Data.seq #[] }) ::
    ((nat_lit 80), { cls := Value.type "code", data := Data.fields #[Value.str (Str.ofString "part_of") 267, Value.str (Str.ofString "part_of") 268, Value.str (Str.ofString "/claim/cut.py") 269, Value.int 21 0, Value.int 3 0, Value.int 0 0, Value.int 0 0, Value.int 3 0, Value.ref 75, Value.bool true, Value.int 181 0, Value.ref 76, Value.none, Value.ref 77, Value.ref 78, Value.ref 79, Value.int 273 0, Value.int 21 0, Value.str (Str.ofString "/claim/cut.py") 274] }) ::
    ((nat_lit 81), { cls := Value.type "function", data := Data.func { name := Str.ofString "part_of", qualname := Str.ofString "part_of", params := a81, body := FuncBody.stmts b81, scope := c81, globals := 3, closure := [], defaults := Value.none, kwdefaults := Value.none, pyModule := Value.str (Str.ofString "outlinemill.sfnt") 241, code := Value.ref 80 } }) ::
    ((nat_lit 89), { cls := Value.type "tuple", data := Data.seq #[] }) ::
    ((nat_lit 91), { cls := Value.type "tuple", data := Data.seq #[Value.str (Str.ofString "self") 303, Value.str (Str.ofString "octets") 304] }) ::
    ((nat_lit 92), { cls := Value.type "tuple", data := Data.seq #[] }) ::
    ((nat_lit 94), { cls := Value.type "code", data := Data.fields #[Value.str (Str.ofString "__init__") 300, Value.str (Str.ofString "Octets.__init__") 301, Value.str (Str.ofString "/claim/cut.py") 302, Value.int 33 0, Value.int 2 0, Value.int 0 0, Value.int 0 0, Value.int 3 0, Value.ref 89, Value.bool true, Value.int 181 0, Value.ref 90, Value.none, Value.ref 91, Value.ref 92, Value.ref 93, Value.int 305 0, Value.int 33 0, Value.str (Str.ofString "/claim/cut.py") 306] }) ::
    ((nat_lit 95), { cls := Value.type "function", data := Data.func { name := Str.ofString "__init__", qualname := Str.ofString "Octets.__init__", params := a95, body := FuncBody.stmts b95, scope := c95, globals := 3, closure := [], defaults := Value.none, kwdefaults := Value.none, pyModule := Value.str (Str.ofString "outlinemill.glyf") 276, code := Value.ref 94 } }) ::
    ((nat_lit 96), { cls := Value.type "tuple", data := Data.seq #[] }) ::
    ((nat_lit 98), { cls := Value.type "tuple", data := Data.seq #[Value.str (Str.ofString "self") 311] }) ::
    ((nat_lit 99), { cls := Value.type "tuple", data := Data.seq #[] }) ::
    ((nat_lit 101), { cls := Value.type "code", data := Data.fields #[Value.str (Str.ofString "byte") 308, Value.str (Str.ofString "Octets.byte") 309, Value.str (Str.ofString "/claim/cut.py") 310, Value.int 37 0, Value.int 1 0, Value.int 0 0, Value.int 0 0, Value.int 3 0, Value.ref 96, Value.bool true, Value.int 181 0, Value.ref 97, Value.none, Value.ref 98, Value.ref 99, Value.ref 100, Value.int 312 0, Value.int 37 0, Value.str (Str.ofString "/claim/cut.py") 313] }) ::
    ((nat_lit 102), { cls := Value.type "function", data := Data.func { name := Str.ofString "byte", qualname := Str.ofString "Octets.byte", params := a102, body := FuncBody.stmts b102, scope := c102, globals := 3, closure := [], defaults := Value.none, kwdefaults := Value.none, pyModule := Value.str (Str.ofString "outlinemill.glyf") 276, code := Value.ref 101 } }) ::
    ((nat_lit 103), { cls := Value.type "tuple", data := Data.seq #[] }) ::
    ((nat_lit 105), { cls := Value.type "tuple", data := Data.seq #[Value.str (Str.ofString "self") 318] }) ::
    ((nat_lit 106), { cls := Value.type "tuple", data := Data.seq #[] }) ::
    ((nat_lit 108), { cls := Value.type "code", data := Data.fields #[Value.str (Str.ofString "word") 315, Value.str (Str.ofString "Octets.word") 316, Value.str (Str.ofString "/claim/cut.py") 317, Value.int 41 0, Value.int 1 0, Value.int 0 0, Value.int 0 0, Value.int 3 0, Value.ref 103, Value.bool true, Value.int 181 0, Value.ref 104, Value.none, Value.ref 105, Value.ref 106, Value.ref 107, Value.int 319 0, Value.int 41 0, Value.str (Str.ofString "/claim/cut.py") 320] }) ::
    ((nat_lit 109), { cls := Value.type "function", data := Data.func { name := Str.ofString "word", qualname := Str.ofString "Octets.word", params := a109, body := FuncBody.stmts b109, scope := c109, globals := 3, closure := [], defaults := Value.none, kwdefaults := Value.none, pyModule := Value.str (Str.ofString "outlinemill.glyf") 276, code := Value.ref 108 } }) ::
    ((nat_lit 110), { cls := Value.type "tuple", data := Data.seq #[] }) ::
    ((nat_lit 112), { cls := Value.type "tuple", data := Data.seq #[Value.str (Str.ofString "self") 325] }) ::
    ((nat_lit 113), { cls := Value.type "tuple", data := Data.seq #[] }) ::
    ((nat_lit 115), { cls := Value.type "code", data := Data.fields #[Value.str (Str.ofString "signed") 322, Value.str (Str.ofString "Octets.signed") 323, Value.str (Str.ofString "/claim/cut.py") 324, Value.int 45 0, Value.int 1 0, Value.int 0 0, Value.int 0 0, Value.int 3 0, Value.ref 110, Value.bool true, Value.int 181 0, Value.ref 111, Value.none, Value.ref 112, Value.ref 113, Value.ref 114, Value.int 326 0, Value.int 45 0, Value.str (Str.ofString "/claim/cut.py") 327] }) ::
    ((nat_lit 116), { cls := Value.type "function", data := Data.func { name := Str.ofString "signed", qualname := Str.ofString "Octets.signed", params := a116, body := FuncBody.stmts b116, scope := c116, globals := 3, closure := [], defaults := Value.none, kwdefaults := Value.none, pyModule := Value.str (Str.ofString "outlinemill.glyf") 276, code := Value.ref 115 } }) ::
    ((nat_lit 117), { cls := Value.type "tuple", data := Data.seq #[] }) ::
    ((nat_lit 119), { cls := Value.type "tuple", data := Data.seq #[Value.str (Str.ofString "self") 332, Value.str (Str.ofString "size") 333] }) ::
    ((nat_lit 120), { cls := Value.type "tuple", data := Data.seq #[] }) ::
    ((nat_lit 122), { cls := Value.type "code", data := Data.fields #[Value.str (Str.ofString "part") 329, Value.str (Str.ofString "Octets.part") 330, Value.str (Str.ofString "/claim/cut.py") 331, Value.int 49 0, Value.int 2 0, Value.int 0 0, Value.int 0 0, Value.int 3 0, Value.ref 117, Value.bool true, Value.int 181 0, Value.ref 118, Value.none, Value.ref 119, Value.ref 120, Value.ref 121, Value.int 334 0, Value.int 49 0, Value.str (Str.ofString "/claim/cut.py") 335] }) ::
    ((nat_lit 123), { cls := Value.type "function", data := Data.func { name := Str.ofString "part", qualname := Str.ofString "Octets.part", params := a123, body := FuncBody.stmts b123, scope := c123, globals := 3, closure := [], defaults := Value.none, kwdefaults := Value.none, pyModule := Value.str (Str.ofString "outlinemill.glyf") 276, code := Value.ref 122 } }) ::
    ((nat_lit 124), { cls := Value.type "tuple", data := Data.seq #[Value.str (Str.ofString "at") 337, Value.str (Str.ofString "octets") 338] }) ::
    ((nat_lit 125), { cls := Value.type "dict", data := Data.dict #[{ hash := PyData.keyHash P (Str.ofString "__module__"), key := Value.str (Str.ofString "__module__") 295, val := Value.str (Str.ofString "outlinemill.glyf") 276 }, { hash := PyData.keyHash P (Str.ofString "__firstlineno__"), key := Value.str (Str.ofString "__firstlineno__") 299, val := Value.int 31 298 }, { hash := PyData.keyHash P (Str.ofString "__init__"), key := Value.str (Str.ofString "__init__") 307, val := Value.ref 95 }, { hash := PyData.keyHash P (Str.ofString "byte"), key := Value.str (Str.ofString "byte") 314, val := Value.ref 102 }, { hash := PyData.keyHash P (Str.ofString "word"), key := Value.str (Str.ofString "word") 321, val := Value.ref 109 }, { hash := PyData.keyHash P (Str.ofString "signed"), key := Value.str (Str.ofString "signed") 328, val := Value.ref 116 }, { hash := PyData.keyHash P (Str.ofString "part"), key := Value.str (Str.ofString "part") 336, val := Value.ref 123 }, { hash := PyData.keyHash P (Str.ofString "__static_attributes__"), key := Value.str (Str.ofString "__static_attributes__") 339, val := Value.ref 124 }, { hash := PyData.keyHash P (Str.ofString "__dict__"), key := Value.str (Str.ofString "__dict__") 341, val := Value.ref 127 }, { hash := PyData.keyHash P (Str.ofString "__weakref__"), key := Value.str (Str.ofString "__weakref__") 343, val := Value.ref 128 }, { hash := PyData.keyHash P (Str.ofString "__doc__"), key := Value.str (Str.ofString "__doc__") 344, val := Value.none }] 4 }) ::
    ((nat_lit 126), { cls := Value.type "type", data := Data.cls { name := Str.ofString "Octets", bases := [Value.type "object"], mro := [Value.ref 126, Value.type "object"], ns := 125, qualname := Str.ofString "Octets" }, slots := #[none, none, some (Value.str (Str.ofString "Octets") 288), some (Value.str (Str.ofString "Octets") 296), some (Value.builtin "object.__new__"), some (Value.bool true)] }) ::
    ((nat_lit 127), { cls := Value.type "getset_descriptor", data := Data.fields #[Value.str (Str.ofString "__dict__") 340, Value.ref 126, Value.builtin "function.__dict__", Value.builtin "function.__dict__#set"] }) ::
    ((nat_lit 128), { cls := Value.type "getset_descriptor", data := Data.fields #[Value.str (Str.ofString "__weakref__") 342, Value.ref 126, Value.builtin "ExceptionGroup.__weakref__", Value.none] }) ::
    ((nat_lit 131), { cls := Value.type "tuple", data := Data.seq #[] }) ::
    ((nat_lit 133), { cls := Value.type "tuple", data := Data.seq #[Value.str (Str.ofString "octets") 350, Value.str (Str.ofString "count") 351, Value.str (Str.ofString "found") 352, Value.str (Str.ofString "flag") 353, Value.str (Str.ofString "many") 354] }) ::
    ((nat_lit 134), { cls := Value.type "tuple", data := Data.seq #[] }) ::
    ((nat_lit 136), { cls := Value.type "code", data := Data.fields #[Value.str (Str.ofString "read_flags") 347, Value.str (Str.ofString "read_flags") 348, Value.str (Str.ofString "/claim/cut.py") 349, Value.int 51 0, Value.int 2 0, Value.int 0 0, Value.int 0 0, Value.int 3 0, Value.ref 131, Value.bool true, Value.int 181 0, Value.ref 132, Value.none, Value.ref 133, Value.ref 134, Value.ref 135, Value.int 355 0, Value.int 51 0, Value.str (Str.ofString "/claim/cut.py") 356] }) ::
    ((nat_lit 137), { cls := Value.type "function", data := Data.func { name := Str.ofString "read_flags", qualname := Str.ofString "read_flags", params := a137, body := FuncBody.stmts b137, scope := c137, globals := 3, closure := [], defaults := Value.none, kwdefaults := Value.none, pyModule := Value.str (Str.ofString "outlinemill.glyf") 276, code := Value.ref 136 } }) ::
    ((nat_lit 138), { cls := Value.type "tuple", data := Data.seq #[] }) ::
    ((nat_lit 140), { cls := Value.type "tuple", data := Data.seq #[Value.str (Str.ofString "octets") 361, Value.str (Str.ofString "flags") 362, Value.str (Str.ofString "short") 363, Value.str (Str.ofString "same") 364, Value.str (Str.ofString "found") 365, Value.str (Str.ofString "at") 366, Value.str (Str.ofString "flag") 367, Value.str (Str.ofString "step") 368] }) ::
    ((nat_lit 141), { cls := Value.type "tuple", data := Data.seq #[] }) ::
    ((nat_lit 143), { cls := Value.type "code", data := Data.fields #[Value.str (Str.ofString "read_deltas") 358, Value.str (Str.ofString "read_deltas") 359, Value.str (Str.ofString "/claim/cut.py") 360, Value.int 62 0, Value.int 4 0, Value.int 0 0, Value.int 0 0, Value.int 3 0, Value.ref 138, Value.bool true, Value.int 181 0, Value.ref 139, Value.none, Value.ref 140, Value.ref 141, Value.ref 142, Value.int 369 0, Value.int 62 0, Value.str (Str.ofString "/claim/cut.py") 370] }) ::
    ((nat_lit 144), { cls := Value.type "function", data := Data.func { name := Str.ofString "read_deltas", qualname := Str.ofString "read_deltas", params := a144, body := FuncBody.stmts b144, scope := c144, globals := 3, closure := [], defaults := Value.none, kwdefaults := Value.none, pyModule := Value.str (Str.ofString "outlinemill.glyf") 276, code := Value.ref 143 } }) ::
    ((nat_lit 145), { cls := Value.type "tuple", data := Data.seq #[] }) ::
    ((nat_lit 147), { cls := Value.type "tuple", data := Data.seq #[Value.str (Str.ofString "octets") 375, Value.str (Str.ofString "many") 376, Value.str (Str.ofString "found") 377, Value.str (Str.ofString "number") 378, Value.str (Str.ofString "end") 379] }) ::
    ((nat_lit 148), { cls := Value.type "tuple", data := Data.seq #[] }) ::
    ((nat_lit 150), { cls := Value.type "code", data := Data.fields #[Value.str (Str.ofString "read_ends") 372, Value.str (Str.ofString "read_ends") 373, Value.str (Str.ofString "/claim/cut.py") 374, Value.int 73 0, Value.int 2 0, Value.int 0 0, Value.int 0 0, Value.int 3 0, Value.ref 145, Value.bool true, Value.int 181 0, Value.ref 146, Value.none, Value.ref 147, Value.ref 148, Value.ref 149, Value.int 380 0, Value.int 73 0, Value.str (Str.ofString "/claim/cut.py") 381] }) ::
    ((nat_lit 151), { cls := Value.type "function", data := Data.func { name := Str.ofString "read_ends", qualname := Str.ofString "read_ends", params := a151, body := FuncBody.stmts b151, scope := c151, globals := 3, closure := [], defaults := Value.none, kwdefaults := Value.none, pyModule := Value.str (Str.ofString "outlinemill.glyf") 276, code := Value.ref 150 } }) ::
    ((nat_lit 152), { cls := Value.type "tuple", data := Data.seq #[] }) ::
    ((nat_lit 154), { cls := Value.type "tuple", data := Data.seq #[Value.str (Str.ofString "step") 390, Value.str (Str.ofString "short") 391, Value.str (Str.ofString "same") 392] }) ::
    ((nat_lit 155), { cls := Value.type "tuple", data := Data.seq #[] }) ::
    ((nat_lit 157), { cls := Value.type "code", data := Data.fields #[Value.str (Str.ofString "axis_flag") 387, Value.str (Str.ofString "axis_flag") 388, Value.str (Str.ofString "/claim/cut.py") 389, Value.int 83 0, Value.int 3 0, Value.int 0 0, Value.int 0 0, Value.int 3 0, Value.ref 152, Value.bool true, Value.int 181 0, Value.ref 153, Value.none, Value.ref 154, Value.ref 155, Value.ref 156, Value.int 393 0, Value.int 83 0, Value.str (Str.ofString "/claim/cut.py") 394] }) ::
    ((nat_lit 158), { cls := Value.type "function", data := Data.func { name := Str.ofString "axis_flag", qualname := Str.ofString "axis_flag", params := a158, body := FuncBody.stmts b158, scope := c158, globals := 3, closure := [], defaults := Value.none, kwdefaults := Value.none, pyModule := Value.str (Str.ofString "outlinemill.glyf_writer") 383, code := Value.ref 157 } }) ::
    ((nat_lit 159), { cls := Value.type "tuple", data := Data.seq #[] }) ::
    ((nat_lit 161), { cls := Value.type "tuple", data := Data.seq #[Value.str (Str.ofString "flags") 399, Value.str (Str.ofString "found") 400, Value.str (Str.ofString "at") 401, Value.str (Str.ofString "many") 402] }) ::
    ((nat_lit 162), { cls := Value.type "tuple", data := Data.seq #[] }) ::
    ((nat_lit 164), { cls := Value.type "code", data := Data.fields #[Value.str (Str.ofString "flag_octets") 396, Value.str (Str.ofString "flag_octets") 397, Value.str (Str.ofString "/claim/cut.py") 398, Value.int 93 0, Value.int 1 0, Value.int 0 0, Value.int 0 0, Value.int 3 0, Value.ref 159, Value.bool true, Value.int 181 0, Value.ref 160, Value.none, Value.ref 161, Value.ref 162, Value.ref 163, Value.int 403 0, Value.int 93 0, Value.str (Str.ofString "/claim/cut.py") 404] }) ::
    ((nat_lit 165), { cls := Value.type "function", data := Data.func { name := Str.ofString "flag_octets", qualname := Str.ofString "flag_octets", params := a165, body := FuncBody.stmts b165, scope := c165, globals := 3, closure := [], defaults := Value.none, kwdefaults := Value.none, pyModule := Value.str (Str.ofString "outlinemill.glyf_writer") 383, code := Value.ref 164 } }) ::
    ((nat_lit 166), { cls := Value.type "tuple", data := Data.seq #[] }) ::
    ((nat_lit 168), { cls := Value.type "tuple", data := Data.seq #[Value.str (Str.ofString "script") 411, Value.str (Str.ofString "k") 412, Value.str (Str.ofString "cell") 413, Value.str (Str.ofString "big") 414, Value.str (Str.ofString "stir") 415] }) ::
    ((nat_lit 169), { cls := Value.type "tuple", data := Data.seq #[] }) ::
    ((nat_lit 171), { cls := Value.type "code", data := Data.fields #[Value.str (Str.ofString "_law_pool") 408, Value.str (Str.ofString "_law_pool") 409, Value.str (Str.ofString "/claim/cut.py") 410, Value.int 107 0, Value.int 2 0, Value.int 0 0, Value.int 0 0, Value.int 3 0, Value.ref 166, Value.bool true, Value.int 181 0, Value.ref 167, Value.none, Value.ref 168, Value.ref 169, Value.ref 170, Value.int 416 0, Value.int 107 0, Value.str (Str.ofString "/claim/cut.py") 417] }) ::
    ((nat_lit 172), { cls := Value.type "function", data := Data.func { name := Str.ofString "_law_pool", qualname := Str.ofString "_law_pool", params := a172, body := FuncBody.stmts b172, scope := c172, globals := 3, closure := [], defaults := Value.none, kwdefaults := Value.none, pyModule := Value.str (Str.ofString "law_on0233_01") 406, code := Value.ref 171 } }) ::
    ((nat_lit 173), { cls := Value.type "tuple", data := Data.seq #[] }) ::
    ((nat_lit 175), { cls := Value.type "tuple", data := Data.seq #[Value.str (Str.ofString "source") 422, Value.str (Str.ofString "top") 423, Value.str (Str.ofString "got") 424] }) ::
    ((nat_lit 176), { cls := Value.type "tuple", data := Data.seq #[] }) ::
    ((nat_lit 178), { cls := Value.type "code", data := Data.fields #[Value.str (Str.ofString "_law_take") 419, Value.str (Str.ofString "_law_take") 420, Value.str (Str.ofString "/claim/cut.py") 421, Value.int 114 0, Value.int 2 0, Value.int 0 0, Value.int 0 0, Value.int 3 0, Value.ref 173, Value.bool true, Value.int 181 0, Value.ref 174, Value.none, Value.ref 175, Value.ref 176, Value.ref 177, Value.int 425 0, Value.int 114 0, Value.str (Str.ofString "/claim/cut.py") 426] }) ::
    ((nat_lit 179), { cls := Value.type "function", data := Data.func { name := Str.ofString "_law_take", qualname := Str.ofString "_law_take", params := a179, body := FuncBody.stmts b179, scope := c179, globals := 3, closure := [], defaults := Value.none, kwdefaults := Value.none, pyModule := Value.str (Str.ofString "law_on0233_01") 406, code := Value.ref 178 } }) ::
    ((nat_lit 180), { cls := Value.type "tuple", data := Data.seq #[] }) ::
    ((nat_lit 182), { cls := Value.type "tuple", data := Data.seq #[Value.str (Str.ofString "source") 431, Value.str (Str.ofString "things") 432] }) ::
    ((nat_lit 183), { cls := Value.type "tuple", data := Data.seq #[] }) ::
    ((nat_lit 185), { cls := Value.type "code", data := Data.fields #[Value.str (Str.ofString "_law_one") 428, Value.str (Str.ofString "_law_one") 429, Value.str (Str.ofString "/claim/cut.py") 430, Value.int 121 0, Value.int 2 0, Value.int 0 0, Value.int 0 0, Value.int 3 0, Value.ref 180, Value.bool true, Value.int 181 0, Value.ref 181, Value.none, Value.ref 182, Value.ref 183, Value.ref 184, Value.int 433 0, Value.int 121 0, Value.str (Str.ofString "/claim/cut.py") 434] }) ::
    ((nat_lit 186), { cls := Value.type "function", data := Data.func { name := Str.ofString "_law_one", qualname := Str.ofString "_law_one", params := a186, body := FuncBody.stmts b186, scope := c186, globals := 3, closure := [], defaults := Value.none, kwdefaults := Value.none, pyModule := Value.str (Str.ofString "law_on0233_01") 406, code := Value.ref 185 } }) ::
    ((nat_lit 187), { cls := Value.type "tuple", data := Data.seq #[] }) ::
    ((nat_lit 189), { cls := Value.type "tuple", data := Data.seq #[Value.str (Str.ofString "source") 439, Value.str (Str.ofString "found") 440, Value.str (Str.ofString "turn") 441, Value.str (Str.ofString "flag") 442] }) ::
    ((nat_lit 190), { cls := Value.type "tuple", data := Data.seq #[] }) ::
    ((nat_lit 192), { cls := Value.type "code", data := Data.fields #[Value.str (Str.ofString "_law_flags") 436, Value.str (Str.ofString "_law_flags") 437, Value.str (Str.ofString "/claim/cut.py") 438, Value.int 123 0, Value.int 1 0, Value.int 0 0, Value.int 0 0, Value.int 3 0, Value.ref 187, Value.bool true, Value.int 181 0, Value.ref 188, Value.none, Value.ref 189, Value.ref 190, Value.ref 191, Value.int 443 0, Value.int 123 0, Value.str (Str.ofString "/claim/cut.py") 444] }) ::
    ((nat_lit 193), { cls := Value.type "function", data := Data.func { name := Str.ofString "_law_flags", qualname := Str.ofString "_law_flags", params := a193, body := FuncBody.stmts b193, scope := c193, globals := 3, closure := [], defaults := Value.none, kwdefaults := Value.none, pyModule := Value.str (Str.ofString "law_on0233_01") 406, code := Value.ref 192 } }) ::
    ((nat_lit 194), { cls := Value.type "tuple", data := Data.seq #[] }) ::
    ((nat_lit 196), { cls := Value.type "tuple", data := Data.seq #[Value.str (Str.ofString "flags") 449, Value.str (Str.ofString "found") 450, Value.str (Str.ofString "runs") 451, Value.str (Str.ofString "due") 452, Value.str (Str.ofString "flag") 453, Value.str (Str.ofString "many") 454] }) ::
    ((nat_lit 197), { cls := Value.type "tuple", data := Data.seq #[] }) ::
    ((nat_lit 199), { cls := Value.type "code", data := Data.fields #[Value.str (Str.ofString "_law_written") 446, Value.str (Str.ofString "_law_written") 447, Value.str (Str.ofString "/claim/cut.py") 448, Value.int 129 0, Value.int 1 0, Value.int 0 0, Value.int 0 0, Value.int 3 0, Value.ref 194, Value.bool true, Value.int 181 0, Value.ref 195, Value.none, Value.ref 196, Value.ref 197, Value.ref 198, Value.int 455 0, Value.int 129 0, Value.str (Str.ofString "/claim/cut.py") 456] }) ::
    ((nat_lit 200), { cls := Value.type "function", data := Data.func { name := Str.ofString "_law_written", qualname := Str.ofString "_law_written", params := a200, body := FuncBody.stmts b200, scope := c200, globals := 3, closure := [], defaults := Value.none, kwdefaults := Value.none, pyModule := Value.str (Str.ofString "law_on0233_01") 406, code := Value.ref 199 } }) ::
    ((nat_lit 201), { cls := Value.type "tuple", data := Data.seq #[] }) ::
    ((nat_lit 203), { cls := Value.type "tuple", data := Data.seq #[Value.str (Str.ofString "call") 461] }) ::
    ((nat_lit 204), { cls := Value.type "tuple", data := Data.seq #[] }) ::
    ((nat_lit 206), { cls := Value.type "code", data := Data.fields #[Value.str (Str.ofString "_law_refused") 458, Value.str (Str.ofString "_law_refused") 459, Value.str (Str.ofString "/claim/cut.py") 460, Value.int 140 0, Value.int 1 0, Value.int 0 0, Value.int 0 0, Value.int 3 0, Value.ref 201, Value.bool true, Value.int 181 0, Value.ref 202, Value.none, Value.ref 203, Value.ref 204, Value.ref 205, Value.int 462 0, Value.int 140 0, Value.str (Str.ofString "/claim/cut.py") 463] }) ::
    ((nat_lit 207), { cls := Value.type "function", data := Data.func { name := Str.ofString "_law_refused", qualname := Str.ofString "_law_refused", params := a207, body := FuncBody.stmts b207, scope := c207, globals := 3, closure := [], defaults := Value.none, kwdefaults := Value.none, pyModule := Value.str (Str.ofString "law_on0233_01") 406, code := Value.ref 206 } }) ::
    ((nat_lit 208), { cls := Value.type "tuple", data := Data.seq #[] }) ::
    ((nat_lit 210), { cls := Value.type "tuple", data := Data.seq #[Value.str (Str.ofString "source") 468, Value.str (Str.ofString "told") 469, Value.str (Str.ofString "due") 470, Value.str (Str.ofString "cursor") 471] }) ::
    ((nat_lit 211), { cls := Value.type "tuple", data := Data.seq #[Value.str (Str.ofString "flags") 472, Value.str (Str.ofString "more") 473, Value.str (Str.ofString "octets") 474] }) ::
    ((nat_lit 213), { cls := Value.type "code", data := Data.fields #[Value.str (Str.ofString "_law_flags_right") 465, Value.str (Str.ofString "_law_flags_right") 466, Value.str (Str.ofString "/claim/cut.py") 467, Value.int 146 0, Value.int 1 0, Value.int 0 0, Value.int 0 0, Value.int 3 0, Value.ref 208, Value.bool true, Value.int 181 0, Value.ref 209, Value.none, Value.ref 210, Value.ref 211, Value.ref 212, Value.int 475 0, Value.int 146 0, Value.str (Str.ofString "/claim/cut.py") 476] }) ::
    ((nat_lit 214), { cls := Value.type "function", data := Data.func { name := Str.ofString "_law_flags_right", qualname := Str.ofString "_law_flags_right", params := a214, body := FuncBody.stmts b214, scope := c214, globals := 3, closure := [], defaults := Value.none, kwdefaults := Value.none, pyModule := Value.str (Str.ofString "law_on0233_01") 406, code := Value.ref 213 } }) ::
    ((nat_lit 215), { cls := Value.type "tuple", data := Data.seq #[] }) ::
    ((nat_lit 217), { cls := Value.type "tuple", data := Data.seq #[Value.str (Str.ofString "source") 481, Value.str (Str.ofString "sizes") 482, Value.str (Str.ofString "size") 483] }) ::
    ((nat_lit 218), { cls := Value.type "tuple", data := Data.seq #[] }) ::
    ((nat_lit 220), { cls := Value.type "code", data := Data.fields #[Value.str (Str.ofString "_law_step") 478, Value.str (Str.ofString "_law_step") 479, Value.str (Str.ofString "/claim/cut.py") 480, Value.int 158 0, Value.int 1 0, Value.int 0 0, Value.int 0 0, Value.int 3 0, Value.ref 215, Value.bool true, Value.int 181 0, Value.ref 216, Value.none, Value.ref 217, Value.ref 218, Value.ref 219, Value.int 484 0, Value.int 158 0, Value.str (Str.ofString "/claim/cut.py") 485] }) ::
    ((nat_lit 221), { cls := Value.type "function", data := Data.func { name := Str.ofString "_law_step", qualname := Str.ofString "_law_step", params := a221, body := FuncBody.stmts b221, scope := c221, globals := 3, closure := [], defaults := Value.none, kwdefaults := Value.none, pyModule := Value.str (Str.ofString "law_on0233_01") 406, code := Value.ref 220 } }) ::
    ((nat_lit 222), { cls := Value.type "tuple", data := Data.seq #[] }) ::
    ((nat_lit 224), { cls := Value.type "tuple", data := Data.seq #[Value.str (Str.ofString "step") 490, Value.str (Str.ofString "brief") 491, Value.str (Str.ofString "same") 492] }) ::
    ((nat_lit 225), { cls := Value.type "tuple", data := Data.seq #[] }) ::
    ((nat_lit 227), { cls := Value.type "code", data := Data.fields #[Value.str (Str.ofString "_law_told") 487, Value.str (Str.ofString "_law_told") 488, Value.str (Str.ofString "/claim/cut.py") 489, Value.int 162 0, Value.int 3 0, Value.int 0 0, Value.int 0 0, Value.int 3 0, Value.ref 222, Value.bool true, Value.int 181 0, Value.ref 223, Value.none, Value.ref 224, Value.ref 225, Value.ref 226, Value.int 493 0, Value.int 162 0, Value.str (Str.ofString "/claim/cut.py") 494] }) ::
    ((nat_lit 228), { cls := Value.type "function", data := Data.func { name := Str.ofString "_law_told", qualname := Str.ofString "_law_told", params := a228, body := FuncBody.stmts b228, scope := c228, globals := 3, closure := [], defaults := Value.none, kwdefaults := Value.none, pyModule := Value.str (Str.ofString "law_on0233_01") 406, code := Value.ref 227 } }) ::
    ((nat_lit 229), { cls := Value.type "tuple", data := Data.seq #[] }) ::
    ((nat_lit 232), { cls := Value.type "code", data := Data.fields #[Value.str (Str.ofString "_law_axis_right") 496, Value.str (Str.ofString "_law_axis_right") 497, Value.str (Str.ofString "/claim/cut.py") 498, Value.int 168 0, Value.int 3 0, Value.int 0 0, Value.int 0 0, Value.int 3 0, Value.ref 229, Value.bool true, Value.int 181 0, Value.ref 230, Value.none, Value.none, Value.none, Value.ref 231, Value.int 499 0, Value.int 168 0, Value.str (Str.ofString "/claim/cut.py") 500] }) ::
    ((nat_lit 233), { cls := Value.type "function", data := Data.func { name := Str.ofString "_law_axis_right", qualname := Str.ofString "_law_axis_right", params := a233, body := FuncBody.stmts b233, scope := c233, globals := 3, closure := [], defaults := Value.none, kwdefaults := Value.none, pyModule := Value.str (Str.ofString "law_on0233_01") 406, code := Value.ref 232 } }) ::
    ((nat_lit 234), { cls := Value.type "tuple", data := Data.seq #[] }) ::
    ((nat_lit 237), { cls := Value.type "code", data := Data.fields #[Value.str (Str.ofString "_law_ends_right") 502, Value.str (Str.ofString "_law_ends_right") 503, Value.str (Str.ofString "/claim/cut.py") 504, Value.int 179 0, Value.int 1 0, Value.int 0 0, Value.int 0 0, Value.int 3 0, Value.ref 234, Value.bool true, Value.int 181 0, Value.ref 235, Value.none, Value.none, Value.none, Value.ref 236, Value.int 505 0, Value.int 179 0, Value.str (Str.ofString "/claim/cut.py") 506] }) ::
    ((nat_lit 238), { cls := Value.type "function", data := Data.func { name := Str.ofString "_law_ends_right", qualname := Str.ofString "_law_ends_right", params := a238, body := FuncBody.stmts b238, scope := c238, globals := 3, closure := [], defaults := Value.none, kwdefaults := Value.none, pyModule := Value.str (Str.ofString "law_on0233_01") 406, code := Value.ref 237 } }) ::
    ((nat_lit 239), { cls := Value.type "tuple", data := Data.seq #[] }) ::
    ((nat_lit 241), { cls := Value.type "tuple", data := Data.seq #[Value.str (Str.ofString "script") 511, Value.str (Str.ofString "source") 512] }) ::
    ((nat_lit 242), { cls := Value.type "tuple", data := Data.seq #[Value.str (Str.ofString "brief") 513, Value.str (Str.ofString "same") 514] }) ::
    ((nat_lit 244), { cls := Value.type "code", data := Data.fields #[Value.str (Str.ofString "law") 508, Value.str (Str.ofString "law") 509, Value.str (Str.ofString "/claim/cut.py") 510, Value.int 194 0, Value.int 1 0, Value.int 0 0, Value.int 0 0, Value.int 3 0, Value.ref 239, Value.bool true, Value.int 181 0, Value.ref 240, Value.none, Value.ref 241, Value.ref 242, Value.ref 243, Value.int 515 0, Value.int 194 0, Value.str (Str.ofString "/claim/cut.py") 516] }) ::
    ((nat_lit 245), { cls := Value.type "function", data := Data.func { name := Str.ofString "law", qualname := Str.ofString "law", params := a245, body := FuncBody.stmts b245, scope := c245, globals := 3, closure := [], defaults := Value.none, kwdefaults := Value.none, pyModule := Value.str (Str.ofString "law_on0233_01") 406, code := Value.ref 244 } }) :: []) _ _ _ _ _ _ _ _ _ _ rfl _ _ _ _ _ _ _ _ _ _ rfl _ _ _ _ _ _ _ _ _ _ rfl _ _ _ _ _ _ _ _ _ _ rfl _ _ _ _ _ _ _ _ _ _ rfl _ _ _ _ _ _ _ _ _ _ rfl _ _ _ _ _ _ _ _ _ _ rfl _ _ _ _ _ _ _ _ _ _ rfl _ _ _ _ _ _ _ _ _ _ rfl _ _ _ _ _ _ _ _ _ _ rfl _ _ _ _ _ _ _ _ _ _ rfl _ _ _ _ _ _ _ _ _ _ rfl _ _ _ _ _ _ _ _ _ _ rfl _ _ _ _ _ _ _ _ _ _ rfl _ _ _ _ _ _ _ _ _ _ rfl _ _ _ _ _ _ _ _ _ _ rfl _ _ _ _ _ _ _ _ _ _ rfl _ _ _ _ _ _ _ _ _ _ rfl _ _ _ _ _ _ _ _ _ _ rfl _ _ _ _ _ _ _ _ _ _ rfl _ _ _ _ _ _ _ _ _ _ rfl _ _ _ _ _ _ _ _ _ _ rfl _ _ _ _ _ _ _ _ _ _ rfl _ _ _ _ _ _ _ _ _ _ rfl _ _ _ _ _ _ _ _ _ _ rfl _ _ _ _ _ _ _ _ _ _ rfl _ _ _ _ _ _ _ _ _ _ rfl _ _ _ _ _ _ _ _ _ _ rfl
noncomputable def theView : Program := { PySem.Challenge.pw_on0233_01 with main := { PySem.Challenge.pw_on0233_01.main with body := ([0, 2, 3, 5, 6, 7, 8, 10, 11, 12, 13, 14, 15, 16, 17, 18, 20, 21, 22, 24, 25, 26, 27, 28, 29, 30, 31, 32, 33, 34, 35] : List Nat).filterMap (nth PySem.Challenge.pw_on0233_01.main.body) } }
noncomputable abbrev theHook : Hook := kmHook theHeap [2, 3, 15, 17, 18, 20, 21, 22, 29, 31, 32, 34, 35, 36, 37, 38, 39, 42, 49, 50, 51, 54, 56, 57, 59, 60, 61, 63, 64, 66, 67, 68, 70, 71, 73, 74, 75, 77, 78, 80, 81, 89, 91, 92, 94, 95, 96, 98, 99, 101, 102, 103, 105, 106, 108, 109, 110, 112, 113, 115, 116, 117, 119, 120, 122, 123, 124, 125, 126, 127, 128, 131, 133, 134, 136, 137, 138, 140, 141, 143, 144, 145, 147, 148, 150, 151, 152, 154, 155, 157, 158, 159, 161, 162, 164, 165, 166, 168, 169, 171, 172, 173, 175, 176, 178, 179, 180, 182, 183, 185, 186, 187, 189, 190, 192, 193, 194, 196, 197, 199, 200, 201, 203, 204, 206, 207, 208, 210, 211, 213, 214, 215, 217, 218, 220, 221, 222, 224, 225, 227, 228, 229, 232, 233, 234, 237, 238, 239, 241, 242, 244, 245] (fun _ => by kernel_rfl) [235, 230, 209, 240]
end Mine
namespace Mine
noncomputable def fA : Option Stmt → Arguments
  | some (.FunctionDef _ a _ _ _ _ _ _ _ _) => a
  | _ => default
noncomputable def fB : Option Stmt → List Stmt
  | some (.FunctionDef _ _ b _ _ _ _ _ _ _) => b
  | _ => []
noncomputable def fC : Option Stmt → Scope
  | some (.FunctionDef _ _ _ _ _ _ c _ _ _) => c
  | _ => default
noncomputable def so_43 (_ : Params) : Obj := { cls := Value.type "tuple", data := Data.seq #[] }
noncomputable def so_44 (_ : Params) : Obj := { cls := Value.none, data := Data.fields #[] }
noncomputable def so_45 (_ : Params) : Obj := { cls := Value.type "code", data := Data.fields #[Value.str (Str.ofString "<module>") 182, Value.str (Str.ofString "<module>") 183, Value.str (Str.ofString "/claim/cut.py") 184, Value.int 1 0, Value.int 0 0, Value.int 0 0, Value.int 0 0, Value.int 0 0, Value.ref 11, Value.bool false, Value.int 181 0, Value.ref 12, Value.none, Value.none, Value.none, Value.none, Value.int 185 0, Value.int 1 0, Value.str (Str.ofString "/claim/cut.py") 186] }
noncomputable def so_46 (_ : Params) : Obj := { cls := Value.type "frame", slots := #[some (Value.ref 13), some (Value.ref 3), some (Value.ref 3), none, some (Value.str (Str.ofString "__main__") 164), none, some (Value.ref 0)] }
noncomputable def so_49 (P : Params) : Obj := { cls := Value.none, data := Data.dict #[{ hash := PyData.keyHash P (Str.ofString "type.__subclasses__.Exception.0"), key := Value.str (Str.ofString "type.__subclasses__.Exception.0") 221, val := Value.int 38 0 }, { hash := PyData.keyHash P (Str.ofString "type.__subclasses__.Exception.n"), key := Value.str (Str.ofString "type.__subclasses__.Exception.n") 222, val := Value.int 1 0 }] 2 }
noncomputable def so_50 (P : Params) : Obj := { cls := Value.type "dict", data := Data.dict #[{ hash := PyData.keyHash P (Str.ofString "__name__"), key := Value.str (Str.ofString "__name__") 165, val := Value.str (Str.ofString "outlinemill.errors") 194 }, { hash := PyData.keyHash P (Str.ofString "__doc__"), key := Value.str (Str.ofString "__doc__") 166, val := Value.none }, { hash := PyData.keyHash P (Str.ofString "__package__"), key := Value.str (Str.ofString "__package__") 167, val := Value.none }, { hash := PyData.keyHash P (Str.ofString "__loader__"), key := Value.str (Str.ofString "__loader__") 168, val := Value.builtin "__main__.__loader__#opaque" }, { hash := PyData.keyHash P (Str.ofString "__spec__"), key := Value.str (Str.ofString "__spec__") 169, val := Value.none }, { hash := PyData.keyHash P (Str.ofString "__annotations__"), key := Value.str (Str.ofString "__annotations__") 170, val := Value.ref 6 }, { hash := PyData.keyHash P (Str.ofString "__builtins__"), key := Value.str (Str.ofString "__builtins__") 171, val := Value.ref 4 }, { hash := PyData.keyHash P (Str.ofString "__file__"), key := Value.str (Str.ofString "__file__") 173, val := Value.str (Str.ofString "/claim/cut.py") 172 }, { hash := PyData.keyHash P (Str.ofString "__cached__"), key := Value.str (Str.ofString "__cached__") 174, val := Value.none }, { hash := PyData.keyHash P (Str.ofString "_wall"), key := Value.str (Str.ofString "_wall") 193, val := Value.ref 21 }, { hash := PyData.keyHash P (Str.ofString "MillError"), key := Value.str (Str.ofString "MillError") 224, val := Value.ref 38 }] 11 }
noncomputable def so_51 (_ : Params) : Obj := { cls := Value.none, data := Data.fields #[Value.int 1 0, Value.int 0 0, Value.ref 20, Value.int 5 0, Value.int 0 0, Value.ref 27] }
noncomputable def so_52 (_ : Params) : Obj := { cls := Value.type "tuple", data := Data.seq #[] }
noncomputable def so_53 (_ : Params) : Obj := { cls := Value.none, data := Data.fields #[] }
noncomputable def so_54 (_ : Params) : Obj := { cls := Value.type "tuple", data := Data.seq #[Value.str (Str.ofString "k") 190] }
noncomputable def so_55 (_ : Params) : Obj := { cls := Value.type "tuple", data := Data.seq #[] }
noncomputable def so_56 (_ : Params) : Obj := { cls := Value.none, data := Data.func { name := Str.ofString "_wall", qualname := Str.ofString "_wall", params := fA (nth PySem.Challenge.pw_on0233_01.main.body 0), body := FuncBody.stmts (fB (nth PySem.Challenge.pw_on0233_01.main.body 0)), scope := fC (nth PySem.Challenge.pw_on0233_01.main.body 0), globals := 0, closure := [], defaults := Value.none, kwdefaults := Value.none } }
noncomputable def so_57 (_ : Params) : Obj := { cls := Value.type "code", data := Data.fields #[Value.str (Str.ofString "_wall") 187, Value.str (Str.ofString "_wall") 188, Value.str (Str.ofString "/claim/cut.py") 189, Value.int 1 0, Value.int 1 0, Value.int 0 0, Value.int 0 0, Value.int 3 0, Value.ref 15, Value.bool true, Value.int 181 0, Value.ref 16, Value.none, Value.ref 17, Value.ref 18, Value.ref 19, Value.int 191 0, Value.int 1 0, Value.str (Str.ofString "/claim/cut.py") 192] }
noncomputable def so_58 (_ : Params) : Obj := { cls := Value.type "function", data := Data.func { name := Str.ofString "_wall", qualname := Str.ofString "_wall", params := fA (nth PySem.Challenge.pw_on0233_01.main.body 0), body := FuncBody.stmts (fB (nth PySem.Challenge.pw_on0233_01.main.body 0)), scope := fC (nth PySem.Challenge.pw_on0233_01.main.body 0), globals := 3, closure := [], defaults := Value.none, kwdefaults := Value.none, pyModule := Value.str (Str.ofString "__main__") 164, code := Value.ref 20 } }
noncomputable def so_59 (_ : Params) : Obj := { cls := Value.type "tuple", data := Data.seq #[Value.type "Exception"] }
noncomputable def so_60 (_ : Params) : Obj := { cls := Value.type "builtin_function_or_method", data := Data.fields #[Value.builtin "type.__prepare__", Value.type "type"] }
noncomputable def so_61 (P : Params) : Obj := { cls := Value.type "dict", data := Data.dict #[{ hash := PyData.keyHash P (Str.ofString "__module__"), key := Value.str (Str.ofString "__module__") 203, val := Value.str (Str.ofString "outlinemill.errors") 194 }, { hash := PyData.keyHash P (Str.ofString "__qualname__"), key := Value.str (Str.ofString "__qualname__") 205, val := Value.str (Str.ofString "MillError") 204 }, { hash := PyData.keyHash P (Str.ofString "__firstlineno__"), key := Value.str (Str.ofString "__firstlineno__") 207, val := Value.int 5 206 }, { hash := PyData.keyHash P (Str.ofString "__init__"), key := Value.str (Str.ofString "__init__") 215, val := Value.ref 35 }, { hash := PyData.keyHash P (Str.ofString "__static_attributes__"), key := Value.str (Str.ofString "__static_attributes__") 217, val := Value.ref 36 }] 5 }
noncomputable def so_62 (_ : Params) : Obj := { cls := Value.type "tuple", data := Data.seq #[] }
noncomputable def so_63 (_ : Params) : Obj := { cls := Value.none, data := Data.fields #[Value.int 7 0, Value.int 4 0, Value.ref 34] }
noncomputable def so_64 (_ : Params) : Obj := { cls := Value.type "code", data := Data.fields #[Value.str (Str.ofString "MillError") 198, Value.str (Str.ofString "MillError") 199, Value.str (Str.ofString "/claim/cut.py") 200, Value.int 5 0, Value.int 0 0, Value.int 0 0, Value.int 0 0, Value.int 0 0, Value.ref 25, Value.bool false, Value.int 181 0, Value.ref 26, Value.none, Value.none, Value.none, Value.none, Value.int 201 0, Value.int 5 0, Value.str (Str.ofString "/claim/cut.py") 202] }
noncomputable def so_65 (_ : Params) : Obj := { cls := Value.type "frame", slots := #[some (Value.ref 27), some (Value.ref 3), some (Value.ref 24), none, some (Value.str (Str.ofString "outlinemill.errors") 194), none, some (Value.ref 0)] }
noncomputable def so_66 (_ : Params) : Obj := { cls := Value.type "tuple", data := Data.seq #[] }
noncomputable def so_67 (_ : Params) : Obj := { cls := Value.none, data := Data.fields #[] }
noncomputable def so_68 (_ : Params) : Obj := { cls := Value.type "tuple", data := Data.seq #[Value.str (Str.ofString "self") 211, Value.str (Str.ofString "message") 212] }
noncomputable def so_69 (_ : Params) : Obj := { cls := Value.type "tuple", data := Data.seq #[] }
noncomputable def so_70 (_ : Params) : Obj := { cls := Value.none, data := Data.func { name := Str.ofString "__init__", qualname := Str.ofString "MillError.__init__", params := fA (nth (meths (nth PySem.Challenge.pw_on0233_01.main.body 2)) 0), body := FuncBody.stmts (fB (nth (meths (nth PySem.Challenge.pw_on0233_01.main.body 2)) 0)), scope := fC (nth (meths (nth PySem.Challenge.pw_on0233_01.main.body 2)) 0), globals := 0, closure := [], defaults := Value.none, kwdefaults := Value.none } }
noncomputable def so_71 (_ : Params) : Obj := { cls := Value.type "code", data := Data.fields #[Value.str (Str.ofString "__init__") 208, Value.str (Str.ofString "MillError.__init__") 209, Value.str (Str.ofString "/claim/cut.py") 210, Value.int 7 0, Value.int 2 0, Value.int 0 0, Value.int 0 0, Value.int 3 0, Value.ref 29, Value.bool true, Value.int 181 0, Value.ref 30, Value.none, Value.ref 31, Value.ref 32, Value.ref 33, Value.int 213 0, Value.int 7 0, Value.str (Str.ofString "/claim/cut.py") 214] }
noncomputable def so_72 (_ : Params) : Obj := { cls := Value.type "function", data := Data.func { name := Str.ofString "__init__", qualname := Str.ofString "MillError.__init__", params := fA (nth (meths (nth PySem.Challenge.pw_on0233_01.main.body 2)) 0), body := FuncBody.stmts (fB (nth (meths (nth PySem.Challenge.pw_on0233_01.main.body 2)) 0)), scope := fC (nth (meths (nth PySem.Challenge.pw_on0233_01.main.body 2)) 0), globals := 3, closure := [], defaults := Value.none, kwdefaults := Value.none, pyModule := Value.str (Str.ofString "outlinemill.errors") 194, code := Value.ref 34 } }
noncomputable def so_73 (_ : Params) : Obj := { cls := Value.type "tuple", data := Data.seq #[Value.str (Str.ofString "message") 216] }
noncomputable def so_74 (P : Params) : Obj := { cls := Value.type "dict", data := Data.dict #[{ hash := PyData.keyHash P (Str.ofString "__module__"), key := Value.str (Str.ofString "__module__") 203, val := Value.str (Str.ofString "outlinemill.errors") 194 }, { hash := PyData.keyHash P (Str.ofString "__firstlineno__"), key := Value.str (Str.ofString "__firstlineno__") 207, val := Value.int 5 206 }, { hash := PyData.keyHash P (Str.ofString "__init__"), key := Value.str (Str.ofString "__init__") 215, val := Value.ref 35 }, { hash := PyData.keyHash P (Str.ofString "__static_attributes__"), key := Value.str (Str.ofString "__static_attributes__") 217, val := Value.ref 36 }, { hash := PyData.keyHash P (Str.ofString "__weakref__"), key := Value.str (Str.ofString "__weakref__") 219, val := Value.ref 39 }, { hash := PyData.keyHash P (Str.ofString "__doc__"), key := Value.str (Str.ofString "__doc__") 220, val := Value.none }] 3 }
noncomputable def so_75 (_ : Params) : Obj := { cls := Value.type "type", data := Data.cls { name := Str.ofString "MillError", bases := [Value.type "Exception"], mro := [Value.ref 38, Value.type "Exception", Value.type "BaseException", Value.type "object"], ns := 37, qualname := Str.ofString "MillError" }, slots := #[some (Value.ref 22), none, some (Value.str (Str.ofString "MillError") 196), some (Value.str (Str.ofString "MillError") 204), some (Value.builtin "Exception.__new__"), some (Value.bool true)] }
noncomputable def so_76 (_ : Params) : Obj := { cls := Value.type "getset_descriptor", data := Data.fields #[Value.str (Str.ofString "__weakref__") 218, Value.ref 38, Value.builtin "ExceptionGroup.__weakref__", Value.none] }
noncomputable def so_77 (_ : Params) : Obj := { cls := Value.type "super", data := Data.fields #[Value.ref 38, Value.ref 38, Value.ref 38] }
noncomputable def so_78 (_ : Params) : Obj := { cls := Value.type "builtin_function_or_method", data := Data.fields #[Value.builtin "object.__init_subclass__", Value.ref 38] }
noncomputable def so_79 (P : Params) : Obj := { cls := Value.type "dict", data := Data.dict #[{ hash := PyData.keyHash P (Str.ofString "__name__"), key := Value.str (Str.ofString "__name__") 165, val := Value.str (Str.ofString "outlinemill.glyf") 276 }, { hash := PyData.keyHash P (Str.ofString "__doc__"), key := Value.str (Str.ofString "__doc__") 166, val := Value.none }, { hash := PyData.keyHash P (Str.ofString "__package__"), key := Value.str (Str.ofString "__package__") 167, val := Value.none }, { hash := PyData.keyHash P (Str.ofString "__loader__"), key := Value.str (Str.ofString "__loader__") 168, val := Value.builtin "__main__.__loader__#opaque" }, { hash := PyData.keyHash P (Str.ofString "__spec__"), key := Value.str (Str.ofString "__spec__") 169, val := Value.none }, { hash := PyData.keyHash P (Str.ofString "__annotations__"), key := Value.str (Str.ofString "__annotations__") 170, val := Value.ref 6 }, { hash := PyData.keyHash P (Str.ofString "__builtins__"), key := Value.str (Str.ofString "__builtins__") 171, val := Value.ref 4 }, { hash := PyData.keyHash P (Str.ofString "__file__"), key := Value.str (Str.ofString "__file__") 173, val := Value.str (Str.ofString "/claim/cut.py") 172 }, { hash := PyData.keyHash P (Str.ofString "__cached__"), key := Value.str (Str.ofString "__cached__") 174, val := Value.none }, { hash := PyData.keyHash P (Str.ofString "_wall"), key := Value.str (Str.ofString "_wall") 193, val := Value.ref 21 }, { hash := PyData.keyHash P (Str.ofString "MillError"), key := Value.str (Str.ofString "MillError") 224, val := Value.ref 38 }, { hash := PyData.keyHash P (Str.ofString "FontFault"), key := Value.str (Str.ofString "FontFault") 240, val := Value.ref 51 }, { hash := PyData.keyHash P (Str.ofString "u16"), key := Value.str (Str.ofString "u16") 250, val := Value.ref 60 }, { hash := PyData.keyHash P (Str.ofString "s16"), key := Value.str (Str.ofString "s16") 259, val := Value.ref 67 }, { hash := PyData.keyHash P (Str.ofString "put16"), key := Value.str (Str.ofString "put16") 266, val := Value.ref 74 }, { hash := PyData.keyHash P (Str.ofString "part_of"), key := Value.str (Str.ofString "part_of") 275, val := Value.ref 81 }, { hash := PyData.keyHash P (Str.ofString "X_SHORT"), key := Value.str (Str.ofString "X_SHORT") 279, val := Value.int 2 278 }, { hash := PyData.keyHash P (Str.ofString "Y_SHORT"), key := Value.str (Str.ofString "Y_SHORT") 281, val := Value.int 4 280 }, { hash := PyData.keyHash P (Str.ofString "REPEAT"), key := Value.str (Str.ofString "REPEAT") 283, val := Value.int 8 282 }, { hash := PyData.keyHash P (Str.ofString "X_SAME"), key := Value.str (Str.ofString "X_SAME") 285, val := Value.int 16 284 }, { hash := PyData.keyHash P (Str.ofString "Y_SAME"), key := Value.str (Str.ofString "Y_SAME") 287, val := Value.int 32 286 }] 21 }
noncomputable def so_80 (_ : Params) : Obj := { cls := Value.none, data := Data.fields #[Value.int 1 0, Value.int 0 0, Value.ref 20, Value.int 5 0, Value.int 0 0, Value.ref 27, Value.int 9 0, Value.int 0 0, Value.ref 47, Value.int 12 0, Value.int 0 0, Value.ref 59, Value.int 16 0, Value.int 0 0, Value.ref 66, Value.int 19 0, Value.int 0 0, Value.ref 73, Value.int 21 0, Value.int 0 0, Value.ref 80] }
noncomputable def so_81 (_ : Params) : Obj := { cls := Value.type "type", data := Data.cls { name := Str.ofString "MillError", bases := [Value.type "Exception"], mro := [Value.ref 38, Value.type "Exception", Value.type "BaseException", Value.type "object"], ns := 37, qualname := Str.ofString "MillError", subclasses := [Value.ref 51] }, slots := #[some (Value.ref 22), none, some (Value.str (Str.ofString "MillError") 196), some (Value.str (Str.ofString "MillError") 204), some (Value.builtin "Exception.__new__"), some (Value.bool true)] }
noncomputable def so_82 (_ : Params) : Obj := { cls := Value.type "tuple", data := Data.seq #[Value.ref 38] }
noncomputable def so_83 (_ : Params) : Obj := { cls := Value.type "builtin_function_or_method", data := Data.fields #[Value.builtin "type.__prepare__", Value.type "type"] }
noncomputable def so_84 (P : Params) : Obj := { cls := Value.type "dict", data := Data.dict #[{ hash := PyData.keyHash P (Str.ofString "__module__"), key := Value.str (Str.ofString "__module__") 232, val := Value.str (Str.ofString "outlinemill.errors") 194 }, { hash := PyData.keyHash P (Str.ofString "__qualname__"), key := Value.str (Str.ofString "__qualname__") 234, val := Value.str (Str.ofString "FontFault") 233 }, { hash := PyData.keyHash P (Str.ofString "__firstlineno__"), key := Value.str (Str.ofString "__firstlineno__") 236, val := Value.int 9 235 }, { hash := PyData.keyHash P (Str.ofString "__static_attributes__"), key := Value.str (Str.ofString "__static_attributes__") 237, val := Value.ref 49 }] 4 }
noncomputable def so_85 (_ : Params) : Obj := { cls := Value.type "tuple", data := Data.seq #[] }
noncomputable def so_86 (_ : Params) : Obj := { cls := Value.none, data := Data.fields #[] }
noncomputable def so_87 (_ : Params) : Obj := { cls := Value.type "code", data := Data.fields #[Value.str (Str.ofString "FontFault") 227, Value.str (Str.ofString "FontFault") 228, Value.str (Str.ofString "/claim/cut.py") 229, Value.int 9 0, Value.int 0 0, Value.int 0 0, Value.int 0 0, Value.int 0 0, Value.ref 45, Value.bool false, Value.int 181 0, Value.ref 46, Value.none, Value.none, Value.none, Value.none, Value.int 230 0, Value.int 9 0, Value.str (Str.ofString "/claim/cut.py") 231] }
noncomputable def so_88 (_ : Params) : Obj := { cls := Value.type "frame", slots := #[some (Value.ref 47), some (Value.ref 3), some (Value.ref 44), none, some (Value.str (Str.ofString "outlinemill.errors") 194), none, some (Value.ref 0)] }
noncomputable def so_89 (_ : Params) : Obj := { cls := Value.type "tuple", data := Data.seq #[] }
noncomputable def so_90 (P : Params) : Obj := { cls := Value.type "dict", data := Data.dict #[{ hash := PyData.keyHash P (Str.ofString "__module__"), key := Value.str (Str.ofString "__module__") 232, val := Value.str (Str.ofString "outlinemill.errors") 194 }, { hash := PyData.keyHash P (Str.ofString "__firstlineno__"), key := Value.str (Str.ofString "__firstlineno__") 236, val := Value.int 9 235 }, { hash := PyData.keyHash P (Str.ofString "__static_attributes__"), key := Value.str (Str.ofString "__static_attributes__") 237, val := Value.ref 49 }, { hash := PyData.keyHash P (Str.ofString "__doc__"), key := Value.str (Str.ofString "__doc__") 238, val := Value.none }] 2 }
noncomputable def so_91 (_ : Params) : Obj := { cls := Value.type "type", data := Data.cls { name := Str.ofString "FontFault", bases := [Value.ref 38], mro := [Value.ref 51, Value.ref 38, Value.type "Exception", Value.type "BaseException", Value.type "object"], ns := 50, qualname := Str.ofString "FontFault" }, slots := #[some (Value.ref 42), none, some (Value.str (Str.ofString "FontFault") 225), some (Value.str (Str.ofString "FontFault") 233), some (Value.builtin "Exception.__new__"), some (Value.bool true)] }
noncomputable def so_92 (_ : Params) : Obj := { cls := Value.type "super", data := Data.fields #[Value.ref 51, Value.ref 51, Value.ref 51] }
noncomputable def so_93 (_ : Params) : Obj := { cls := Value.type "builtin_function_or_method", data := Data.fields #[Value.builtin "object.__init_subclass__", Value.ref 51] }
noncomputable def so_94 (_ : Params) : Obj := { cls := Value.type "tuple", data := Data.seq #[] }
noncomputable def so_95 (_ : Params) : Obj := { cls := Value.none, data := Data.fields #[] }
noncomputable def so_96 (_ : Params) : Obj := { cls := Value.type "tuple", data := Data.seq #[Value.str (Str.ofString "octets") 246, Value.str (Str.ofString "at") 247] }
noncomputable def so_97 (_ : Params) : Obj := { cls := Value.type "tuple", data := Data.seq #[] }
noncomputable def so_98 (_ : Params) : Obj := { cls := Value.none, data := Data.func { name := Str.ofString "u16", qualname := Str.ofString "u16", params := fA (nth PySem.Challenge.pw_on0233_01.main.body 5), body := FuncBody.stmts (fB (nth PySem.Challenge.pw_on0233_01.main.body 5)), scope := fC (nth PySem.Challenge.pw_on0233_01.main.body 5), globals := 0, closure := [], defaults := Value.none, kwdefaults := Value.none } }
noncomputable def so_99 (_ : Params) : Obj := { cls := Value.type "code", data := Data.fields #[Value.str (Str.ofString "u16") 243, Value.str (Str.ofString "u16") 244, Value.str (Str.ofString "/claim/cut.py") 245, Value.int 12 0, Value.int 2 0, Value.int 0 0, Value.int 0 0, Value.int 3 0, Value.ref 54, Value.bool true, Value.int 181 0, Value.ref 55, Value.none, Value.ref 56, Value.ref 57, Value.ref 58, Value.int 248 0, Value.int 12 0, Value.str (Str.ofString "/claim/cut.py") 249] }
noncomputable def so_100 (_ : Params) : Obj := { cls := Value.type "function", data := Data.func { name := Str.ofString "u16", qualname := Str.ofString "u16", params := fA (nth PySem.Challenge.pw_on0233_01.main.body 5), body := FuncBody.stmts (fB (nth PySem.Challenge.pw_on0233_01.main.body 5)), scope := fC (nth PySem.Challenge.pw_on0233_01.main.body 5), globals := 3, closure := [], defaults := Value.none, kwdefaults := Value.none, pyModule := Value.str (Str.ofString "outlinemill.sfnt") 241, code := Value.ref 59 } }
noncomputable def so_101 (_ : Params) : Obj := { cls := Value.type "tuple", data := Data.seq #[] }
noncomputable def so_102 (_ : Params) : Obj := { cls := Value.none, data := Data.fields #[] }
noncomputable def so_103 (_ : Params) : Obj := { cls := Value.type "tuple", data := Data.seq #[Value.str (Str.ofString "octets") 254, Value.str (Str.ofString "at") 255, Value.str (Str.ofString "found") 256] }
noncomputable def so_104 (_ : Params) : Obj := { cls := Value.type "tuple", data := Data.seq #[] }
noncomputable def so_105 (_ : Params) : Obj := { cls := Value.none, data := Data.func { name := Str.ofString "s16", qualname := Str.ofString "s16", params := fA (nth PySem.Challenge.pw_on0233_01.main.body 6), body := FuncBody.stmts (fB (nth PySem.Challenge.pw_on0233_01.main.body 6)), scope := fC (nth PySem.Challenge.pw_on0233_01.main.body 6), globals := 0, closure := [], defaults := Value.none, kwdefaults := Value.none } }
noncomputable def so_106 (_ : Params) : Obj := { cls := Value.type "code", data := Data.fields #[Value.str (Str.ofString "s16") 251, Value.str (Str.ofString "s16") 252, Value.str (Str.ofString "/claim/cut.py") 253, Value.int 16 0, Value.int 2 0, Value.int 0 0, Value.int 0 0, Value.int 3 0, Value.ref 61, Value.bool true, Value.int 181 0, Value.ref 62, Value.none, Value.ref 63, Value.ref 64, Value.ref 65, Value.int 257 0, Value.int 16 0, Value.str (Str.ofString "/claim/cut.py") 258] }
noncomputable def so_107 (_ : Params) : Obj := { cls := Value.type "function", data := Data.func { name := Str.ofString "s16", qualname := Str.ofString "s16", params := fA (nth PySem.Challenge.pw_on0233_01.main.body 6), body := FuncBody.stmts (fB (nth PySem.Challenge.pw_on0233_01.main.body 6)), scope := fC (nth PySem.Challenge.pw_on0233_01.main.body 6), globals := 3, closure := [], defaults := Value.none, kwdefaults := Value.none, pyModule := Value.str (Str.ofString "outlinemill.sfnt") 241, code := Value.ref 66 } }
noncomputable def so_108 (_ : Params) : Obj := { cls := Value.type "tuple", data := Data.seq #[] }
noncomputable def so_109 (_ : Params) : Obj := { cls := Value.none, data := Data.fields #[] }
noncomputable def so_110 (_ : Params) : Obj := { cls := Value.type "tuple", data := Data.seq #[Value.str (Str.ofString "number") 263] }
noncomputable def so_111 (_ : Params) : Obj := { cls := Value.type "tuple", data := Data.seq #[] }
noncomputable def so_112 (_ : Params) : Obj := { cls := Value.none, data := Data.func { name := Str.ofString "put16", qualname := Str.ofString "put16", params := fA (nth PySem.Challenge.pw_on0233_01.main.body 7), body := FuncBody.stmts (fB (nth PySem.Challenge.pw_on0233_01.main.body 7)), scope := fC (nth PySem.Challenge.pw_on0233_01.main.body 7), globals := 0, closure := [], defaults := Value.none, kwdefaults := Value.none } }
noncomputable def so_113 (_ : Params) : Obj := { cls := Value.type "code", data := Data.fields #[Value.str (Str.ofString "put16") 260, Value.str (Str.ofString "put16") 261, Value.str (Str.ofString "/claim/cut.py") 262, Value.int 19 0, Value.int 1 0, Value.int 0 0, Value.int 0 0, Value.int 3 0, Value.ref 68, Value.bool true, Value.int 181 0, Value.ref 69, Value.none, Value.ref 70, Value.ref 71, Value.ref 72, Value.int 264 0, Value.int 19 0, Value.str (Str.ofString "/claim/cut.py") 265] }
noncomputable def so_114 (_ : Params) : Obj := { cls := Value.type "function", data := Data.func { name := Str.ofString "put16", qualname := Str.ofString "put16", params := fA (nth PySem.Challenge.pw_on0233_01.main.body 7), body := FuncBody.stmts (fB (nth PySem.Challenge.pw_on0233_01.main.body 7)), scope := fC (nth PySem.Challenge.pw_on0233_01.main.body 7), globals := 3, closure := [], defaults := Value.none, kwdefaults := Value.none, pyModule := Value.str (Str.ofString "outlinemill.sfnt") 241, code := Value.ref 73 } }
noncomputable def so_115 (_ : Params) : Obj := { cls := Value.type "tuple", data := Data.seq #[] }
noncomputable def so_116 (_ : Params) : Obj := { cls := Value.none, data := Data.fields #[] }
noncomputable def so_117 (_ : Params) : Obj := { cls := Value.type "tuple", data := Data.seq #[Value.str (Str.ofString "octets") 270, Value.str (Str.ofString "at") 271, Value.str (Str.ofString "size") 272] }
noncomputable def so_118 (_ : Params) : Obj := { cls := Value.type "tuple", data := Data.seq #[] }
noncomputable def so_119 (_ : Params) : Obj := { cls := Value.none, data := Data.func { name := Str.ofString "part_of", qualname := Str.ofString "part_of", params := fA (nth PySem.Challenge.pw_on0233_01.main.body 8), body := FuncBody.stmts (fB (nth PySem.Challenge.pw_on0233_01.main.body 8)), scope := fC (nth PySem.Challenge.pw_on0233_01.main.body 8), globals := 0, closure := [], defaults := Value.none, kwdefaults := Value.none } }
noncomputable def so_120 (_ : Params) : Obj := { cls := Value.type "code", data := Data.fields #[Value.str (Str.ofString "part_of") 267, Value.str (Str.ofString "part_of") 268, Value.str (Str.ofString "/claim/cut.py") 269, Value.int 21 0, Value.int 3 0, Value.int 0 0, Value.int 0 0, Value.int 3 0, Value.ref 75, Value.bool true, Value.int 181 0, Value.ref 76, Value.none, Value.ref 77, Value.ref 78, Value.ref 79, Value.int 273 0, Value.int 21 0, Value.str (Str.ofString "/claim/cut.py") 274] }
noncomputable def so_121 (_ : Params) : Obj := { cls := Value.type "function", data := Data.func { name := Str.ofString "part_of", qualname := Str.ofString "part_of", params := fA (nth PySem.Challenge.pw_on0233_01.main.body 8), body := FuncBody.stmts (fB (nth PySem.Challenge.pw_on0233_01.main.body 8)), scope := fC (nth PySem.Challenge.pw_on0233_01.main.body 8), globals := 3, closure := [], defaults := Value.none, kwdefaults := Value.none, pyModule := Value.str (Str.ofString "outlinemill.sfnt") 241, code := Value.ref 80 } }
noncomputable def so_122 (P : Params) : Obj := { cls := Value.type "dict", data := Data.dict #[{ hash := PyData.keyHash P (Str.ofString "__name__"), key := Value.str (Str.ofString "__name__") 165, val := Value.str (Str.ofString "outlinemill.glyf") 276 }, { hash := PyData.keyHash P (Str.ofString "__doc__"), key := Value.str (Str.ofString "__doc__") 166, val := Value.none }, { hash := PyData.keyHash P (Str.ofString "__package__"), key := Value.str (Str.ofString "__package__") 167, val := Value.none }, { hash := PyData.keyHash P (Str.ofString "__loader__"), key := Value.str (Str.ofString "__loader__") 168, val := Value.builtin "__main__.__loader__#opaque" }, { hash := PyData.keyHash P (Str.ofString "__spec__"), key := Value.str (Str.ofString "__spec__") 169, val := Value.none }, { hash := PyData.keyHash P (Str.ofString "__annotations__"), key := Value.str (Str.ofString "__annotations__") 170, val := Value.ref 6 }, { hash := PyData.keyHash P (Str.ofString "__builtins__"), key := Value.str (Str.ofString "__builtins__") 171, val := Value.ref 4 }, { hash := PyData.keyHash P (Str.ofString "__file__"), key := Value.str (Str.ofString "__file__") 173, val := Value.str (Str.ofString "/claim/cut.py") 172 }, { hash := PyData.keyHash P (Str.ofString "__cached__"), key := Value.str (Str.ofString "__cached__") 174, val := Value.none }, { hash := PyData.keyHash P (Str.ofString "_wall"), key := Value.str (Str.ofString "_wall") 193, val := Value.ref 21 }, { hash := PyData.keyHash P (Str.ofString "MillError"), key := Value.str (Str.ofString "MillError") 224, val := Value.ref 38 }, { hash := PyData.keyHash P (Str.ofString "FontFault"), key := Value.str (Str.ofString "FontFault") 240, val := Value.ref 51 }, { hash := PyData.keyHash P (Str.ofString "u16"), key := Value.str (Str.ofString "u16") 250, val := Value.ref 60 }, { hash := PyData.keyHash P (Str.ofString "s16"), key := Value.str (Str.ofString "s16") 259, val := Value.ref 67 }, { hash := PyData.keyHash P (Str.ofString "put16"), key := Value.str (Str.ofString "put16") 266, val := Value.ref 74 }, { hash := PyData.keyHash P (Str.ofString "part_of"), key := Value.str (Str.ofString "part_of") 275, val := Value.ref 81 }, { hash := PyData.keyHash P (Str.ofString "X_SHORT"), key := Value.str (Str.ofString "X_SHORT") 279, val := Value.int 2 278 }, { hash := PyData.keyHash P (Str.ofString "Y_SHORT"), key := Value.str (Str.ofString "Y_SHORT") 281, val := Value.int 4 280 }, { hash := PyData.keyHash P (Str.ofString "REPEAT"), key := Value.str (Str.ofString "REPEAT") 283, val := Value.int 8 282 }, { hash := PyData.keyHash P (Str.ofString "X_SAME"), key := Value.str (Str.ofString "X_SAME") 285, val := Value.int 16 284 }, { hash := PyData.keyHash P (Str.ofString "Y_SAME"), key := Value.str (Str.ofString "Y_SAME") 287, val := Value.int 32 286 }, { hash := PyData.keyHash P (Str.ofString "Octets"), key := Value.str (Str.ofString "Octets") 346, val := Value.ref 126 }, { hash := PyData.keyHash P (Str.ofString "read_flags"), key := Value.str (Str.ofString "read_flags") 357, val := Value.ref 137 }] 23 }
noncomputable def so_123 (_ : Params) : Obj := { cls := Value.none, data := Data.fields #[Value.int 1 0, Value.int 0 0, Value.ref 20, Value.int 5 0, Value.int 0 0, Value.ref 27, Value.int 9 0, Value.int 0 0, Value.ref 47, Value.int 12 0, Value.int 0 0, Value.ref 59, Value.int 16 0, Value.int 0 0, Value.ref 66, Value.int 19 0, Value.int 0 0, Value.ref 73, Value.int 21 0, Value.int 0 0, Value.ref 80, Value.int 31 0, Value.int 0 0, Value.ref 87, Value.int 51 0, Value.int 0 0, Value.ref 136] }
noncomputable def so_124 (_ : Params) : Obj := { cls := Value.type "tuple", data := Data.seq #[] }
noncomputable def so_125 (_ : Params) : Obj := { cls := Value.type "builtin_function_or_method", data := Data.fields #[Value.builtin "type.__prepare__", Value.type "type"] }
noncomputable def so_126 (P : Params) : Obj := { cls := Value.type "dict", data := Data.dict #[{ hash := PyData.keyHash P (Str.ofString "__module__"), key := Value.str (Str.ofString "__module__") 295, val := Value.str (Str.ofString "outlinemill.glyf") 276 }, { hash := PyData.keyHash P (Str.ofString "__qualname__"), key := Value.str (Str.ofString "__qualname__") 297, val := Value.str (Str.ofString "Octets") 296 }, { hash := PyData.keyHash P (Str.ofString "__firstlineno__"), key := Value.str (Str.ofString "__firstlineno__") 299, val := Value.int 31 298 }, { hash := PyData.keyHash P (Str.ofString "__init__"), key := Value.str (Str.ofString "__init__") 307, val := Value.ref 95 }, { hash := PyData.keyHash P (Str.ofString "byte"), key := Value.str (Str.ofString "byte") 314, val := Value.ref 102 }, { hash := PyData.keyHash P (Str.ofString "word"), key := Value.str (Str.ofString "word") 321, val := Value.ref 109 }, { hash := PyData.keyHash P (Str.ofString "signed"), key := Value.str (Str.ofString "signed") 328, val := Value.ref 116 }, { hash := PyData.keyHash P (Str.ofString "part"), key := Value.str (Str.ofString "part") 336, val := Value.ref 123 }, { hash := PyData.keyHash P (Str.ofString "__static_attributes__"), key := Value.str (Str.ofString "__static_attributes__") 339, val := Value.ref 124 }] 9 }
noncomputable def so_127 (_ : Params) : Obj := { cls := Value.type "tuple", data := Data.seq #[] }
noncomputable def so_128 (_ : Params) : Obj := { cls := Value.none, data := Data.fields #[Value.int 33 0, Value.int 4 0, Value.ref 94, Value.int 37 0, Value.int 4 0, Value.ref 101, Value.int 41 0, Value.int 4 0, Value.ref 108, Value.int 45 0, Value.int 4 0, Value.ref 115, Value.int 49 0, Value.int 4 0, Value.ref 122] }
noncomputable def so_129 (_ : Params) : Obj := { cls := Value.type "code", data := Data.fields #[Value.str (Str.ofString "Octets") 290, Value.str (Str.ofString "Octets") 291, Value.str (Str.ofString "/claim/cut.py") 292, Value.int 31 0, Value.int 0 0, Value.int 0 0, Value.int 0 0, Value.int 0 0, Value.ref 85, Value.bool false, Value.int 181 0, Value.ref 86, Value.none, Value.none, Value.none, Value.none, Value.int 293 0, Value.int 31 0, Value.str (Str.ofString "/claim/cut.py") 294] }
noncomputable def so_130 (_ : Params) : Obj := { cls := Value.type "frame", slots := #[some (Value.ref 87), some (Value.ref 3), some (Value.ref 84), none, some (Value.str (Str.ofString "outlinemill.glyf") 276), none, some (Value.ref 0)] }
noncomputable def so_131 (_ : Params) : Obj := { cls := Value.type "tuple", data := Data.seq #[] }
noncomputable def so_132 (_ : Params) : Obj := { cls := Value.none, data := Data.fields #[] }
noncomputable def so_133 (_ : Params) : Obj := { cls := Value.type "tuple", data := Data.seq #[Value.str (Str.ofString "self") 303, Value.str (Str.ofString "octets") 304] }
noncomputable def so_134 (_ : Params) : Obj := { cls := Value.type "tuple", data := Data.seq #[] }
noncomputable def so_135 (_ : Params) : Obj := { cls := Value.none, data := Data.func { name := Str.ofString "__init__", qualname := Str.ofString "Octets.__init__", params := fA (nth (meths (nth PySem.Challenge.pw_on0233_01.main.body 15)) 0), body := FuncBody.stmts (fB (nth (meths (nth PySem.Challenge.pw_on0233_01.main.body 15)) 0)), scope := fC (nth (meths (nth PySem.Challenge.pw_on0233_01.main.body 15)) 0), globals := 0, closure := [], defaults := Value.none, kwdefaults := Value.none } }
noncomputable def so_136 (_ : Params) : Obj := { cls := Value.type "code", data := Data.fields #[Value.str (Str.ofString "__init__") 300, Value.str (Str.ofString "Octets.__init__") 301, Value.str (Str.ofString "/claim/cut.py") 302, Value.int 33 0, Value.int 2 0, Value.int 0 0, Value.int 0 0, Value.int 3 0, Value.ref 89, Value.bool true, Value.int 181 0, Value.ref 90, Value.none, Value.ref 91, Value.ref 92, Value.ref 93, Value.int 305 0, Value.int 33 0, Value.str (Str.ofString "/claim/cut.py") 306] }
noncomputable def so_137 (_ : Params) : Obj := { cls := Value.type "function", data := Data.func { name := Str.ofString "__init__", qualname := Str.ofString "Octets.__init__", params := fA (nth (meths (nth PySem.Challenge.pw_on0233_01.main.body 15)) 0), body := FuncBody.stmts (fB (nth (meths (nth PySem.Challenge.pw_on0233_01.main.body 15)) 0)), scope := fC (nth (meths (nth PySem.Challenge.pw_on0233_01.main.body 15)) 0), globals := 3, closure := [], defaults := Value.none, kwdefaults := Value.none, pyModule := Value.str (Str.ofString "outlinemill.glyf") 276, code := Value.ref 94 } }
noncomputable def so_138 (_ : Params) : Obj := { cls := Value.type "tuple", data := Data.seq #[] }
noncomputable def so_139 (_ : Params) : Obj := { cls := Value.none, data := Data.fields #[] }
noncomputable def so_140 (_ : Params) : Obj := { cls := Value.type "tuple", data := Data.seq #[Value.str (Str.ofString "self") 311] }
noncomputable def so_141 (_ : Params) : Obj := { cls := Value.type "tuple", data := Data.seq #[] }
noncomputable def so_142 (_ : Params) : Obj := { cls := Value.none, data := Data.func { name := Str.ofString "byte", qualname := Str.ofString "Octets.byte", params := fA (nth (meths (nth PySem.Challenge.pw_on0233_01.main.body 15)) 1), body := FuncBody.stmts (fB (nth (meths (nth PySem.Challenge.pw_on0233_01.main.body 15)) 1)), scope := fC (nth (meths (nth PySem.Challenge.pw_on0233_01.main.body 15)) 1), globals := 0, closure := [], defaults := Value.none, kwdefaults := Value.none } }
noncomputable def so_143 (_ : Params) : Obj := { cls := Value.type "code", data := Data.fields #[Value.str (Str.ofString "byte") 308, Value.str (Str.ofString "Octets.byte") 309, Value.str (Str.ofString "/claim/cut.py") 310, Value.int 37 0, Value.int 1 0, Value.int 0 0, Value.int 0 0, Value.int 3 0, Value.ref 96, Value.bool true, Value.int 181 0, Value.ref 97, Value.none, Value.ref 98, Value.ref 99, Value.ref 100, Value.int 312 0, Value.int 37 0, Value.str (Str.ofString "/claim/cut.py") 313] }
noncomputable def so_144 (_ : Params) : Obj := { cls := Value.type "function", data := Data.func { name := Str.ofString "byte", qualname := Str.ofString "Octets.byte", params := fA (nth (meths (nth PySem.Challenge.pw_on0233_01.main.body 15)) 1), body := FuncBody.stmts (fB (nth (meths (nth PySem.Challenge.pw_on0233_01.main.body 15)) 1)), scope := fC (nth (meths (nth PySem.Challenge.pw_on0233_01.main.body 15)) 1), globals := 3, closure := [], defaults := Value.none, kwdefaults := Value.none, pyModule := Value.str (Str.ofString "outlinemill.glyf") 276, code := Value.ref 101 } }
noncomputable def so_145 (_ : Params) : Obj := { cls := Value.type "tuple", data := Data.seq #[] }
noncomputable def so_146 (_ : Params) : Obj := { cls := Value.none, data := Data.fields #[] }
noncomputable def so_147 (_ : Params) : Obj := { cls := Value.type "tuple", data := Data.seq #[Value.str (Str.ofString "self") 318] }
noncomputable def so_148 (_ : Params) : Obj := { cls := Value.type "tuple", data := Data.seq #[] }
noncomputable def so_149 (_ : Params) : Obj := { cls := Value.none, data := Data.func { name := Str.ofString "word", qualname := Str.ofString "Octets.word", params := fA (nth (meths (nth PySem.Challenge.pw_on0233_01.main.body 15)) 2), body := FuncBody.stmts (fB (nth (meths (nth PySem.Challenge.pw_on0233_01.main.body 15)) 2)), scope := fC (nth (meths (nth PySem.Challenge.pw_on0233_01.main.body 15)) 2), globals := 0, closure := [], defaults := Value.none, kwdefaults := Value.none } }
noncomputable def so_150 (_ : Params) : Obj := { cls := Value.type "code", data := Data.fields #[Value.str (Str.ofString "word") 315, Value.str (Str.ofString "Octets.word") 316, Value.str (Str.ofString "/claim/cut.py") 317, Value.int 41 0, Value.int 1 0, Value.int 0 0, Value.int 0 0, Value.int 3 0, Value.ref 103, Value.bool true, Value.int 181 0, Value.ref 104, Value.none, Value.ref 105, Value.ref 106, Value.ref 107, Value.int 319 0, Value.int 41 0, Value.str (Str.ofString "/claim/cut.py") 320] }
noncomputable def so_151 (_ : Params) : Obj := { cls := Value.type "function", data := Data.func { name := Str.ofString "word", qualname := Str.ofString "Octets.word", params := fA (nth (meths (nth PySem.Challenge.pw_on0233_01.main.body 15)) 2), body := FuncBody.stmts (fB (nth (meths (nth PySem.Challenge.pw_on0233_01.main.body 15)) 2)), scope := fC (nth (meths (nth PySem.Challenge.pw_on0233_01.main.body 15)) 2), globals := 3, closure := [], defaults := Value.none, kwdefaults := Value.none, pyModule := Value.str (Str.ofString "outlinemill.glyf") 276, code := Value.ref 108 } }
noncomputable def so_152 (_ : Params) : Obj := { cls := Value.type "tuple", data := Data.seq #[] }
noncomputable def so_153 (_ : Params) : Obj := { cls := Value.none, data := Data.fields #[] }
noncomputable def so_154 (_ : Params) : Obj := { cls := Value.type "tuple", data := Data.seq #[Value.str (Str.ofString "self") 325] }
noncomputable def so_155 (_ : Params) : Obj := { cls := Value.type "tuple", data := Data.seq #[] }
noncomputable def so_156 (_ : Params) : Obj := { cls := Value.none, data := Data.func { name := Str.ofString "signed", qualname := Str.ofString "Octets.signed", params := fA (nth (meths (nth PySem.Challenge.pw_on0233_01.main.body 15)) 3), body := FuncBody.stmts (fB (nth (meths (nth PySem.Challenge.pw_on0233_01.main.body 15)) 3)), scope := fC (nth (meths (nth PySem.Challenge.pw_on0233_01.main.body 15)) 3), globals := 0, closure := [], defaults := Value.none, kwdefaults := Value.none } }
noncomputable def so_157 (_ : Params) : Obj := { cls := Value.type "code", data := Data.fields #[Value.str (Str.ofString "signed") 322, Value.str (Str.ofString "Octets.signed") 323, Value.str (Str.ofString "/claim/cut.py") 324, Value.int 45 0, Value.int 1 0, Value.int 0 0, Value.int 0 0, Value.int 3 0, Value.ref 110, Value.bool true, Value.int 181 0, Value.ref 111, Value.none, Value.ref 112, Value.ref 113, Value.ref 114, Value.int 326 0, Value.int 45 0, Value.str (Str.ofString "/claim/cut.py") 327] }
noncomputable def so_158 (_ : Params) : Obj := { cls := Value.type "function", data := Data.func { name := Str.ofString "signed", qualname := Str.ofString "Octets.signed", params := fA (nth (meths (nth PySem.Challenge.pw_on0233_01.main.body 15)) 3), body := FuncBody.stmts (fB (nth (meths (nth PySem.Challenge.pw_on0233_01.main.body 15)) 3)), scope := fC (nth (meths (nth PySem.Challenge.pw_on0233_01.main.body 15)) 3), globals := 3, closure := [], defaults := Value.none, kwdefaults := Value.none, pyModule := Value.str (Str.ofString "outlinemill.glyf") 276, code := Value.ref 115 } }
noncomputable def so_159 (_ : Params) : Obj := { cls := Value.type "tuple", data := Data.seq #[] }
noncomputable def so_160 (_ : Params) : Obj := { cls := Value.none, data := Data.fields #[] }
noncomputable def so_161 (_ : Params) : Obj := { cls := Value.type "tuple", data := Data.seq #[Value.str (Str.ofString "self") 332, Value.str (Str.ofString "size") 333] }
noncomputable def so_162 (_ : Params) : Obj := { cls := Value.type "tuple", data := Data.seq #[] }
noncomputable def so_163 (_ : Params) : Obj := { cls := Value.none, data := Data.func { name := Str.ofString "part", qualname := Str.ofString "Octets.part", params := fA (nth (meths (nth PySem.Challenge.pw_on0233_01.main.body 15)) 4), body := FuncBody.stmts (fB (nth (meths (nth PySem.Challenge.pw_on0233_01.main.body 15)) 4)), scope := fC (nth (meths (nth PySem.Challenge.pw_on0233_01.main.body 15)) 4), globals := 0, closure := [], defaults := Value.none, kwdefaults := Value.none } }
noncomputable def so_164 (_ : Params) : Obj := { cls := Value.type "code", data := Data.fields #[Value.str (Str.ofString "part") 329, Value.str (Str.ofString "Octets.part") 330, Value.str (Str.ofString "/claim/cut.py") 331, Value.int 49 0, Value.int 2 0, Value.int 0 0, Value.int 0 0, Value.int 3 0, Value.ref 117, Value.bool true, Value.int 181 0, Value.ref 118, Value.none, Value.ref 119, Value.ref 120, Value.ref 121, Value.int 334 0, Value.int 49 0, Value.str (Str.ofString "/claim/cut.py") 335] }
noncomputable def so_165 (_ : Params) : Obj := { cls := Value.type "function", data := Data.func { name := Str.ofString "part", qualname := Str.ofString "Octets.part", params := fA (nth (meths (nth PySem.Challenge.pw_on0233_01.main.body 15)) 4), body := FuncBody.stmts (fB (nth (meths (nth PySem.Challenge.pw_on0233_01.main.body 15)) 4)), scope := fC (nth (meths (nth PySem.Challenge.pw_on0233_01.main.body 15)) 4), globals := 3, closure := [], defaults := Value.none, kwdefaults := Value.none, pyModule := Value.str (Str.ofString "outlinemill.glyf") 276, code := Value.ref 122 } }
noncomputable def so_166 (_ : Params) : Obj := { cls := Value.type "tuple", data := Data.seq #[Value.str (Str.ofString "at") 337, Value.str (Str.ofString "octets") 338] }
noncomputable def so_167 (P : Params) : Obj := { cls := Value.type "dict", data := Data.dict #[{ hash := PyData.keyHash P (Str.ofString "__module__"), key := Value.str (Str.ofString "__module__") 295, val := Value.str (Str.ofString "outlinemill.glyf") 276 }, { hash := PyData.keyHash P (Str.ofString "__firstlineno__"), key := Value.str (Str.ofString "__firstlineno__") 299, val := Value.int 31 298 }, { hash := PyData.keyHash P (Str.ofString "__init__"), key := Value.str (Str.ofString "__init__") 307, val := Value.ref 95 }, { hash := PyData.keyHash P (Str.ofString "byte"), key := Value.str (Str.ofString "byte") 314, val := Value.ref 102 }, { hash := PyData.keyHash P (Str.ofString "word"), key := Value.str (Str.ofString "word") 321, val := Value.ref 109 }, { hash := PyData.keyHash P (Str.ofString "signed"), key := Value.str (Str.ofString "signed") 328, val := Value.ref 116 }, { hash := PyData.keyHash P (Str.ofString "part"), key := Value.str (Str.ofString "part") 336, val := Value.ref 123 }, { hash := PyData.keyHash P (Str.ofString "__static_attributes__"), key := Value.str (Str.ofString "__static_attributes__") 339, val := Value.ref 124 }, { hash := PyData.keyHash P (Str.ofString "__dict__"), key := Value.str (Str.ofString "__dict__") 341, val := Value.ref 127 }, { hash := PyData.keyHash P (Str.ofString "__weakref__"), key := Value.str (Str.ofString "__weakref__") 343, val := Value.ref 128 }, { hash := PyData.keyHash P (Str.ofString "__doc__"), key := Value.str (Str.ofString "__doc__") 344, val := Value.none }] 4 }
noncomputable def so_168 (_ : Params) : Obj := { cls := Value.type "type", data := Data.cls { name := Str.ofString "Octets", bases := [Value.type "object"], mro := [Value.ref 126, Value.type "object"], ns := 125, qualname := Str.ofString "Octets" }, slots := #[none, none, some (Value.str (Str.ofString "Octets") 288), some (Value.str (Str.ofString "Octets") 296), some (Value.builtin "object.__new__"), some (Value.bool true)] }
noncomputable def so_169 (_ : Params) : Obj := { cls := Value.type "getset_descriptor", data := Data.fields #[Value.str (Str.ofString "__dict__") 340, Value.ref 126, Value.builtin "function.__dict__", Value.builtin "function.__dict__#set"] }
noncomputable def so_170 (_ : Params) : Obj := { cls := Value.type "getset_descriptor", data := Data.fields #[Value.str (Str.ofString "__weakref__") 342, Value.ref 126, Value.builtin "ExceptionGroup.__weakref__", Value.none] }
noncomputable def so_171 (_ : Params) : Obj := { cls := Value.type "super", data := Data.fields #[Value.ref 126, Value.ref 126, Value.ref 126] }
noncomputable def so_172 (_ : Params) : Obj := { cls := Value.type "builtin_function_or_method", data := Data.fields #[Value.builtin "object.__init_subclass__", Value.ref 126] }
noncomputable def so_173 (_ : Params) : Obj := { cls := Value.type "tuple", data := Data.seq #[] }
noncomputable def so_174 (_ : Params) : Obj := { cls := Value.none, data := Data.fields #[] }
noncomputable def so_175 (_ : Params) : Obj := { cls := Value.type "tuple", data := Data.seq #[Value.str (Str.ofString "octets") 350, Value.str (Str.ofString "count") 351, Value.str (Str.ofString "found") 352, Value.str (Str.ofString "flag") 353, Value.str (Str.ofString "many") 354] }
noncomputable def so_176 (_ : Params) : Obj := { cls := Value.type "tuple", data := Data.seq #[] }
noncomputable def so_177 (_ : Params) : Obj := { cls := Value.none, data := Data.func { name := Str.ofString "read_flags", qualname := Str.ofString "read_flags", params := fA (nth PySem.Challenge.pw_on0233_01.main.body 16), body := FuncBody.stmts (fB (nth PySem.Challenge.pw_on0233_01.main.body 16)), scope := fC (nth PySem.Challenge.pw_on0233_01.main.body 16), globals := 0, closure := [], defaults := Value.none, kwdefaults := Value.none } }
noncomputable def so_178 (_ : Params) : Obj := { cls := Value.type "code", data := Data.fields #[Value.str (Str.ofString "read_flags") 347, Value.str (Str.ofString "read_flags") 348, Value.str (Str.ofString "/claim/cut.py") 349, Value.int 51 0, Value.int 2 0, Value.int 0 0, Value.int 0 0, Value.int 3 0, Value.ref 131, Value.bool true, Value.int 181 0, Value.ref 132, Value.none, Value.ref 133, Value.ref 134, Value.ref 135, Value.int 355 0, Value.int 51 0, Value.str (Str.ofString "/claim/cut.py") 356] }
noncomputable def so_179 (_ : Params) : Obj := { cls := Value.type "function", data := Data.func { name := Str.ofString "read_flags", qualname := Str.ofString "read_flags", params := fA (nth PySem.Challenge.pw_on0233_01.main.body 16), body := FuncBody.stmts (fB (nth PySem.Challenge.pw_on0233_01.main.body 16)), scope := fC (nth PySem.Challenge.pw_on0233_01.main.body 16), globals := 3, closure := [], defaults := Value.none, kwdefaults := Value.none, pyModule := Value.str (Str.ofString "outlinemill.glyf") 276, code := Value.ref 136 } }
noncomputable def so_180 (P : Params) : Obj := { cls := Value.type "dict", data := Data.dict #[{ hash := PyData.keyHash P (Str.ofString "__name__"), key := Value.str (Str.ofString "__name__") 165, val := Value.str (Str.ofString "law_on0233_01") 406 }, { hash := PyData.keyHash P (Str.ofString "__doc__"), key := Value.str (Str.ofString "__doc__") 166, val := Value.none }, { hash := PyData.keyHash P (Str.ofString "__package__"), key := Value.str (Str.ofString "__package__") 167, val := Value.none }, { hash := PyData.keyHash P (Str.ofString "__loader__"), key := Value.str (Str.ofString "__loader__") 168, val := Value.builtin "__main__.__loader__#opaque" }, { hash := PyData.keyHash P (Str.ofString "__spec__"), key := Value.str (Str.ofString "__spec__") 169, val := Value.none }, { hash := PyData.keyHash P (Str.ofString "__annotations__"), key := Value.str (Str.ofString "__annotations__") 170, val := Value.ref 6 }, { hash := PyData.keyHash P (Str.ofString "__builtins__"), key := Value.str (Str.ofString "__builtins__") 171, val := Value.ref 4 }, { hash := PyData.keyHash P (Str.ofString "__file__"), key := Value.str (Str.ofString "__file__") 173, val := Value.str (Str.ofString "/claim/cut.py") 172 }, { hash := PyData.keyHash P (Str.ofString "__cached__"), key := Value.str (Str.ofString "__cached__") 174, val := Value.none }, { hash := PyData.keyHash P (Str.ofString "_wall"), key := Value.str (Str.ofString "_wall") 193, val := Value.ref 21 }, { hash := PyData.keyHash P (Str.ofString "MillError"), key := Value.str (Str.ofString "MillError") 224, val := Value.ref 38 }, { hash := PyData.keyHash P (Str.ofString "FontFault"), key := Value.str (Str.ofString "FontFault") 240, val := Value.ref 51 }, { hash := PyData.keyHash P (Str.ofString "u16"), key := Value.str (Str.ofString "u16") 250, val := Value.ref 60 }, { hash := PyData.keyHash P (Str.ofString "s16"), key := Value.str (Str.ofString "s16") 259, val := Value.ref 67 }, { hash := PyData.keyHash P (Str.ofString "put16"), key := Value.str (Str.ofString "put16") 266, val := Value.ref 74 }, { hash := PyData.keyHash P (Str.ofString "part_of"), key := Value.str (Str.ofString "part_of") 275, val := Value.ref 81 }, { hash := PyData.keyHash P (Str.ofString "X_SHORT"), key := Value.str (Str.ofString "X_SHORT") 279, val := Value.int 2 278 }, { hash := PyData.keyHash P (Str.ofString "Y_SHORT"), key := Value.str (Str.ofString "Y_SHORT") 281, val := Value.int 4 280 }, { hash := PyData.keyHash P (Str.ofString "REPEAT"), key := Value.str (Str.ofString "REPEAT") 283, val := Value.int 8 282 }, { hash := PyData.keyHash P (Str.ofString "X_SAME"), key := Value.str (Str.ofString "X_SAME") 285, val := Value.int 16 284 }, { hash := PyData.keyHash P (Str.ofString "Y_SAME"), key := Value.str (Str.ofString "Y_SAME") 287, val := Value.int 32 286 }, { hash := PyData.keyHash P (Str.ofString "Octets"), key := Value.str (Str.ofString "Octets") 346, val := Value.ref 126 }, { hash := PyData.keyHash P (Str.ofString "read_flags"), key := Value.str (Str.ofString "read_flags") 357, val := Value.ref 137 }, { hash := PyData.keyHash P (Str.ofString "read_deltas"), key := Value.str (Str.ofString "read_deltas") 371, val := Value.ref 144 }, { hash := PyData.keyHash P (Str.ofString "read_ends"), key := Value.str (Str.ofString "read_ends") 382, val := Value.ref 151 }, { hash := PyData.keyHash P (Str.ofString "MOST_REPEATS"), key := Value.str (Str.ofString "MOST_REPEATS") 386, val := Value.int 255 385 }, { hash := PyData.keyHash P (Str.ofString "axis_flag"), key := Value.str (Str.ofString "axis_flag") 395, val := Value.ref 158 }, { hash := PyData.keyHash P (Str.ofString "flag_octets"), key := Value.str (Str.ofString "flag_octets") 405, val := Value.ref 165 }, { hash := PyData.keyHash P (Str.ofString "_law_pool"), key := Value.str (Str.ofString "_law_pool") 418, val := Value.ref 172 }, { hash := PyData.keyHash P (Str.ofString "_law_take"), key := Value.str (Str.ofString "_law_take") 427, val := Value.ref 179 }, { hash := PyData.keyHash P (Str.ofString "_law_one"), key := Value.str (Str.ofString "_law_one") 435, val := Value.ref 186 }, { hash := PyData.keyHash P (Str.ofString "_law_flags"), key := Value.str (Str.ofString "_law_flags") 445, val := Value.ref 193 }, { hash := PyData.keyHash P (Str.ofString "_law_written"), key := Value.str (Str.ofString "_law_written") 457, val := Value.ref 200 }, { hash := PyData.keyHash P (Str.ofString "_law_refused"), key := Value.str (Str.ofString "_law_refused") 464, val := Value.ref 207 }, { hash := PyData.keyHash P (Str.ofString "_law_flags_right"), key := Value.str (Str.ofString "_law_flags_right") 477, val := Value.ref 214 }] 35 }
noncomputable def so_181 (_ : Params) : Obj := { cls := Value.none, data := Data.fields #[Value.int 1 0, Value.int 0 0, Value.ref 20, Value.int 5 0, Value.int 0 0, Value.ref 27, Value.int 9 0, Value.int 0 0, Value.ref 47, Value.int 12 0, Value.int 0 0, Value.ref 59, Value.int 16 0, Value.int 0 0, Value.ref 66, Value.int 19 0, Value.int 0 0, Value.ref 73, Value.int 21 0, Value.int 0 0, Value.ref 80, Value.int 31 0, Value.int 0 0, Value.ref 87, Value.int 51 0, Value.int 0 0, Value.ref 136, Value.int 62 0, Value.int 0 0, Value.ref 143, Value.int 73 0, Value.int 0 0, Value.ref 150, Value.int 83 0, Value.int 0 0, Value.ref 157, Value.int 93 0, Value.int 0 0, Value.ref 164, Value.int 107 0, Value.int 0 0, Value.ref 171, Value.int 114 0, Value.int 0 0, Value.ref 178, Value.int 121 0, Value.int 0 0, Value.ref 185, Value.int 123 0, Value.int 0 0, Value.ref 192, Value.int 129 0, Value.int 0 0, Value.ref 199, Value.int 140 0, Value.int 0 0, Value.ref 206, Value.int 146 0, Value.int 0 0, Value.ref 213] }
noncomputable def so_182 (_ : Params) : Obj := { cls := Value.type "tuple", data := Data.seq #[] }
noncomputable def so_183 (_ : Params) : Obj := { cls := Value.none, data := Data.fields #[] }
noncomputable def so_184 (_ : Params) : Obj := { cls := Value.type "tuple", data := Data.seq #[Value.str (Str.ofString "octets") 361, Value.str (Str.ofString "flags") 362, Value.str (Str.ofString "short") 363, Value.str (Str.ofString "same") 364, Value.str (Str.ofString "found") 365, Value.str (Str.ofString "at") 366, Value.str (Str.ofString "flag") 367, Value.str (Str.ofString "step") 368] }
noncomputable def so_185 (_ : Params) : Obj := { cls := Value.type "tuple", data := Data.seq #[] }
noncomputable def so_186 (_ : Params) : Obj := { cls := Value.none, data := Data.func { name := Str.ofString "read_deltas", qualname := Str.ofString "read_deltas", params := fA (nth PySem.Challenge.pw_on0233_01.main.body 17), body := FuncBody.stmts (fB (nth PySem.Challenge.pw_on0233_01.main.body 17)), scope := fC (nth PySem.Challenge.pw_on0233_01.main.body 17), globals := 0, closure := [], defaults := Value.none, kwdefaults := Value.none } }
noncomputable def so_187 (_ : Params) : Obj := { cls := Value.type "code", data := Data.fields #[Value.str (Str.ofString "read_deltas") 358, Value.str (Str.ofString "read_deltas") 359, Value.str (Str.ofString "/claim/cut.py") 360, Value.int 62 0, Value.int 4 0, Value.int 0 0, Value.int 0 0, Value.int 3 0, Value.ref 138, Value.bool true, Value.int 181 0, Value.ref 139, Value.none, Value.ref 140, Value.ref 141, Value.ref 142, Value.int 369 0, Value.int 62 0, Value.str (Str.ofString "/claim/cut.py") 370] }
noncomputable def so_188 (_ : Params) : Obj := { cls := Value.type "function", data := Data.func { name := Str.ofString "read_deltas", qualname := Str.ofString "read_deltas", params := fA (nth PySem.Challenge.pw_on0233_01.main.body 17), body := FuncBody.stmts (fB (nth PySem.Challenge.pw_on0233_01.main.body 17)), scope := fC (nth PySem.Challenge.pw_on0233_01.main.body 17), globals := 3, closure := [], defaults := Value.none, kwdefaults := Value.none, pyModule := Value.str (Str.ofString "outlinemill.glyf") 276, code := Value.ref 143 } }
noncomputable def so_189 (_ : Params) : Obj := { cls := Value.type "tuple", data := Data.seq #[] }
noncomputable def so_190 (_ : Params) : Obj := { cls := Value.none, data := Data.fields #[] }
noncomputable def so_191 (_ : Params) : Obj := { cls := Value.type "tuple", data := Data.seq #[Value.str (Str.ofString "octets") 375, Value.str (Str.ofString "many") 376, Value.str (Str.ofString "found") 377, Value.str (Str.ofString "number") 378, Value.str (Str.ofString "end") 379] }
noncomputable def so_192 (_ : Params) : Obj := { cls := Value.type "tuple", data := Data.seq #[] }
noncomputable def so_193 (_ : Params) : Obj := { cls := Value.none, data := Data.func { name := Str.ofString "read_ends", qualname := Str.ofString "read_ends", params := fA (nth PySem.Challenge.pw_on0233_01.main.body 18), body := FuncBody.stmts (fB (nth PySem.Challenge.pw_on0233_01.main.body 18)), scope := fC (nth PySem.Challenge.pw_on0233_01.main.body 18), globals := 0, closure := [], defaults := Value.none, kwdefaults := Value.none } }
noncomputable def so_194 (_ : Params) : Obj := { cls := Value.type "code", data := Data.fields #[Value.str (Str.ofString "read_ends") 372, Value.str (Str.ofString "read_ends") 373, Value.str (Str.ofString "/claim/cut.py") 374, Value.int 73 0, Value.int 2 0, Value.int 0 0, Value.int 0 0, Value.int 3 0, Value.ref 145, Value.bool true, Value.int 181 0, Value.ref 146, Value.none, Value.ref 147, Value.ref 148, Value.ref 149, Value.int 380 0, Value.int 73 0, Value.str (Str.ofString "/claim/cut.py") 381] }
noncomputable def so_195 (_ : Params) : Obj := { cls := Value.type "function", data := Data.func { name := Str.ofString "read_ends", qualname := Str.ofString "read_ends", params := fA (nth PySem.Challenge.pw_on0233_01.main.body 18), body := FuncBody.stmts (fB (nth PySem.Challenge.pw_on0233_01.main.body 18)), scope := fC (nth PySem.Challenge.pw_on0233_01.main.body 18), globals := 3, closure := [], defaults := Value.none, kwdefaults := Value.none, pyModule := Value.str (Str.ofString "outlinemill.glyf") 276, code := Value.ref 150 } }
noncomputable def so_196 (_ : Params) : Obj := { cls := Value.type "tuple", data := Data.seq #[] }
noncomputable def so_197 (_ : Params) : Obj := { cls := Value.none, data := Data.fields #[] }
noncomputable def so_198 (_ : Params) : Obj := { cls := Value.type "tuple", data := Data.seq #[Value.str (Str.ofString "step") 390, Value.str (Str.ofString "short") 391, Value.str (Str.ofString "same") 392] }
noncomputable def so_199 (_ : Params) : Obj := { cls := Value.type "tuple", data := Data.seq #[] }
noncomputable def so_200 (_ : Params) : Obj := { cls := Value.none, data := Data.func { name := Str.ofString "axis_flag", qualname := Str.ofString "axis_flag", params := fA (nth PySem.Challenge.pw_on0233_01.main.body 21), body := FuncBody.stmts (fB (nth PySem.Challenge.pw_on0233_01.main.body 21)), scope := fC (nth PySem.Challenge.pw_on0233_01.main.body 21), globals := 0, closure := [], defaults := Value.none, kwdefaults := Value.none } }
noncomputable def so_201 (_ : Params) : Obj := { cls := Value.type "code", data := Data.fields #[Value.str (Str.ofString "axis_flag") 387, Value.str (Str.ofString "axis_flag") 388, Value.str (Str.ofString "/claim/cut.py") 389, Value.int 83 0, Value.int 3 0, Value.int 0 0, Value.int 0 0, Value.int 3 0, Value.ref 152, Value.bool true, Value.int 181 0, Value.ref 153, Value.none, Value.ref 154, Value.ref 155, Value.ref 156, Value.int 393 0, Value.int 83 0, Value.str (Str.ofString "/claim/cut.py") 394] }
noncomputable def so_202 (_ : Params) : Obj := { cls := Value.type "function", data := Data.func { name := Str.ofString "axis_flag", qualname := Str.ofString "axis_flag", params := fA (nth PySem.Challenge.pw_on0233_01.main.body 21), body := FuncBody.stmts (fB (nth PySem.Challenge.pw_on0233_01.main.body 21)), scope := fC (nth PySem.Challenge.pw_on0233_01.main.body 21), globals := 3, closure := [], defaults := Value.none, kwdefaults := Value.none, pyModule := Value.str (Str.ofString "outlinemill.glyf_writer") 383, code := Value.ref 157 } }
noncomputable def so_203 (_ : Params) : Obj := { cls := Value.type "tuple", data := Data.seq #[] }
noncomputable def so_204 (_ : Params) : Obj := { cls := Value.none, data := Data.fields #[] }
noncomputable def so_205 (_ : Params) : Obj := { cls := Value.type "tuple", data := Data.seq #[Value.str (Str.ofString "flags") 399, Value.str (Str.ofString "found") 400, Value.str (Str.ofString "at") 401, Value.str (Str.ofString "many") 402] }
noncomputable def so_206 (_ : Params) : Obj := { cls := Value.type "tuple", data := Data.seq #[] }
noncomputable def so_207 (_ : Params) : Obj := { cls := Value.none, data := Data.func { name := Str.ofString "flag_octets", qualname := Str.ofString "flag_octets", params := fA (nth PySem.Challenge.pw_on0233_01.main.body 22), body := FuncBody.stmts (fB (nth PySem.Challenge.pw_on0233_01.main.body 22)), scope := fC (nth PySem.Challenge.pw_on0233_01.main.body 22), globals := 0, closure := [], defaults := Value.none, kwdefaults := Value.none } }
noncomputable def so_208 (_ : Params) : Obj := { cls := Value.type "code", data := Data.fields #[Value.str (Str.ofString "flag_octets") 396, Value.str (Str.ofString "flag_octets") 397, Value.str (Str.ofString "/claim/cut.py") 398, Value.int 93 0, Value.int 1 0, Value.int 0 0, Value.int 0 0, Value.int 3 0, Value.ref 159, Value.bool true, Value.int 181 0, Value.ref 160, Value.none, Value.ref 161, Value.ref 162, Value.ref 163, Value.int 403 0, Value.int 93 0, Value.str (Str.ofString "/claim/cut.py") 404] }
noncomputable def so_209 (_ : Params) : Obj := { cls := Value.type "function", data := Data.func { name := Str.ofString "flag_octets", qualname := Str.ofString "flag_octets", params := fA (nth PySem.Challenge.pw_on0233_01.main.body 22), body := FuncBody.stmts (fB (nth PySem.Challenge.pw_on0233_01.main.body 22)), scope := fC (nth PySem.Challenge.pw_on0233_01.main.body 22), globals := 3, closure := [], defaults := Value.none, kwdefaults := Value.none, pyModule := Value.str (Str.ofString "outlinemill.glyf_writer") 383, code := Value.ref 164 } }
noncomputable def so_210 (_ : Params) : Obj := { cls := Value.type "tuple", data := Data.seq #[] }
noncomputable def so_211 (_ : Params) : Obj := { cls := Value.none, data := Data.fields #[] }
noncomputable def so_212 (_ : Params) : Obj := { cls := Value.type "tuple", data := Data.seq #[Value.str (Str.ofString "script") 411, Value.str (Str.ofString "k") 412, Value.str (Str.ofString "cell") 413, Value.str (Str.ofString "big") 414, Value.str (Str.ofString "stir") 415] }
noncomputable def so_213 (_ : Params) : Obj := { cls := Value.type "tuple", data := Data.seq #[] }
noncomputable def so_214 (_ : Params) : Obj := { cls := Value.none, data := Data.func { name := Str.ofString "_law_pool", qualname := Str.ofString "_law_pool", params := fA (nth PySem.Challenge.pw_on0233_01.main.body 24), body := FuncBody.stmts (fB (nth PySem.Challenge.pw_on0233_01.main.body 24)), scope := fC (nth PySem.Challenge.pw_on0233_01.main.body 24), globals := 0, closure := [], defaults := Value.none, kwdefaults := Value.none } }
noncomputable def so_215 (_ : Params) : Obj := { cls := Value.type "code", data := Data.fields #[Value.str (Str.ofString "_law_pool") 408, Value.str (Str.ofString "_law_pool") 409, Value.str (Str.ofString "/claim/cut.py") 410, Value.int 107 0, Value.int 2 0, Value.int 0 0, Value.int 0 0, Value.int 3 0, Value.ref 166, Value.bool true, Value.int 181 0, Value.ref 167, Value.none, Value.ref 168, Value.ref 169, Value.ref 170, Value.int 416 0, Value.int 107 0, Value.str (Str.ofString "/claim/cut.py") 417] }
noncomputable def so_216 (_ : Params) : Obj := { cls := Value.type "function", data := Data.func { name := Str.ofString "_law_pool", qualname := Str.ofString "_law_pool", params := fA (nth PySem.Challenge.pw_on0233_01.main.body 24), body := FuncBody.stmts (fB (nth PySem.Challenge.pw_on0233_01.main.body 24)), scope := fC (nth PySem.Challenge.pw_on0233_01.main.body 24), globals := 3, closure := [], defaults := Value.none, kwdefaults := Value.none, pyModule := Value.str (Str.ofString "law_on0233_01") 406, code := Value.ref 171 } }
noncomputable def so_217 (_ : Params) : Obj := { cls := Value.type "tuple", data := Data.seq #[] }
noncomputable def so_218 (_ : Params) : Obj := { cls := Value.none, data := Data.fields #[] }
noncomputable def so_219 (_ : Params) : Obj := { cls := Value.type "tuple", data := Data.seq #[Value.str (Str.ofString "source") 422, Value.str (Str.ofString "top") 423, Value.str (Str.ofString "got") 424] }
noncomputable def so_220 (_ : Params) : Obj := { cls := Value.type "tuple", data := Data.seq #[] }
noncomputable def so_221 (_ : Params) : Obj := { cls := Value.none, data := Data.func { name := Str.ofString "_law_take", qualname := Str.ofString "_law_take", params := fA (nth PySem.Challenge.pw_on0233_01.main.body 25), body := FuncBody.stmts (fB (nth PySem.Challenge.pw_on0233_01.main.body 25)), scope := fC (nth PySem.Challenge.pw_on0233_01.main.body 25), globals := 0, closure := [], defaults := Value.none, kwdefaults := Value.none } }
noncomputable def so_222 (_ : Params) : Obj := { cls := Value.type "code", data := Data.fields #[Value.str (Str.ofString "_law_take") 419, Value.str (Str.ofString "_law_take") 420, Value.str (Str.ofString "/claim/cut.py") 421, Value.int 114 0, Value.int 2 0, Value.int 0 0, Value.int 0 0, Value.int 3 0, Value.ref 173, Value.bool true, Value.int 181 0, Value.ref 174, Value.none, Value.ref 175, Value.ref 176, Value.ref 177, Value.int 425 0, Value.int 114 0, Value.str (Str.ofString "/claim/cut.py") 426] }
noncomputable def so_223 (_ : Params) : Obj := { cls := Value.type "function", data := Data.func { name := Str.ofString "_law_take", qualname := Str.ofString "_law_take", params := fA (nth PySem.Challenge.pw_on0233_01.main.body 25), body := FuncBody.stmts (fB (nth PySem.Challenge.pw_on0233_01.main.body 25)), scope := fC (nth PySem.Challenge.pw_on0233_01.main.body 25), globals := 3, closure := [], defaults := Value.none, kwdefaults := Value.none, pyModule := Value.str (Str.ofString "law_on0233_01") 406, code := Value.ref 178 } }
noncomputable def so_224 (_ : Params) : Obj := { cls := Value.type "tuple", data := Data.seq #[] }
noncomputable def so_225 (_ : Params) : Obj := { cls := Value.none, data := Data.fields #[] }
noncomputable def so_226 (_ : Params) : Obj := { cls := Value.type "tuple", data := Data.seq #[Value.str (Str.ofString "source") 431, Value.str (Str.ofString "things") 432] }
noncomputable def so_227 (_ : Params) : Obj := { cls := Value.type "tuple", data := Data.seq #[] }
noncomputable def so_228 (_ : Params) : Obj := { cls := Value.none, data := Data.func { name := Str.ofString "_law_one", qualname := Str.ofString "_law_one", params := fA (nth PySem.Challenge.pw_on0233_01.main.body 26), body := FuncBody.stmts (fB (nth PySem.Challenge.pw_on0233_01.main.body 26)), scope := fC (nth PySem.Challenge.pw_on0233_01.main.body 26), globals := 0, closure := [], defaults := Value.none, kwdefaults := Value.none } }
noncomputable def so_229 (_ : Params) : Obj := { cls := Value.type "code", data := Data.fields #[Value.str (Str.ofString "_law_one") 428, Value.str (Str.ofString "_law_one") 429, Value.str (Str.ofString "/claim/cut.py") 430, Value.int 121 0, Value.int 2 0, Value.int 0 0, Value.int 0 0, Value.int 3 0, Value.ref 180, Value.bool true, Value.int 181 0, Value.ref 181, Value.none, Value.ref 182, Value.ref 183, Value.ref 184, Value.int 433 0, Value.int 121 0, Value.str (Str.ofString "/claim/cut.py") 434] }
noncomputable def so_230 (_ : Params) : Obj := { cls := Value.type "function", data := Data.func { name := Str.ofString "_law_one", qualname := Str.ofString "_law_one", params := fA (nth PySem.Challenge.pw_on0233_01.main.body 26), body := FuncBody.stmts (fB (nth PySem.Challenge.pw_on0233_01.main.body 26)), scope := fC (nth PySem.Challenge.pw_on0233_01.main.body 26), globals := 3, closure := [], defaults := Value.none, kwdefaults := Value.none, pyModule := Value.str (Str.ofString "law_on0233_01") 406, code := Value.ref 185 } }
noncomputable def so_231 (_ : Params) : Obj := { cls := Value.type "tuple", data := Data.seq #[] }
noncomputable def so_232 (_ : Params) : Obj := { cls := Value.none, data := Data.fields #[] }
noncomputable def so_233 (_ : Params) : Obj := { cls := Value.type "tuple", data := Data.seq #[Value.str (Str.ofString "source") 439, Value.str (Str.ofString "found") 440, Value.str (Str.ofString "turn") 441, Value.str (Str.ofString "flag") 442] }
noncomputable def so_234 (_ : Params) : Obj := { cls := Value.type "tuple", data := Data.seq #[] }
noncomputable def so_235 (_ : Params) : Obj := { cls := Value.none, data := Data.func { name := Str.ofString "_law_flags", qualname := Str.ofString "_law_flags", params := fA (nth PySem.Challenge.pw_on0233_01.main.body 27), body := FuncBody.stmts (fB (nth PySem.Challenge.pw_on0233_01.main.body 27)), scope := fC (nth PySem.Challenge.pw_on0233_01.main.body 27), globals := 0, closure := [], defaults := Value.none, kwdefaults := Value.none } }
noncomputable def so_236 (_ : Params) : Obj := { cls := Value.type "code", data := Data.fields #[Value.str (Str.ofString "_law_flags") 436, Value.str (Str.ofString "_law_flags") 437, Value.str (Str.ofString "/claim/cut.py") 438, Value.int 123 0, Value.int 1 0, Value.int 0 0, Value.int 0 0, Value.int 3 0, Value.ref 187, Value.bool true, Value.int 181 0, Value.ref 188, Value.none, Value.ref 189, Value.ref 190, Value.ref 191, Value.int 443 0, Value.int 123 0, Value.str (Str.ofString "/claim/cut.py") 444] }
noncomputable def so_237 (_ : Params) : Obj := { cls := Value.type "function", data := Data.func { name := Str.ofString "_law_flags", qualname := Str.ofString "_law_flags", params := fA (nth PySem.Challenge.pw_on0233_01.main.body 27), body := FuncBody.stmts (fB (nth PySem.Challenge.pw_on0233_01.main.body 27)), scope := fC (nth PySem.Challenge.pw_on0233_01.main.body 27), globals := 3, closure := [], defaults := Value.none, kwdefaults := Value.none, pyModule := Value.str (Str.ofString "law_on0233_01") 406, code := Value.ref 192 } }
noncomputable def so_238 (_ : Params) : Obj := { cls := Value.type "tuple", data := Data.seq #[] }
noncomputable def so_239 (_ : Params) : Obj := { cls := Value.none, data := Data.fields #[] }
noncomputable def so_240 (_ : Params) : Obj := { cls := Value.type "tuple", data := Data.seq #[Value.str (Str.ofString "flags") 449, Value.str (Str.ofString "found") 450, Value.str (Str.ofString "runs") 451, Value.str (Str.ofString "due") 452, Value.str (Str.ofString "flag") 453, Value.str (Str.ofString "many") 454] }
noncomputable def so_241 (_ : Params) : Obj := { cls := Value.type "tuple", data := Data.seq #[] }
noncomputable def so_242 (_ : Params) : Obj := { cls := Value.none, data := Data.func { name := Str.ofString "_law_written", qualname := Str.ofString "_law_written", params := fA (nth PySem.Challenge.pw_on0233_01.main.body 28), body := FuncBody.stmts (fB (nth PySem.Challenge.pw_on0233_01.main.body 28)), scope := fC (nth PySem.Challenge.pw_on0233_01.main.body 28), globals := 0, closure := [], defaults := Value.none, kwdefaults := Value.none } }
noncomputable def so_243 (_ : Params) : Obj := { cls := Value.type "code", data := Data.fields #[Value.str (Str.ofString "_law_written") 446, Value.str (Str.ofString "_law_written") 447, Value.str (Str.ofString "/claim/cut.py") 448, Value.int 129 0, Value.int 1 0, Value.int 0 0, Value.int 0 0, Value.int 3 0, Value.ref 194, Value.bool true, Value.int 181 0, Value.ref 195, Value.none, Value.ref 196, Value.ref 197, Value.ref 198, Value.int 455 0, Value.int 129 0, Value.str (Str.ofString "/claim/cut.py") 456] }
noncomputable def so_244 (_ : Params) : Obj := { cls := Value.type "function", data := Data.func { name := Str.ofString "_law_written", qualname := Str.ofString "_law_written", params := fA (nth PySem.Challenge.pw_on0233_01.main.body 28), body := FuncBody.stmts (fB (nth PySem.Challenge.pw_on0233_01.main.body 28)), scope := fC (nth PySem.Challenge.pw_on0233_01.main.body 28), globals := 3, closure := [], defaults := Value.none, kwdefaults := Value.none, pyModule := Value.str (Str.ofString "law_on0233_01") 406, code := Value.ref 199 } }
noncomputable def so_245 (_ : Params) : Obj := { cls := Value.type "tuple", data := Data.seq #[] }
noncomputable def so_246 (_ : Params) : Obj := { cls := Value.none, data := Data.fields #[] }
noncomputable def so_247 (_ : Params) : Obj := { cls := Value.type "tuple", data := Data.seq #[Value.str (Str.ofString "call") 461] }
noncomputable def so_248 (_ : Params) : Obj := { cls := Value.type "tuple", data := Data.seq #[] }
noncomputable def so_249 (_ : Params) : Obj := { cls := Value.none, data := Data.func { name := Str.ofString "_law_refused", qualname := Str.ofString "_law_refused", params := fA (nth PySem.Challenge.pw_on0233_01.main.body 29), body := FuncBody.stmts (fB (nth PySem.Challenge.pw_on0233_01.main.body 29)), scope := fC (nth PySem.Challenge.pw_on0233_01.main.body 29), globals := 0, closure := [], defaults := Value.none, kwdefaults := Value.none } }
noncomputable def so_250 (_ : Params) : Obj := { cls := Value.type "code", data := Data.fields #[Value.str (Str.ofString "_law_refused") 458, Value.str (Str.ofString "_law_refused") 459, Value.str (Str.ofString "/claim/cut.py") 460, Value.int 140 0, Value.int 1 0, Value.int 0 0, Value.int 0 0, Value.int 3 0, Value.ref 201, Value.bool true, Value.int 181 0, Value.ref 202, Value.none, Value.ref 203, Value.ref 204, Value.ref 205, Value.int 462 0, Value.int 140 0, Value.str (Str.ofString "/claim/cut.py") 463] }
noncomputable def so_251 (_ : Params) : Obj := { cls := Value.type "function", data := Data.func { name := Str.ofString "_law_refused", qualname := Str.ofString "_law_refused", params := fA (nth PySem.Challenge.pw_on0233_01.main.body 29), body := FuncBody.stmts (fB (nth PySem.Challenge.pw_on0233_01.main.body 29)), scope := fC (nth PySem.Challenge.pw_on0233_01.main.body 29), globals := 3, closure := [], defaults := Value.none, kwdefaults := Value.none, pyModule := Value.str (Str.ofString "law_on0233_01") 406, code := Value.ref 206 } }
noncomputable def so_252 (_ : Params) : Obj := { cls := Value.type "tuple", data := Data.seq #[] }
noncomputable def so_253 (_ : Params) : Obj := { cls := Value.none, data := Data.fields #[] }
noncomputable def so_254 (_ : Params) : Obj := { cls := Value.type "tuple", data := Data.seq #[Value.str (Str.ofString "source") 468, Value.str (Str.ofString "told") 469, Value.str (Str.ofString "due") 470, Value.str (Str.ofString "cursor") 471] }
noncomputable def so_255 (_ : Params) : Obj := { cls := Value.type "tuple", data := Data.seq #[Value.str (Str.ofString "flags") 472, Value.str (Str.ofString "more") 473, Value.str (Str.ofString "octets") 474] }
noncomputable def so_256 (_ : Params) : Obj := { cls := Value.none, data := Data.func { name := Str.ofString "_law_flags_right", qualname := Str.ofString "_law_flags_right", params := fA (nth PySem.Challenge.pw_on0233_01.main.body 30), body := FuncBody.stmts (fB (nth PySem.Challenge.pw_on0233_01.main.body 30)), scope := fC (nth PySem.Challenge.pw_on0233_01.main.body 30), globals := 0, closure := [], defaults := Value.none, kwdefaults := Value.none } }
noncomputable def so_257 (_ : Params) : Obj := { cls := Value.type "code", data := Data.fields #[Value.str (Str.ofString "_law_flags_right") 465, Value.str (Str.ofString "_law_flags_right") 466, Value.str (Str.ofString "/claim/cut.py") 467, Value.int 146 0, Value.int 1 0, Value.int 0 0, Value.int 0 0, Value.int 3 0, Value.ref 208, Value.bool true, Value.int 181 0, Value.ref 209, Value.none, Value.ref 210, Value.ref 211, Value.ref 212, Value.int 475 0, Value.int 146 0, Value.str (Str.ofString "/claim/cut.py") 476] }
noncomputable def so_258 (_ : Params) : Obj := { cls := Value.type "function", data := Data.func { name := Str.ofString "_law_flags_right", qualname := Str.ofString "_law_flags_right", params := fA (nth PySem.Challenge.pw_on0233_01.main.body 30), body := FuncBody.stmts (fB (nth PySem.Challenge.pw_on0233_01.main.body 30)), scope := fC (nth PySem.Challenge.pw_on0233_01.main.body 30), globals := 3, closure := [], defaults := Value.none, kwdefaults := Value.none, pyModule := Value.str (Str.ofString "law_on0233_01") 406, code := Value.ref 213 } }
noncomputable def so_259 (P : Params) : Obj := { cls := Value.type "dict", data := Data.dict #[{ hash := PyData.keyHash P (Str.ofString "__name__"), key := Value.str (Str.ofString "__name__") 165, val := Value.str (Str.ofString "law_on0233_01") 406 }, { hash := PyData.keyHash P (Str.ofString "__doc__"), key := Value.str (Str.ofString "__doc__") 166, val := Value.none }, { hash := PyData.keyHash P (Str.ofString "__package__"), key := Value.str (Str.ofString "__package__") 167, val := Value.none }, { hash := PyData.keyHash P (Str.ofString "__loader__"), key := Value.str (Str.ofString "__loader__") 168, val := Value.builtin "__main__.__loader__#opaque" }, { hash := PyData.keyHash P (Str.ofString "__spec__"), key := Value.str (Str.ofString "__spec__") 169, val := Value.none }, { hash := PyData.keyHash P (Str.ofString "__annotations__"), key := Value.str (Str.ofString "__annotations__") 170, val := Value.ref 6 }, { hash := PyData.keyHash P (Str.ofString "__builtins__"), key := Value.str (Str.ofString "__builtins__") 171, val := Value.ref 4 }, { hash := PyData.keyHash P (Str.ofString "__file__"), key := Value.str (Str.ofString "__file__") 173, val := Value.str (Str.ofString "/claim/cut.py") 172 }, { hash := PyData.keyHash P (Str.ofString "__cached__"), key := Value.str (Str.ofString "__cached__") 174, val := Value.none }, { hash := PyData.keyHash P (Str.ofString "_wall"), key := Value.str (Str.ofString "_wall") 193, val := Value.ref 21 }, { hash := PyData.keyHash P (Str.ofString "MillError"), key := Value.str (Str.ofString "MillError") 224, val := Value.ref 38 }, { hash := PyData.keyHash P (Str.ofString "FontFault"), key := Value.str (Str.ofString "FontFault") 240, val := Value.ref 51 }, { hash := PyData.keyHash P (Str.ofString "u16"), key := Value.str (Str.ofString "u16") 250, val := Value.ref 60 }, { hash := PyData.keyHash P (Str.ofString "s16"), key := Value.str (Str.ofString "s16") 259, val := Value.ref 67 }, { hash := PyData.keyHash P (Str.ofString "put16"), key := Value.str (Str.ofString "put16") 266, val := Value.ref 74 }, { hash := PyData.keyHash P (Str.ofString "part_of"), key := Value.str (Str.ofString "part_of") 275, val := Value.ref 81 }, { hash := PyData.keyHash P (Str.ofString "X_SHORT"), key := Value.str (Str.ofString "X_SHORT") 279, val := Value.int 2 278 }, { hash := PyData.keyHash P (Str.ofString "Y_SHORT"), key := Value.str (Str.ofString "Y_SHORT") 281, val := Value.int 4 280 }, { hash := PyData.keyHash P (Str.ofString "REPEAT"), key := Value.str (Str.ofString "REPEAT") 283, val := Value.int 8 282 }, { hash := PyData.keyHash P (Str.ofString "X_SAME"), key := Value.str (Str.ofString "X_SAME") 285, val := Value.int 16 284 }, { hash := PyData.keyHash P (Str.ofString "Y_SAME"), key := Value.str (Str.ofString "Y_SAME") 287, val := Value.int 32 286 }, { hash := PyData.keyHash P (Str.ofString "Octets"), key := Value.str (Str.ofString "Octets") 346, val := Value.ref 126 }, { hash := PyData.keyHash P (Str.ofString "read_flags"), key := Value.str (Str.ofString "read_flags") 357, val := Value.ref 137 }, { hash := PyData.keyHash P (Str.ofString "read_deltas"), key := Value.str (Str.ofString "read_deltas") 371, val := Value.ref 144 }, { hash := PyData.keyHash P (Str.ofString "read_ends"), key := Value.str (Str.ofString "read_ends") 382, val := Value.ref 151 }, { hash := PyData.keyHash P (Str.ofString "MOST_REPEATS"), key := Value.str (Str.ofString "MOST_REPEATS") 386, val := Value.int 255 385 }, { hash := PyData.keyHash P (Str.ofString "axis_flag"), key := Value.str (Str.ofString "axis_flag") 395, val := Value.ref 158 }, { hash := PyData.keyHash P (Str.ofString "flag_octets"), key := Value.str (Str.ofString "flag_octets") 405, val := Value.ref 165 }, { hash := PyData.keyHash P (Str.ofString "_law_pool"), key := Value.str (Str.ofString "_law_pool") 418, val := Value.ref 172 }, { hash := PyData.keyHash P (Str.ofString "_law_take"), key := Value.str (Str.ofString "_law_take") 427, val := Value.ref 179 }, { hash := PyData.keyHash P (Str.ofString "_law_one"), key := Value.str (Str.ofString "_law_one") 435, val := Value.ref 186 }, { hash := PyData.keyHash P (Str.ofString "_law_flags"), key := Value.str (Str.ofString "_law_flags") 445, val := Value.ref 193 }, { hash := PyData.keyHash P (Str.ofString "_law_written"), key := Value.str (Str.ofString "_law_written") 457, val := Value.ref 200 }, { hash := PyData.keyHash P (Str.ofString "_law_refused"), key := Value.str (Str.ofString "_law_refused") 464, val := Value.ref 207 }, { hash := PyData.keyHash P (Str.ofString "_law_flags_right"), key := Value.str (Str.ofString "_law_flags_right") 477, val := Value.ref 214 }, { hash := PyData.keyHash P (Str.ofString "_law_step"), key := Value.str (Str.ofString "_law_step") 486, val := Value.ref 221 }, { hash := PyData.keyHash P (Str.ofString "_law_told"), key := Value.str (Str.ofString "_law_told") 495, val := Value.ref 228 }, { hash := PyData.keyHash P (Str.ofString "_law_axis_right"), key := Value.str (Str.ofString "_law_axis_right") 501, val := Value.ref 233 }, { hash := PyData.keyHash P (Str.ofString "_law_ends_right"), key := Value.str (Str.ofString "_law_ends_right") 507, val := Value.ref 238 }, { hash := PyData.keyHash P (Str.ofString "law"), key := Value.str (Str.ofString "law") 517, val := Value.ref 245 }] 40 }
noncomputable def so_260 (_ : Params) : Obj := { cls := Value.none, data := Data.fields #[Value.int 1 0, Value.int 0 0, Value.ref 20, Value.int 5 0, Value.int 0 0, Value.ref 27, Value.int 9 0, Value.int 0 0, Value.ref 47, Value.int 12 0, Value.int 0 0, Value.ref 59, Value.int 16 0, Value.int 0 0, Value.ref 66, Value.int 19 0, Value.int 0 0, Value.ref 73, Value.int 21 0, Value.int 0 0, Value.ref 80, Value.int 31 0, Value.int 0 0, Value.ref 87, Value.int 51 0, Value.int 0 0, Value.ref 136, Value.int 62 0, Value.int 0 0, Value.ref 143, Value.int 73 0, Value.int 0 0, Value.ref 150, Value.int 83 0, Value.int 0 0, Value.ref 157, Value.int 93 0, Value.int 0 0, Value.ref 164, Value.int 107 0, Value.int 0 0, Value.ref 171, Value.int 114 0, Value.int 0 0, Value.ref 178, Value.int 121 0, Value.int 0 0, Value.ref 185, Value.int 123 0, Value.int 0 0, Value.ref 192, Value.int 129 0, Value.int 0 0, Value.ref 199, Value.int 140 0, Value.int 0 0, Value.ref 206, Value.int 146 0, Value.int 0 0, Value.ref 213, Value.int 158 0, Value.int 0 0, Value.ref 220, Value.int 162 0, Value.int 0 0, Value.ref 227, Value.int 168 0, Value.int 0 0, Value.ref 232, Value.int 179 0, Value.int 0 0, Value.ref 237, Value.int 194 0, Value.int 0 0, Value.ref 244] }
noncomputable def so_261 (_ : Params) : Obj := { cls := Value.type "tuple", data := Data.seq #[] }
noncomputable def so_262 (_ : Params) : Obj := { cls := Value.none, data := Data.fields #[] }
noncomputable def so_263 (_ : Params) : Obj := { cls := Value.type "tuple", data := Data.seq #[Value.str (Str.ofString "source") 481, Value.str (Str.ofString "sizes") 482, Value.str (Str.ofString "size") 483] }
noncomputable def so_264 (_ : Params) : Obj := { cls := Value.type "tuple", data := Data.seq #[] }
noncomputable def so_265 (_ : Params) : Obj := { cls := Value.none, data := Data.func { name := Str.ofString "_law_step", qualname := Str.ofString "_law_step", params := fA (nth PySem.Challenge.pw_on0233_01.main.body 31), body := FuncBody.stmts (fB (nth PySem.Challenge.pw_on0233_01.main.body 31)), scope := fC (nth PySem.Challenge.pw_on0233_01.main.body 31), globals := 0, closure := [], defaults := Value.none, kwdefaults := Value.none } }
noncomputable def so_266 (_ : Params) : Obj := { cls := Value.type "code", data := Data.fields #[Value.str (Str.ofString "_law_step") 478, Value.str (Str.ofString "_law_step") 479, Value.str (Str.ofString "/claim/cut.py") 480, Value.int 158 0, Value.int 1 0, Value.int 0 0, Value.int 0 0, Value.int 3 0, Value.ref 215, Value.bool true, Value.int 181 0, Value.ref 216, Value.none, Value.ref 217, Value.ref 218, Value.ref 219, Value.int 484 0, Value.int 158 0, Value.str (Str.ofString "/claim/cut.py") 485] }
noncomputable def so_267 (_ : Params) : Obj := { cls := Value.type "function", data := Data.func { name := Str.ofString "_law_step", qualname := Str.ofString "_law_step", params := fA (nth PySem.Challenge.pw_on0233_01.main.body 31), body := FuncBody.stmts (fB (nth PySem.Challenge.pw_on0233_01.main.body 31)), scope := fC (nth PySem.Challenge.pw_on0233_01.main.body 31), globals := 3, closure := [], defaults := Value.none, kwdefaults := Value.none, pyModule := Value.str (Str.ofString "law_on0233_01") 406, code := Value.ref 220 } }
noncomputable def so_268 (_ : Params) : Obj := { cls := Value.type "tuple", data := Data.seq #[] }
noncomputable def so_269 (_ : Params) : Obj := { cls := Value.none, data := Data.fields #[] }
noncomputable def so_270 (_ : Params) : Obj := { cls := Value.type "tuple", data := Data.seq #[Value.str (Str.ofString "step") 490, Value.str (Str.ofString "brief") 491, Value.str (Str.ofString "same") 492] }
noncomputable def so_271 (_ : Params) : Obj := { cls := Value.type "tuple", data := Data.seq #[] }
noncomputable def so_272 (_ : Params) : Obj := { cls := Value.none, data := Data.func { name := Str.ofString "_law_told", qualname := Str.ofString "_law_told", params := fA (nth PySem.Challenge.pw_on0233_01.main.body 32), body := FuncBody.stmts (fB (nth PySem.Challenge.pw_on0233_01.main.body 32)), scope := fC (nth PySem.Challenge.pw_on0233_01.main.body 32), globals := 0, closure := [], defaults := Value.none, kwdefaults := Value.none } }
noncomputable def so_273 (_ : Params) : Obj := { cls := Value.type "code", data := Data.fields #[Value.str (Str.ofString "_law_told") 487, Value.str (Str.ofString "_law_told") 488, Value.str (Str.ofString "/claim/cut.py") 489, Value.int 162 0, Value.int 3 0, Value.int 0 0, Value.int 0 0, Value.int 3 0, Value.ref 222, Value.bool true, Value.int 181 0, Value.ref 223, Value.none, Value.ref 224, Value.ref 225, Value.ref 226, Value.int 493 0, Value.int 162 0, Value.str (Str.ofString "/claim/cut.py") 494] }
noncomputable def so_274 (_ : Params) : Obj := { cls := Value.type "function", data := Data.func { name := Str.ofString "_law_told", qualname := Str.ofString "_law_told", params := fA (nth PySem.Challenge.pw_on0233_01.main.body 32), body := FuncBody.stmts (fB (nth PySem.Challenge.pw_on0233_01.main.body 32)), scope := fC (nth PySem.Challenge.pw_on0233_01.main.body 32), globals := 3, closure := [], defaults := Value.none, kwdefaults := Value.none, pyModule := Value.str (Str.ofString "law_on0233_01") 406, code := Value.ref 227 } }
noncomputable def so_275 (_ : Params) : Obj := { cls := Value.type "tuple", data := Data.seq #[] }
noncomputable def so_276 (_ : Params) : Obj := { cls := Value.none, data := Data.fields #[] }
noncomputable def so_277 (_ : Params) : Obj := { cls := Value.none, data := Data.func { name := Str.ofString "_law_axis_right", qualname := Str.ofString "_law_axis_right", params := fA (nth PySem.Challenge.pw_on0233_01.main.body 33), body := FuncBody.stmts (fB (nth PySem.Challenge.pw_on0233_01.main.body 33)), scope := fC (nth PySem.Challenge.pw_on0233_01.main.body 33), globals := 0, closure := [], defaults := Value.none, kwdefaults := Value.none } }
noncomputable def so_278 (_ : Params) : Obj := { cls := Value.type "code", data := Data.fields #[Value.str (Str.ofString "_law_axis_right") 496, Value.str (Str.ofString "_law_axis_right") 497, Value.str (Str.ofString "/claim/cut.py") 498, Value.int 168 0, Value.int 3 0, Value.int 0 0, Value.int 0 0, Value.int 3 0, Value.ref 229, Value.bool true, Value.int 181 0, Value.ref 230, Value.none, Value.none, Value.none, Value.ref 231, Value.int 499 0, Value.int 168 0, Value.str (Str.ofString "/claim/cut.py") 500] }
noncomputable def so_279 (_ : Params) : Obj := { cls := Value.type "function", data := Data.func { name := Str.ofString "_law_axis_right", qualname := Str.ofString "_law_axis_right", params := fA (nth PySem.Challenge.pw_on0233_01.main.body 33), body := FuncBody.stmts (fB (nth PySem.Challenge.pw_on0233_01.main.body 33)), scope := fC (nth PySem.Challenge.pw_on0233_01.main.body 33), globals := 3, closure := [], defaults := Value.none, kwdefaults := Value.none, pyModule := Value.str (Str.ofString "law_on0233_01") 406, code := Value.ref 232 } }
noncomputable def so_280 (_ : Params) : Obj := { cls := Value.type "tuple", data := Data.seq #[] }
noncomputable def so_281 (_ : Params) : Obj := { cls := Value.none, data := Data.fields #[] }
noncomputable def so_282 (_ : Params) : Obj := { cls := Value.none, data := Data.func { name := Str.ofString "_law_ends_right", qualname := Str.ofString "_law_ends_right", params := fA (nth PySem.Challenge.pw_on0233_01.main.body 34), body := FuncBody.stmts (fB (nth PySem.Challenge.pw_on0233_01.main.body 34)), scope := fC (nth PySem.Challenge.pw_on0233_01.main.body 34), globals := 0, closure := [], defaults := Value.none, kwdefaults := Value.none } }
noncomputable def so_283 (_ : Params) : Obj := { cls := Value.type "code", data := Data.fields #[Value.str (Str.ofString "_law_ends_right") 502, Value.str (Str.ofString "_law_ends_right") 503, Value.str (Str.ofString "/claim/cut.py") 504, Value.int 179 0, Value.int 1 0, Value.int 0 0, Value.int 0 0, Value.int 3 0, Value.ref 234, Value.bool true, Value.int 181 0, Value.ref 235, Value.none, Value.none, Value.none, Value.ref 236, Value.int 505 0, Value.int 179 0, Value.str (Str.ofString "/claim/cut.py") 506] }
noncomputable def so_284 (_ : Params) : Obj := { cls := Value.type "function", data := Data.func { name := Str.ofString "_law_ends_right", qualname := Str.ofString "_law_ends_right", params := fA (nth PySem.Challenge.pw_on0233_01.main.body 34), body := FuncBody.stmts (fB (nth PySem.Challenge.pw_on0233_01.main.body 34)), scope := fC (nth PySem.Challenge.pw_on0233_01.main.body 34), globals := 3, closure := [], defaults := Value.none, kwdefaults := Value.none, pyModule := Value.str (Str.ofString "law_on0233_01") 406, code := Value.ref 237 } }
noncomputable def so_285 (_ : Params) : Obj := { cls := Value.type "tuple", data := Data.seq #[] }
noncomputable def so_286 (_ : Params) : Obj := { cls := Value.none, data := Data.fields #[] }
noncomputable def so_287 (_ : Params) : Obj := { cls := Value.type "tuple", data := Data.seq #[Value.str (Str.ofString "script") 511, Value.str (Str.ofString "source") 512] }
noncomputable def so_288 (_ : Params) : Obj := { cls := Value.type "tuple", data := Data.seq #[Value.str (Str.ofString "brief") 513, Value.str (Str.ofString "same") 514] }
noncomputable def so_289 (_ : Params) : Obj := { cls := Value.none, data := Data.func { name := Str.ofString "law", qualname := Str.ofString "law", params := fA (nth PySem.Challenge.pw_on0233_01.main.body 35), body := FuncBody.stmts (fB (nth PySem.Challenge.pw_on0233_01.main.body 35)), scope := fC (nth PySem.Challenge.pw_on0233_01.main.body 35), globals := 0, closure := [], defaults := Value.none, kwdefaults := Value.none } }
noncomputable def so_290 (_ : Params) : Obj := { cls := Value.type "code", data := Data.fields #[Value.str (Str.ofString "law") 508, Value.str (Str.ofString "law") 509, Value.str (Str.ofString "/claim/cut.py") 510, Value.int 194 0, Value.int 1 0, Value.int 0 0, Value.int 0 0, Value.int 3 0, Value.ref 239, Value.bool true, Value.int 181 0, Value.ref 240, Value.none, Value.ref 241, Value.ref 242, Value.ref 243, Value.int 515 0, Value.int 194 0, Value.str (Str.ofString "/claim/cut.py") 516] }
noncomputable def so_291 (_ : Params) : Obj := { cls := Value.type "function", data := Data.func { name := Str.ofString "law", qualname := Str.ofString "law", params := fA (nth PySem.Challenge.pw_on0233_01.main.body 35), body := FuncBody.stmts (fB (nth PySem.Challenge.pw_on0233_01.main.body 35)), scope := fC (nth PySem.Challenge.pw_on0233_01.main.body 35), globals := 3, closure := [], defaults := Value.none, kwdefaults := Value.none, pyModule := Value.str (Str.ofString "law_on0233_01") 406, code := Value.ref 244 } }
noncomputable def tr0 (P : Params) : BT := BT.node (boot_o_0 P) (BT.node (boot_o_1 P) (BT.node (boot_o_3 P) (BT.node (boot_o_7 P) (BT.nil) (BT.nil)) (BT.node (so_43 P) (BT.nil) (BT.nil))) (BT.node (boot_o_5 P) (BT.node (boot_o_9 P) (BT.nil) (BT.nil)) (BT.node (so_45 P) (BT.nil) (BT.nil)))) (BT.node (boot_o_2 P) (BT.node (boot_o_4 P) (BT.node (boot_o_8 P) (BT.nil) (BT.nil)) (BT.node (so_44 P) (BT.nil) (BT.nil))) (BT.node (boot_o_6 P) (BT.node (boot_o_10 P) (BT.nil) (BT.nil)) (BT.node (so_46 P) (BT.nil) (BT.nil))))
noncomputable def tr1 (P : Params) : BT := BT.node (boot_o_0 P) (BT.node (boot_o_1 P) (BT.node (so_50 P) (BT.node (boot_o_7 P) (BT.node (so_52 P) (BT.node (so_68 P) (BT.nil) (BT.nil)) (BT.nil)) (BT.node (so_60 P) (BT.node (so_76 P) (BT.nil) (BT.nil)) (BT.nil))) (BT.node (so_43 P) (BT.node (so_56 P) (BT.node (so_72 P) (BT.nil) (BT.nil)) (BT.nil)) (BT.node (so_64 P) (BT.nil) (BT.nil)))) (BT.node (boot_o_5 P) (BT.node (boot_o_9 P) (BT.node (so_54 P) (BT.node (so_70 P) (BT.nil) (BT.nil)) (BT.nil)) (BT.node (so_62 P) (BT.node (so_78 P) (BT.nil) (BT.nil)) (BT.nil))) (BT.node (so_45 P) (BT.node (so_58 P) (BT.node (so_74 P) (BT.nil) (BT.nil)) (BT.nil)) (BT.node (so_66 P) (BT.nil) (BT.nil))))) (BT.node (so_49 P) (BT.node (boot_o_4 P) (BT.node (boot_o_8 P) (BT.node (so_53 P) (BT.node (so_69 P) (BT.nil) (BT.nil)) (BT.nil)) (BT.node (so_61 P) (BT.node (so_77 P) (BT.nil) (BT.nil)) (BT.nil))) (BT.node (so_51 P) (BT.node (so_57 P) (BT.node (so_73 P) (BT.nil) (BT.nil)) (BT.nil)) (BT.node (so_65 P) (BT.nil) (BT.nil)))) (BT.node (boot_o_6 P) (BT.node (boot_o_10 P) (BT.node (so_55 P) (BT.node (so_71 P) (BT.nil) (BT.nil)) (BT.nil)) (BT.node (so_63 P) (BT.nil) (BT.nil))) (BT.node (so_46 P) (BT.node (so_59 P) (BT.node (so_75 P) (BT.nil) (BT.nil)) (BT.nil)) (BT.node (so_67 P) (BT.nil) (BT.nil)))))
noncomputable def tr2 (P : Params) : BT := BT.node (boot_o_0 P) (BT.node (boot_o_1 P) (BT.node (so_79 P) (BT.node (boot_o_7 P) (BT.node (so_52 P) (BT.node (so_68 P) (BT.node (so_103 P) (BT.nil) (BT.nil)) (BT.nil)) (BT.node (so_87 P) (BT.node (so_119 P) (BT.nil) (BT.nil)) (BT.nil))) (BT.node (so_60 P) (BT.node (so_76 P) (BT.node (so_111 P) (BT.nil) (BT.nil)) (BT.nil)) (BT.node (so_95 P) (BT.nil) (BT.nil)))) (BT.node (so_43 P) (BT.node (so_56 P) (BT.node (so_72 P) (BT.node (so_107 P) (BT.nil) (BT.nil)) (BT.nil)) (BT.node (so_91 P) (BT.nil) (BT.nil))) (BT.node (so_64 P) (BT.node (so_83 P) (BT.node (so_115 P) (BT.nil) (BT.nil)) (BT.nil)) (BT.node (so_99 P) (BT.nil) (BT.nil))))) (BT.node (boot_o_5 P) (BT.node (boot_o_9 P) (BT.node (so_54 P) (BT.node (so_70 P) (BT.node (so_105 P) (BT.nil) (BT.nil)) (BT.nil)) (BT.node (so_89 P) (BT.node (so_121 P) (BT.nil) (BT.nil)) (BT.nil))) (BT.node (so_62 P) (BT.node (so_78 P) (BT.node (so_113 P) (BT.nil) (BT.nil)) (BT.nil)) (BT.node (so_97 P) (BT.nil) (BT.nil)))) (BT.node (so_45 P) (BT.node (so_58 P) (BT.node (so_74 P) (BT.node (so_109 P) (BT.nil) (BT.nil)) (BT.nil)) (BT.node (so_93 P) (BT.nil) (BT.nil))) (BT.node (so_66 P) (BT.node (so_85 P) (BT.node (so_117 P) (BT.nil) (BT.nil)) (BT.nil)) (BT.node (so_101 P) (BT.nil) (BT.nil)))))) (BT.node (so_49 P) (BT.node (boot_o_4 P) (BT.node (boot_o_8 P) (BT.node (so_53 P) (BT.node (so_69 P) (BT.node (so_104 P) (BT.nil) (BT.nil)) (BT.nil)) (BT.node (so_88 P) (BT.node (so_120 P) (BT.nil) (BT.nil)) (BT.nil))) (BT.node (so_61 P) (BT.node (so_77 P) (BT.node (so_112 P) (BT.nil) (BT.nil)) (BT.nil)) (BT.node (so_96 P) (BT.nil) (BT.nil)))) (BT.node (so_80 P) (BT.node (so_57 P) (BT.node (so_73 P) (BT.node (so_108 P) (BT.nil) (BT.nil)) (BT.nil)) (BT.node (so_92 P) (BT.nil) (BT.nil))) (BT.node (so_65 P) (BT.node (so_84 P) (BT.node (so_116 P) (BT.nil) (BT.nil)) (BT.nil)) (BT.node (so_100 P) (BT.nil) (BT.nil))))) (BT.node (boot_o_6 P) (BT.node (boot_o_10 P) (BT.node (so_55 P) (BT.node (so_71 P) (BT.node (so_106 P) (BT.nil) (BT.nil)) (BT.nil)) (BT.node (so_90 P) (BT.nil) (BT.nil))) (BT.node (so_63 P) (BT.node (so_82 P) (BT.node (so_114 P) (BT.nil) (BT.nil)) (BT.nil)) (BT.node (so_98 P) (BT.nil) (BT.nil)))) (BT.node (so_46 P) (BT.node (so_59 P) (BT.node (so_81 P) (BT.node (so_110 P) (BT.nil) (BT.nil)) (BT.nil)) (BT.node (so_94 P) (BT.nil) (BT.nil))) (BT.node (so_67 P) (BT.node (so_86 P) (BT.node (so_118 P) (BT.nil) (BT.nil)) (BT.nil)) (BT.node (so_102 P) (BT.nil) (BT.nil))))))
noncomputable def tr3 (P : Params) : BT := BT.node (boot_o_0 P) (BT.node (boot_o_1 P) (BT.node (so_122 P) (BT.node (boot_o_7 P) (BT.node (so_52 P) (BT.node (so_68 P) (BT.node (so_103 P) (BT.node (so_169 P) (BT.nil) (BT.nil)) (BT.nil)) (BT.node (so_137 P) (BT.nil) (BT.nil))) (BT.node (so_87 P) (BT.node (so_119 P) (BT.nil) (BT.nil)) (BT.node (so_153 P) (BT.nil) (BT.nil)))) (BT.node (so_60 P) (BT.node (so_76 P) (BT.node (so_111 P) (BT.node (so_177 P) (BT.nil) (BT.nil)) (BT.nil)) (BT.node (so_145 P) (BT.nil) (BT.nil))) (BT.node (so_95 P) (BT.node (so_129 P) (BT.nil) (BT.nil)) (BT.node (so_161 P) (BT.nil) (BT.nil))))) (BT.node (so_43 P) (BT.node (so_56 P) (BT.node (so_72 P) (BT.node (so_107 P) (BT.node (so_173 P) (BT.nil) (BT.nil)) (BT.nil)) (BT.node (so_141 P) (BT.nil) (BT.nil))) (BT.node (so_91 P) (BT.node (so_125 P) (BT.nil) (BT.nil)) (BT.node (so_157 P) (BT.nil) (BT.nil)))) (BT.node (so_64 P) (BT.node (so_83 P) (BT.node (so_115 P) (BT.nil) (BT.nil)) (BT.node (so_149 P) (BT.nil) (BT.nil))) (BT.node (so_99 P) (BT.node (so_133 P) (BT.nil) (BT.nil)) (BT.node (so_165 P) (BT.nil) (BT.nil)))))) (BT.node (boot_o_5 P) (BT.node (boot_o_9 P) (BT.node (so_54 P) (BT.node (so_70 P) (BT.node (so_105 P) (BT.node (so_171 P) (BT.nil) (BT.nil)) (BT.nil)) (BT.node (so_139 P) (BT.nil) (BT.nil))) (BT.node (so_89 P) (BT.node (so_121 P) (BT.nil) (BT.nil)) (BT.node (so_155 P) (BT.nil) (BT.nil)))) (BT.node (so_62 P) (BT.node (so_78 P) (BT.node (so_113 P) (BT.node (so_179 P) (BT.nil) (BT.nil)) (BT.nil)) (BT.node (so_147 P) (BT.nil) (BT.nil))) (BT.node (so_97 P) (BT.node (so_131 P) (BT.nil) (BT.nil)) (BT.node (so_163 P) (BT.nil) (BT.nil))))) (BT.node (so_45 P) (BT.node (so_58 P) (BT.node (so_74 P) (BT.node (so_109 P) (BT.node (so_175 P) (BT.nil) (BT.nil)) (BT.nil)) (BT.node (so_143 P) (BT.nil) (BT.nil))) (BT.node (so_93 P) (BT.node (so_127 P) (BT.nil) (BT.nil)) (BT.node (so_159 P) (BT.nil) (BT.nil)))) (BT.node (so_66 P) (BT.node (so_85 P) (BT.node (so_117 P) (BT.nil) (BT.nil)) (BT.node (so_151 P) (BT.nil) (BT.nil))) (BT.node (so_101 P) (BT.node (so_135 P) (BT.nil) (BT.nil)) (BT.node (so_167 P) (BT.nil) (BT.nil))))))) (BT.node (so_49 P) (BT.node (boot_o_4 P) (BT.node (boot_o_8 P) (BT.node (so_53 P) (BT.node (so_69 P) (BT.node (so_104 P) (BT.node (so_170 P) (BT.nil) (BT.nil)) (BT.nil)) (BT.node (so_138 P) (BT.nil) (BT.nil))) (BT.node (so_88 P) (BT.node (so_120 P) (BT.nil) (BT.nil)) (BT.node (so_154 P) (BT.nil) (BT.nil)))) (BT.node (so_61 P) (BT.node (so_77 P) (BT.node (so_112 P) (BT.node (so_178 P) (BT.nil) (BT.nil)) (BT.nil)) (BT.node (so_146 P) (BT.nil) (BT.nil))) (BT.node (so_96 P) (BT.node (so_130 P) (BT.nil) (BT.nil)) (BT.node (so_162 P) (BT.nil) (BT.nil))))) (BT.node (so_123 P) (BT.node (so_57 P) (BT.node (so_73 P) (BT.node (so_108 P) (BT.node (so_174 P) (BT.nil) (BT.nil)) (BT.nil)) (BT.node (so_142 P) (BT.nil) (BT.nil))) (BT.node (so_92 P) (BT.node (so_126 P) (BT.nil) (BT.nil)) (BT.node (so_158 P) (BT.nil) (BT.nil)))) (BT.node (so_65 P) (BT.node (so_84 P) (BT.node (so_116 P) (BT.nil) (BT.nil)) (BT.node (so_150 P) (BT.nil) (BT.nil))) (BT.node (so_100 P) (BT.node (so_134 P) (BT.nil) (BT.nil)) (BT.node (so_166 P) (BT.nil) (BT.nil)))))) (BT.node (boot_o_6 P) (BT.node (boot_o_10 P) (BT.node (so_55 P) (BT.node (so_71 P) (BT.node (so_106 P) (BT.node (so_172 P) (BT.nil) (BT.nil)) (BT.nil)) (BT.node (so_140 P) (BT.nil) (BT.nil))) (BT.node (so_90 P) (BT.node (so_124 P) (BT.nil) (BT.nil)) (BT.node (so_156 P) (BT.nil) (BT.nil)))) (BT.node (so_63 P) (BT.node (so_82 P) (BT.node (so_114 P) (BT.nil) (BT.nil)) (BT.node (so_148 P) (BT.nil) (BT.nil))) (BT.node (so_98 P) (BT.node (so_132 P) (BT.nil) (BT.nil)) (BT.node (so_164 P) (BT.nil) (BT.nil))))) (BT.node (so_46 P) (BT.node (so_59 P) (BT.node (so_81 P) (BT.node (so_110 P) (BT.node (so_176 P) (BT.nil) (BT.nil)) (BT.nil)) (BT.node (so_144 P) (BT.nil) (BT.nil))) (BT.node (so_94 P) (BT.node (so_128 P) (BT.nil) (BT.nil)) (BT.node (so_160 P) (BT.nil) (BT.nil)))) (BT.node (so_67 P) (BT.node (so_86 P) (BT.node (so_118 P) (BT.nil) (BT.nil)) (BT.node (so_152 P) (BT.nil) (BT.nil))) (BT.node (so_102 P) (BT.node (so_136 P) (BT.nil) (BT.nil)) (BT.node (so_168 P) (BT.nil) (BT.nil)))))))
noncomputable def tr4 (P : Params) : BT := BT.node (boot_o_0 P) (BT.node (boot_o_1 P) (BT.node (so_180 P) (BT.node (boot_o_7 P) (BT.node (so_52 P) (BT.node (so_68 P) (BT.node (so_103 P) (BT.node (so_169 P) (BT.nil) (BT.nil)) (BT.node (so_235 P) (BT.nil) (BT.nil))) (BT.node (so_137 P) (BT.node (so_203 P) (BT.nil) (BT.nil)) (BT.nil))) (BT.node (so_87 P) (BT.node (so_119 P) (BT.node (so_187 P) (BT.nil) (BT.nil)) (BT.node (so_251 P) (BT.nil) (BT.nil))) (BT.node (so_153 P) (BT.node (so_219 P) (BT.nil) (BT.nil)) (BT.nil)))) (BT.node (so_60 P) (BT.node (so_76 P) (BT.node (so_111 P) (BT.node (so_177 P) (BT.nil) (BT.nil)) (BT.node (so_243 P) (BT.nil) (BT.nil))) (BT.node (so_145 P) (BT.node (so_211 P) (BT.nil) (BT.nil)) (BT.nil))) (BT.node (so_95 P) (BT.node (so_129 P) (BT.node (so_195 P) (BT.nil) (BT.nil)) (BT.nil)) (BT.node (so_161 P) (BT.node (so_227 P) (BT.nil) (BT.nil)) (BT.nil))))) (BT.node (so_43 P) (BT.node (so_56 P) (BT.node (so_72 P) (BT.node (so_107 P) (BT.node (so_173 P) (BT.nil) (BT.nil)) (BT.node (so_239 P) (BT.nil) (BT.nil))) (BT.node (so_141 P) (BT.node (so_207 P) (BT.nil) (BT.nil)) (BT.nil))) (BT.node (so_91 P) (BT.node (so_125 P) (BT.node (so_191 P) (BT.nil) (BT.nil)) (BT.node (so_255 P) (BT.nil) (BT.nil))) (BT.node (so_157 P) (BT.node (so_223 P) (BT.nil) (BT.nil)) (BT.nil)))) (BT.node (so_64 P) (BT.node (so_83 P) (BT.node (so_115 P) (BT.node (so_183 P) (BT.nil) (BT.nil)) (BT.node (so_247 P) (BT.nil) (BT.nil))) (BT.node (so_149 P) (BT.node (so_215 P) (BT.nil) (BT.nil)) (BT.nil))) (BT.node (so_99 P) (BT.node (so_133 P) (BT.node (so_199 P) (BT.nil) (BT.nil)) (BT.nil)) (BT.node (so_165 P) (BT.node (so_231 P) (BT.nil) (BT.nil)) (BT.nil)))))) (BT.node (boot_o_5 P) (BT.node (boot_o_9 P) (BT.node (so_54 P) (BT.node (so_70 P) (BT.node (so_105 P) (BT.node (so_171 P) (BT.nil) (BT.nil)) (BT.node (so_237 P) (BT.nil) (BT.nil))) (BT.node (so_139 P) (BT.node (so_205 P) (BT.nil) (BT.nil)) (BT.nil))) (BT.node (so_89 P) (BT.node (so_121 P) (BT.node (so_189 P) (BT.nil) (BT.nil)) (BT.node (so_253 P) (BT.nil) (BT.nil))) (BT.node (so_155 P) (BT.node (so_221 P) (BT.nil) (BT.nil)) (BT.nil)))) (BT.node (so_62 P) (BT.node (so_78 P) (BT.node (so_113 P) (BT.node (so_179 P) (BT.nil) (BT.nil)) (BT.node (so_245 P) (BT.nil) (BT.nil))) (BT.node (so_147 P) (BT.node (so_213 P) (BT.nil) (BT.nil)) (BT.nil))) (BT.node (so_97 P) (BT.node (so_131 P) (BT.node (so_197 P) (BT.nil) (BT.nil)) (BT.nil)) (BT.node (so_163 P) (BT.node (so_229 P) (BT.nil) (BT.nil)) (BT.nil))))) (BT.node (so_45 P) (BT.node (so_58 P) (BT.node (so_74 P) (BT.node (so_109 P) (BT.node (so_175 P) (BT.nil) (BT.nil)) (BT.node (so_241 P) (BT.nil) (BT.nil))) (BT.node (so_143 P) (BT.node (so_209 P) (BT.nil) (BT.nil)) (BT.nil))) (BT.node (so_93 P) (BT.node (so_127 P) (BT.node (so_193 P) (BT.nil) (BT.nil)) (BT.node (so_257 P) (BT.nil) (BT.nil))) (BT.node (so_159 P) (BT.node (so_225 P) (BT.nil) (BT.nil)) (BT.nil)))) (BT.node (so_66 P) (BT.node (so_85 P) (BT.node (so_117 P) (BT.node (so_185 P) (BT.nil) (BT.nil)) (BT.node (so_249 P) (BT.nil) (BT.nil))) (BT.node (so_151 P) (BT.node (so_217 P) (BT.nil) (BT.nil)) (BT.nil))) (BT.node (so_101 P) (BT.node (so_135 P) (BT.node (so_201 P) (BT.nil) (BT.nil)) (BT.nil)) (BT.node (so_167 P) (BT.node (so_233 P) (BT.nil) (BT.nil)) (BT.nil))))))) (BT.node (so_49 P) (BT.node (boot_o_4 P) (BT.node (boot_o_8 P) (BT.node (so_53 P) (BT.node (so_69 P) (BT.node (so_104 P) (BT.node (so_170 P) (BT.nil) (BT.nil)) (BT.node (so_236 P) (BT.nil) (BT.nil))) (BT.node (so_138 P) (BT.node (so_204 P) (BT.nil) (BT.nil)) (BT.nil))) (BT.node (so_88 P) (BT.node (so_120 P) (BT.node (so_188 P) (BT.nil) (BT.nil)) (BT.node (so_252 P) (BT.nil) (BT.nil))) (BT.node (so_154 P) (BT.node (so_220 P) (BT.nil) (BT.nil)) (BT.nil)))) (BT.node (so_61 P) (BT.node (so_77 P) (BT.node (so_112 P) (BT.node (so_178 P) (BT.nil) (BT.nil)) (BT.node (so_244 P) (BT.nil) (BT.nil))) (BT.node (so_146 P) (BT.node (so_212 P) (BT.nil) (BT.nil)) (BT.nil))) (BT.node (so_96 P) (BT.node (so_130 P) (BT.node (so_196 P) (BT.nil) (BT.nil)) (BT.nil)) (BT.node (so_162 P) (BT.node (so_228 P) (BT.nil) (BT.nil)) (BT.nil))))) (BT.node (so_181 P) (BT.node (so_57 P) (BT.node (so_73 P) (BT.node (so_108 P) (BT.node (so_174 P) (BT.nil) (BT.nil)) (BT.node (so_240 P) (BT.nil) (BT.nil))) (BT.node (so_142 P) (BT.node (so_208 P) (BT.nil) (BT.nil)) (BT.nil))) (BT.node (so_92 P) (BT.node (so_126 P) (BT.node (so_192 P) (BT.nil) (BT.nil)) (BT.node (so_256 P) (BT.nil) (BT.nil))) (BT.node (so_158 P) (BT.node (so_224 P) (BT.nil) (BT.nil)) (BT.nil)))) (BT.node (so_65 P) (BT.node (so_84 P) (BT.node (so_116 P) (BT.node (so_184 P) (BT.nil) (BT.nil)) (BT.node (so_248 P) (BT.nil) (BT.nil))) (BT.node (so_150 P) (BT.node (so_216 P) (BT.nil) (BT.nil)) (BT.nil))) (BT.node (so_100 P) (BT.node (so_134 P) (BT.node (so_200 P) (BT.nil) (BT.nil)) (BT.nil)) (BT.node (so_166 P) (BT.node (so_232 P) (BT.nil) (BT.nil)) (BT.nil)))))) (BT.node (boot_o_6 P) (BT.node (boot_o_10 P) (BT.node (so_55 P) (BT.node (so_71 P) (BT.node (so_106 P) (BT.node (so_172 P) (BT.nil) (BT.nil)) (BT.node (so_238 P) (BT.nil) (BT.nil))) (BT.node (so_140 P) (BT.node (so_206 P) (BT.nil) (BT.nil)) (BT.nil))) (BT.node (so_90 P) (BT.node (so_124 P) (BT.node (so_190 P) (BT.nil) (BT.nil)) (BT.node (so_254 P) (BT.nil) (BT.nil))) (BT.node (so_156 P) (BT.node (so_222 P) (BT.nil) (BT.nil)) (BT.nil)))) (BT.node (so_63 P) (BT.node (so_82 P) (BT.node (so_114 P) (BT.node (so_182 P) (BT.nil) (BT.nil)) (BT.node (so_246 P) (BT.nil) (BT.nil))) (BT.node (so_148 P) (BT.node (so_214 P) (BT.nil) (BT.nil)) (BT.nil))) (BT.node (so_98 P) (BT.node (so_132 P) (BT.node (so_198 P) (BT.nil) (BT.nil)) (BT.nil)) (BT.node (so_164 P) (BT.node (so_230 P) (BT.nil) (BT.nil)) (BT.nil))))) (BT.node (so_46 P) (BT.node (so_59 P) (BT.node (so_81 P) (BT.node (so_110 P) (BT.node (so_176 P) (BT.nil) (BT.nil)) (BT.node (so_242 P) (BT.nil) (BT.nil))) (BT.node (so_144 P) (BT.node (so_210 P) (BT.nil) (BT.nil)) (BT.nil))) (BT.node (so_94 P) (BT.node (so_128 P) (BT.node (so_194 P) (BT.nil) (BT.nil)) (BT.node (so_258 P) (BT.nil) (BT.nil))) (BT.node (so_160 P) (BT.node (so_226 P) (BT.nil) (BT.nil)) (BT.nil)))) (BT.node (so_67 P) (BT.node (so_86 P) (BT.node (so_118 P) (BT.node (so_186 P) (BT.nil) (BT.nil)) (BT.node (so_250 P) (BT.nil) (BT.nil))) (BT.node (so_152 P) (BT.node (so_218 P) (BT.nil) (BT.nil)) (BT.nil))) (BT.node (so_102 P) (BT.node (so_136 P) (BT.node (so_202 P) (BT.nil) (BT.nil)) (BT.nil)) (BT.node (so_168 P) (BT.node (so_234 P) (BT.nil) (BT.nil)) (BT.nil)))))))
noncomputable def tr5 (P : Params) : BT := BT.node (boot_o_0 P) (BT.node (boot_o_1 P) (BT.node (so_259 P) (BT.node (boot_o_7 P) (BT.node (so_52 P) (BT.node (so_68 P) (BT.node (so_103 P) (BT.node (so_169 P) (BT.nil) (BT.nil)) (BT.node (so_235 P) (BT.nil) (BT.nil))) (BT.node (so_137 P) (BT.node (so_203 P) (BT.nil) (BT.nil)) (BT.node (so_269 P) (BT.nil) (BT.nil)))) (BT.node (so_87 P) (BT.node (so_119 P) (BT.node (so_187 P) (BT.nil) (BT.nil)) (BT.node (so_251 P) (BT.nil) (BT.nil))) (BT.node (so_153 P) (BT.node (so_219 P) (BT.nil) (BT.nil)) (BT.node (so_285 P) (BT.nil) (BT.nil))))) (BT.node (so_60 P) (BT.node (so_76 P) (BT.node (so_111 P) (BT.node (so_177 P) (BT.nil) (BT.nil)) (BT.node (so_243 P) (BT.nil) (BT.nil))) (BT.node (so_145 P) (BT.node (so_211 P) (BT.nil) (BT.nil)) (BT.node (so_277 P) (BT.nil) (BT.nil)))) (BT.node (so_95 P) (BT.node (so_129 P) (BT.node (so_195 P) (BT.nil) (BT.nil)) (BT.node (so_261 P) (BT.nil) (BT.nil))) (BT.node (so_161 P) (BT.node (so_227 P) (BT.nil) (BT.nil)) (BT.nil))))) (BT.node (so_43 P) (BT.node (so_56 P) (BT.node (so_72 P) (BT.node (so_107 P) (BT.node (so_173 P) (BT.nil) (BT.nil)) (BT.node (so_239 P) (BT.nil) (BT.nil))) (BT.node (so_141 P) (BT.node (so_207 P) (BT.nil) (BT.nil)) (BT.node (so_273 P) (BT.nil) (BT.nil)))) (BT.node (so_91 P) (BT.node (so_125 P) (BT.node (so_191 P) (BT.nil) (BT.nil)) (BT.node (so_255 P) (BT.nil) (BT.nil))) (BT.node (so_157 P) (BT.node (so_223 P) (BT.nil) (BT.nil)) (BT.node (so_289 P) (BT.nil) (BT.nil))))) (BT.node (so_64 P) (BT.node (so_83 P) (BT.node (so_115 P) (BT.node (so_183 P) (BT.nil) (BT.nil)) (BT.node (so_247 P) (BT.nil) (BT.nil))) (BT.node (so_149 P) (BT.node (so_215 P) (BT.nil) (BT.nil)) (BT.node (so_281 P) (BT.nil) (BT.nil)))) (BT.node (so_99 P) (BT.node (so_133 P) (BT.node (so_199 P) (BT.nil) (BT.nil)) (BT.node (so_265 P) (BT.nil) (BT.nil))) (BT.node (so_165 P) (BT.node (so_231 P) (BT.nil) (BT.nil)) (BT.nil)))))) (BT.node (boot_o_5 P) (BT.node (boot_o_9 P) (BT.node (so_54 P) (BT.node (so_70 P) (BT.node (so_105 P) (BT.node (so_171 P) (BT.nil) (BT.nil)) (BT.node (so_237 P) (BT.nil) (BT.nil))) (BT.node (so_139 P) (BT.node (so_205 P) (BT.nil) (BT.nil)) (BT.node (so_271 P) (BT.nil) (BT.nil)))) (BT.node (so_89 P) (BT.node (so_121 P) (BT.node (so_189 P) (BT.nil) (BT.nil)) (BT.node (so_253 P) (BT.nil) (BT.nil))) (BT.node (so_155 P) (BT.node (so_221 P) (BT.nil) (BT.nil)) (BT.node (so_287 P) (BT.nil) (BT.nil))))) (BT.node (so_62 P) (BT.node (so_78 P) (BT.node (so_113 P) (BT.node (so_179 P) (BT.nil) (BT.nil)) (BT.node (so_245 P) (BT.nil) (BT.nil))) (BT.node (so_147 P) (BT.node (so_213 P) (BT.nil) (BT.nil)) (BT.node (so_279 P) (BT.nil) (BT.nil)))) (BT.node (so_97 P) (BT.node (so_131 P) (BT.node (so_197 P) (BT.nil) (BT.nil)) (BT.node (so_263 P) (BT.nil) (BT.nil))) (BT.node (so_163 P) (BT.node (so_229 P) (BT.nil) (BT.nil)) (BT.nil))))) (BT.node (so_45 P) (BT.node (so_58 P) (BT.node (so_74 P) (BT.node (so_109 P) (BT.node (so_175 P) (BT.nil) (BT.nil)) (BT.node (so_241 P) (BT.nil) (BT.nil))) (BT.node (so_143 P) (BT.node (so_209 P) (BT.nil) (BT.nil)) (BT.node (so_275 P) (BT.nil) (BT.nil)))) (BT.node (so_93 P) (BT.node (so_127 P) (BT.node (so_193 P) (BT.nil) (BT.nil)) (BT.node (so_257 P) (BT.nil) (BT.nil))) (BT.node (so_159 P) (BT.node (so_225 P) (BT.nil) (BT.nil)) (BT.node (so_291 P) (BT.nil) (BT.nil))))) (BT.node (so_66 P) (BT.node (so_85 P) (BT.node (so_117 P) (BT.node (so_185 P) (BT.nil) (BT.nil)) (BT.node (so_249 P) (BT.nil) (BT.nil))) (BT.node (so_151 P) (BT.node (so_217 P) (BT.nil) (BT.nil)) (BT.node (so_283 P) (BT.nil) (BT.nil)))) (BT.node (so_101 P) (BT.node (so_135 P) (BT.node (so_201 P) (BT.nil) (BT.nil)) (BT.node (so_267 P) (BT.nil) (BT.nil))) (BT.node (so_167 P) (BT.node (so_233 P) (BT.nil) (BT.nil)) (BT.nil))))))) (BT.node (so_49 P) (BT.node (boot_o_4 P) (BT.node (boot_o_8 P) (BT.node (so_53 P) (BT.node (so_69 P) (BT.node (so_104 P) (BT.node (so_170 P) (BT.nil) (BT.nil)) (BT.node (so_236 P) (BT.nil) (BT.nil))) (BT.node (so_138 P) (BT.node (so_204 P) (BT.nil) (BT.nil)) (BT.node (so_270 P) (BT.nil) (BT.nil)))) (BT.node (so_88 P) (BT.node (so_120 P) (BT.node (so_188 P) (BT.nil) (BT.nil)) (BT.node (so_252 P) (BT.nil) (BT.nil))) (BT.node (so_154 P) (BT.node (so_220 P) (BT.nil) (BT.nil)) (BT.node (so_286 P) (BT.nil) (BT.nil))))) (BT.node (so_61 P) (BT.node (so_77 P) (BT.node (so_112 P) (BT.node (so_178 P) (BT.nil) (BT.nil)) (BT.node (so_244 P) (BT.nil) (BT.nil))) (BT.node (so_146 P) (BT.node (so_212 P) (BT.nil) (BT.nil)) (BT.node (so_278 P) (BT.nil) (BT.nil)))) (BT.node (so_96 P) (BT.node (so_130 P) (BT.node (so_196 P) (BT.nil) (BT.nil)) (BT.node (so_262 P) (BT.nil) (BT.nil))) (BT.node (so_162 P) (BT.node (so_228 P) (BT.nil) (BT.nil)) (BT.nil))))) (BT.node (so_260 P) (BT.node (so_57 P) (BT.node (so_73 P) (BT.node (so_108 P) (BT.node (so_174 P) (BT.nil) (BT.nil)) (BT.node (so_240 P) (BT.nil) (BT.nil))) (BT.node (so_142 P) (BT.node (so_208 P) (BT.nil) (BT.nil)) (BT.node (so_274 P) (BT.nil) (BT.nil)))) (BT.node (so_92 P) (BT.node (so_126 P) (BT.node (so_192 P) (BT.nil) (BT.nil)) (BT.node (so_256 P) (BT.nil) (BT.nil))) (BT.node (so_158 P) (BT.node (so_224 P) (BT.nil) (BT.nil)) (BT.node (so_290 P) (BT.nil) (BT.nil))))) (BT.node (so_65 P) (BT.node (so_84 P) (BT.node (so_116 P) (BT.node (so_184 P) (BT.nil) (BT.nil)) (BT.node (so_248 P) (BT.nil) (BT.nil))) (BT.node (so_150 P) (BT.node (so_216 P) (BT.nil) (BT.nil)) (BT.node (so_282 P) (BT.nil) (BT.nil)))) (BT.node (so_100 P) (BT.node (so_134 P) (BT.node (so_200 P) (BT.nil) (BT.nil)) (BT.node (so_266 P) (BT.nil) (BT.nil))) (BT.node (so_166 P) (BT.node (so_232 P) (BT.nil) (BT.nil)) (BT.nil)))))) (BT.node (boot_o_6 P) (BT.node (boot_o_10 P) (BT.node (so_55 P) (BT.node (so_71 P) (BT.node (so_106 P) (BT.node (so_172 P) (BT.nil) (BT.nil)) (BT.node (so_238 P) (BT.nil) (BT.nil))) (BT.node (so_140 P) (BT.node (so_206 P) (BT.nil) (BT.nil)) (BT.node (so_272 P) (BT.nil) (BT.nil)))) (BT.node (so_90 P) (BT.node (so_124 P) (BT.node (so_190 P) (BT.nil) (BT.nil)) (BT.node (so_254 P) (BT.nil) (BT.nil))) (BT.node (so_156 P) (BT.node (so_222 P) (BT.nil) (BT.nil)) (BT.node (so_288 P) (BT.nil) (BT.nil))))) (BT.node (so_63 P) (BT.node (so_82 P) (BT.node (so_114 P) (BT.node (so_182 P) (BT.nil) (BT.nil)) (BT.node (so_246 P) (BT.nil) (BT.nil))) (BT.node (so_148 P) (BT.node (so_214 P) (BT.nil) (BT.nil)) (BT.node (so_280 P) (BT.nil) (BT.nil)))) (BT.node (so_98 P) (BT.node (so_132 P) (BT.node (so_198 P) (BT.nil) (BT.nil)) (BT.node (so_264 P) (BT.nil) (BT.nil))) (BT.node (so_164 P) (BT.node (so_230 P) (BT.nil) (BT.nil)) (BT.nil))))) (BT.node (so_46 P) (BT.node (so_59 P) (BT.node (so_81 P) (BT.node (so_110 P) (BT.node (so_176 P) (BT.nil) (BT.nil)) (BT.node (so_242 P) (BT.nil) (BT.nil))) (BT.node (so_144 P) (BT.node (so_210 P) (BT.nil) (BT.nil)) (BT.node (so_276 P) (BT.nil) (BT.nil)))) (BT.node (so_94 P) (BT.node (so_128 P) (BT.node (so_194 P) (BT.nil) (BT.nil)) (BT.node (so_258 P) (BT.nil) (BT.nil))) (BT.node (so_160 P) (BT.node (so_226 P) (BT.nil) (BT.nil)) (BT.nil)))) (BT.node (so_67 P) (BT.node (so_86 P) (BT.node (so_118 P) (BT.node (so_186 P) (BT.nil) (BT.nil)) (BT.node (so_250 P) (BT.nil) (BT.nil))) (BT.node (so_152 P) (BT.node (so_218 P) (BT.nil) (BT.nil)) (BT.node (so_284 P) (BT.nil) (BT.nil)))) (BT.node (so_102 P) (BT.node (so_136 P) (BT.node (so_202 P) (BT.nil) (BT.nil)) (BT.node (so_268 P) (BT.nil) (BT.nil))) (BT.node (so_168 P) (BT.node (so_234 P) (BT.nil) (BT.nil)) (BT.nil)))))))
noncomputable def hp292 (P : Params) : Heap := ⟨Array.mk (boot_o_0 P :: boot_o_1 P :: so_49 P :: so_259 P :: boot_o_4 P :: boot_o_5 P :: boot_o_6 P :: boot_o_7 P :: boot_o_8 P :: boot_o_9 P :: boot_o_10 P :: so_43 P :: so_260 P :: so_45 P :: so_46 P :: so_52 P :: so_53 P :: so_54 P :: so_55 P :: so_56 P :: so_57 P :: so_58 P :: so_59 P :: so_60 P :: so_61 P :: so_62 P :: so_63 P :: so_64 P :: so_65 P :: so_66 P :: so_67 P :: so_68 P :: so_69 P :: so_70 P :: so_71 P :: so_72 P :: so_73 P :: so_74 P :: so_81 P :: so_76 P :: so_77 P :: so_78 P :: so_82 P :: so_83 P :: so_84 P :: so_85 P :: so_86 P :: so_87 P :: so_88 P :: so_89 P :: so_90 P :: so_91 P :: so_92 P :: so_93 P :: so_94 P :: so_95 P :: so_96 P :: so_97 P :: so_98 P :: so_99 P :: so_100 P :: so_101 P :: so_102 P :: so_103 P :: so_104 P :: so_105 P :: so_106 P :: so_107 P :: so_108 P :: so_109 P :: so_110 P :: so_111 P :: so_112 P :: so_113 P :: so_114 P :: so_115 P :: so_116 P :: so_117 P :: so_118 P :: so_119 P :: so_120 P :: so_121 P :: so_124 P :: so_125 P :: so_126 P :: so_127 P :: so_128 P :: so_129 P :: so_130 P :: so_131 P :: so_132 P :: so_133 P :: so_134 P :: so_135 P :: so_136 P :: so_137 P :: so_138 P :: so_139 P :: so_140 P :: so_141 P :: so_142 P :: so_143 P :: so_144 P :: so_145 P :: so_146 P :: so_147 P :: so_148 P :: so_149 P :: so_150 P :: so_151 P :: so_152 P :: so_153 P :: so_154 P :: so_155 P :: so_156 P :: so_157 P :: so_158 P :: so_159 P :: so_160 P :: so_161 P :: so_162 P :: so_163 P :: so_164 P :: so_165 P :: so_166 P :: so_167 P :: so_168 P :: so_169 P :: so_170 P :: so_171 P :: so_172 P :: so_173 P :: so_174 P :: so_175 P :: so_176 P :: so_177 P :: so_178 P :: so_179 P :: so_182 P :: so_183 P :: so_184 P :: so_185 P :: so_186 P :: so_187 P :: so_188 P :: so_189 P :: so_190 P :: so_191 P :: so_192 P :: so_193 P :: so_194 P :: so_195 P :: so_196 P :: so_197 P :: so_198 P :: so_199 P :: so_200 P :: so_201 P :: so_202 P :: so_203 P :: so_204 P :: so_205 P :: so_206 P :: so_207 P :: so_208 P :: so_209 P :: so_210 P :: so_211 P :: so_212 P :: so_213 P :: so_214 P :: so_215 P :: so_216 P :: so_217 P :: so_218 P :: so_219 P :: so_220 P :: so_221 P :: so_222 P :: so_223 P :: so_224 P :: so_225 P :: so_226 P :: so_227 P :: so_228 P :: so_229 P :: so_230 P :: so_231 P :: so_232 P :: so_233 P :: so_234 P :: so_235 P :: so_236 P :: so_237 P :: so_238 P :: so_239 P :: so_240 P :: so_241 P :: so_242 P :: so_243 P :: so_244 P :: so_245 P :: so_246 P :: so_247 P :: so_248 P :: so_249 P :: so_250 P :: so_251 P :: so_252 P :: so_253 P :: so_254 P :: so_255 P :: so_256 P :: so_257 P :: so_258 P :: so_261 P :: so_262 P :: so_263 P :: so_264 P :: so_265 P :: so_266 P :: so_267 P :: so_268 P :: so_269 P :: so_270 P :: so_271 P :: so_272 P :: so_273 P :: so_274 P :: so_275 P :: so_276 P :: so_277 P :: so_278 P :: so_279 P :: so_280 P :: so_281 P :: so_282 P :: so_283 P :: so_284 P :: so_285 P :: so_286 P :: so_287 P :: so_288 P :: so_289 P :: so_290 P :: so_291 P :: []), {}⟩
noncomputable def hp46 (P : Params) : Heap := ⟨Array.mk (boot_o_0 P :: boot_o_1 P :: boot_o_2 P :: boot_o_3 P :: boot_o_4 P :: boot_o_5 P :: boot_o_6 P :: boot_o_7 P :: boot_o_8 P :: boot_o_9 P :: boot_o_10 P :: so_43 P :: so_44 P :: so_45 P :: so_46 P :: []), {}⟩
noncomputable def envT : Env := { scope := PySem.Challenge.rw_on0233_01.row.prog.main.scope, locals := mainNs, globals := mainNs, cells := [], code := Value.ref 13, frame := some 14 }
noncomputable abbrev cT : Code := Code.body (behindTheImports PySem.Challenge.rw_on0233_01.row.prog) envT
noncomputable def st0 : List Stmt := ((behindTheImports PySem.Challenge.rw_on0233_01.row.prog).drop 0).take 3
noncomputable def st1 : List Stmt := ((behindTheImports PySem.Challenge.rw_on0233_01.row.prog).drop 3).take 12
noncomputable def st2 : List Stmt := ((behindTheImports PySem.Challenge.rw_on0233_01.row.prog).drop 15).take 2
noncomputable def st3 : List Stmt := ((behindTheImports PySem.Challenge.rw_on0233_01.row.prog).drop 17).take 14
noncomputable def st4 : List Stmt := ((behindTheImports PySem.Challenge.rw_on0233_01.row.prog).drop 31).take 5
theorem body_is : behindTheImports PySem.Challenge.rw_on0233_01.row.prog = st0 ++ (st1 ++ (st2 ++ (st3 ++ (st4 ++ [])))) := by kernel_rfl
theorem pl (w : World) : (fun os => topGo treeTable PySem.Challenge.rw_on0233_01.row.prog w 11 (some (Value.ref 6)) 12 (⟨boot_heap w.params, Array.mk [], boot_drawn, boot_toks, os⟩ : Shared) (topStub PySem.Challenge.rw_on0233_01.row.prog)) = fun os => some ((⟨hp46 w.params, Array.mk [], {}, 187, os⟩ : Shared), (⟨denote treeTable cT, cT, ⟨0, 0, 0, 0⟩, [topFrame ⟨0, 0, 0, 0⟩]⟩ : Thread)) := by kernel_rfl
theorem pb (w : World) : (fun os => segRun treeTable PySem.Challenge.rw_on0233_01.row.prog w 11 (some (Value.ref 6)) 1 1 (⟨hp46 w.params, Array.mk [], {}, 187, os⟩ : Shared) (blockOf (behindTheImports PySem.Challenge.rw_on0233_01.row.prog) envT cT ⟨0, 0, 0, 0⟩ [topFrame ⟨0, 0, 0, 0⟩])) = fun os => some (Flow.next, (⟨tr0 w.params, 15, {}, Array.mk [], {}, 187, os⟩ : SharedT).abs, cT, (⟨0, 0, 0, 0⟩ : Pos)) := by
  first
  | (rw [PySem.W.Fast.te14374325043358763698, PySem.W.Fast.te14364793385576792824]; kernel_rfl)
  | kernel_rfl
theorem pg0 (w : World) : (fun os => segRunT treeTable PySem.Challenge.rw_on0233_01.row.prog w 11 (some (Value.ref 6)) 1 267 (⟨tr0 w.params, 15, {}, Array.mk [], {}, 187, os⟩ : SharedT) (piecesOf st0 envT cT ⟨0, 0, 0, 0⟩ [topFrame ⟨0, 0, 0, 0⟩])) = fun os => some (Flow.next, (⟨tr1 w.params, 42, {}, Array.mk [], {}, 225, os⟩ : SharedT), cT, (⟨5, 0, 8, 30⟩ : Pos)) := by
  first
  | (rw [PySem.W.Fast.te10110043849684766642, PySem.W.Fast.te14364793385576792824]; kernel_rfl)
  | kernel_rfl
theorem pg1 (w : World) : (fun os => segRunT treeTable PySem.Challenge.rw_on0233_01.row.prog w 11 (some (Value.ref 6)) 1 398 (⟨tr1 w.params, 42, {}, Array.mk [], {}, 225, os⟩ : SharedT) (piecesOf st1 envT cT ⟨5, 0, 8, 30⟩ [topFrame ⟨0, 0, 0, 0⟩])) = fun os => some (Flow.next, (⟨tr2 w.params, 82, {}, Array.mk [], {}, 288, os⟩ : SharedT), cT, (⟨30, 0, 30, 6⟩ : Pos)) := by
  first
  | (rw [PySem.W.Fast.te10110043849684766642, PySem.W.Fast.te14364793385576792824]; kernel_rfl)
  | kernel_rfl
theorem pg2 (w : World) : (fun os => segRunT treeTable PySem.Challenge.rw_on0233_01.row.prog w 11 (some (Value.ref 6)) 1 382 (⟨tr2 w.params, 82, {}, Array.mk [], {}, 288, os⟩ : SharedT) (piecesOf st2 envT cT ⟨30, 0, 30, 6⟩ [topFrame ⟨0, 0, 0, 0⟩])) = fun os => some (Flow.next, (⟨tr3 w.params, 138, {}, Array.mk [], {}, 358, os⟩ : SharedT), cT, (⟨51, 0, 61, 16⟩ : Pos)) := by
  first
  | (rw [PySem.W.Fast.te10110043849684766642, PySem.W.Fast.te14364793385576792824]; kernel_rfl)
  | kernel_rfl
theorem pg3 (w : World) : (fun os => segRunT treeTable PySem.Challenge.rw_on0233_01.row.prog w 11 (some (Value.ref 6)) 1 384 (⟨tr3 w.params, 138, {}, Array.mk [], {}, 358, os⟩ : SharedT) (piecesOf st3 envT cT ⟨51, 0, 61, 16⟩ [topFrame ⟨0, 0, 0, 0⟩])) = fun os => some (Flow.next, (⟨tr4 w.params, 215, {}, Array.mk [], {}, 478, os⟩ : SharedT), cT, (⟨146, 0, 157, 103⟩ : Pos)) := by
  first
  | (rw [PySem.W.Fast.te10110043849684766642, PySem.W.Fast.te14364793385576792824]; kernel_rfl)
  | kernel_rfl
theorem pg4 (w : World) : (fun os => segRunT treeTable PySem.Challenge.rw_on0233_01.row.prog w 11 (some (Value.ref 6)) 1 147 (⟨tr4 w.params, 215, {}, Array.mk [], {}, 478, os⟩ : SharedT) (piecesOf st4 envT cT ⟨146, 0, 157, 103⟩ [topFrame ⟨0, 0, 0, 0⟩])) = fun os => some (Flow.next, (⟨tr5 w.params, 246, {}, Array.mk [], {}, 518, os⟩ : SharedT), cT, (⟨194, 0, 207, 15⟩ : Pos)) := by
  first
  | (rw [PySem.W.Fast.te10110043849684766642, PySem.W.Fast.te14364793385576792824]; kernel_rfl)
  | kernel_rfl
theorem pf (w : World) : (fun os => topRun treeTable PySem.Challenge.rw_on0233_01.row.prog w 11 (some (Value.ref 6)) 2 (⟨tr5 w.params, 246, {}, Array.mk [], {}, 518, os⟩ : SharedT).abs (⟨doneF Flow.next, cT, ⟨194, 0, 207, 15⟩, [topFrame ⟨0, 0, 0, 0⟩]⟩ : Thread)) = fun os => some (⟨hp292 w.params, Array.mk [], {}, 518, os⟩ : Shared) := by
  first
  | (rw [PySem.W.Fast.te14082659384304107361, PySem.W.Fast.te14364793385576792824]; kernel_rfl)
  | kernel_rfl
theorem run (w : World) (os : OsState) : topRun treeTable PySem.Challenge.rw_on0233_01.row.prog w 11 (some (Value.ref 6)) (12 + (1 + (267 + (398 + (382 + (384 + (147 + 2))))))) (⟨boot_heap w.params, Array.mk [], boot_drawn, boot_toks, os⟩ : Shared) (topStub PySem.Challenge.rw_on0233_01.row.prog) = some (⟨hp292 w.params, Array.mk [], {}, 518, os⟩ : Shared) :=
  go_top (congrFun (pl w) os) (piece_block (congrFun (pb w) os) (by rw [body_is]; exact (piece_app (segRun_of (congrFun (pg0 w) os)) (piece_app (segRun_of (congrFun (pg1 w) os)) (piece_app (segRun_of (congrFun (pg2 w) os)) (piece_app (segRun_of (congrFun (pg3 w) os)) (piece_app (segRun_of (congrFun (pg4 w) os)) (piece_nil (congrFun (pf w) os)))))))))
theorem look1 (w : World) : (fun os => (staticsOk (importedModules PySem.Challenge.rw_on0233_01.row.prog.main.body) (boot_heap w.params) (hp292 w.params) && namesBound PySem.Challenge.rw_on0233_01.row.prog (hp292 w.params) && gensDone (⟨hp292 w.params, Array.mk [], {}, 518, os⟩ : Shared) && laidKept (boot_heap w.params) (hp292 w.params))) = fun _ => true := by kernel_rfl
theorem lk0 (w : World) : (fun os => seen ((recsOf theView).map (·.name)) (ownsOf theView) [] { (⟨hp292 w.params, Array.mk [], {}, 518, os⟩ : Shared) with gens := #[] }) = fun _ => expectedOf theView := by kernel_rfl
theorem lk1 (w : World) : (fun os => (⟨hp292 w.params, Array.mk [], {}, 518, os⟩ : Shared).heap.bltView) = fun _ => bltViewBooted := by kernel_rfl
theorem lk2 (w : World) : (fun os => ((⟨hp292 w.params, Array.mk [], {}, 518, os⟩ : Shared).heap.keysOk (looseW theView []) ((recsOf theView).map (·.name)) ((litsOf theView).map (·.1)) ((clssOf theView (looseW theView [])).map (·.name)) && (⟨hp292 w.params, Array.mk [], {}, 518, os⟩ : Shared).heap.accountedOkI (importedModules PySem.Challenge.rw_on0233_01.row.prog.main.body) && (⟨hp292 w.params, Array.mk [], {}, 518, os⟩ : Shared).heap.isNs mainGlobals && (⟨hp292 w.params, Array.mk [], {}, 518, os⟩ : Shared).heap.isNs builtinsNs && tablesOk theView (⟨hp292 w.params, Array.mk [], {}, 518, os⟩ : Shared).heap && (fun s => xlAt theView [] s && recOk (RowW.records PySem.Challenge.rw_on0233_01.row.toRowW) s) (⟨hp292 w.params, Array.mk [], {}, 518, os⟩ : Shared) && (if true then (⟨hp292 w.params, Array.mk [], {}, 518, os⟩ : Shared).gens.size == 0 else !leftWithCleanup (⟨hp292 w.params, Array.mk [], {}, 518, os⟩ : Shared).gens))) = fun _ => true := by kernel_rfl
theorem lk3 (w : World) : (fun os => tabsOk theView (⟨hp292 w.params, Array.mk [], {}, 518, os⟩ : Shared)) = fun _ => true := by kernel_rfl
theorem lk4 (w : World) : (fun os => (pinSeenD theView (drecsOf theView) (⟨hp292 w.params, Array.mk [], {}, 518, os⟩ : Shared), plainSeenE theView (looseW theView []) (⟨hp292 w.params, Array.mk [], {}, 518, os⟩ : Shared), plainSeenD theView [] (⟨hp292 w.params, Array.mk [], {}, 518, os⟩ : Shared))) = fun _ => (pinGoodD (drecsOf theView), plainGoodE theView (looseW theView []), plainGoodD theView []) := by kernel_rfl
theorem lk5 (w : World) : (fun os => (wideSeen theView (⟨hp292 w.params, Array.mk [], {}, 518, os⟩ : Shared), clsSeenW theView [] (⟨hp292 w.params, Array.mk [], {}, 518, os⟩ : Shared))) = fun _ => (wideGood theView, clsGoodW theView []) := by kernel_rfl
theorem look2 (w : World) : (fun os => openSeen theView [] (importedModules PySem.Challenge.rw_on0233_01.row.prog.main.body) (fun s => xlAt theView [] s && recOk (RowW.records PySem.Challenge.rw_on0233_01.row.toRowW) s) true (⟨hp292 w.params, Array.mk [], {}, 518, os⟩ : Shared)) = fun _ => openGood theView [] := by
  funext os
  have h4 := congrFun (lk4 w) os
  have h5 := congrFun (lk5 w) os
  injection h4 with h4 h6
  injection h6 with h6 h7
  injection h5 with h5 h8
  exact looks_pair (congrFun (lk0 w) os) (looks_pair (congrFun (lk1 w) os) (looks_pair (congrFun (lk2 w) os) (looks_pair (congrFun (lk3 w) os) (looks_pair h4 (looks_pair h6 (looks_pair h7 (looks_pair h5 h8)))))))
theorem look3 (w : World) : (fun os => (Hook.obs theHook) (⟨hp292 w.params, Array.mk [], {}, 518, os⟩ : Shared)) = fun _ => (Hook.val theHook) w := by kernel_rfl
theorem left : LeftO PySem.Challenge.rw_on0233_01.row.prog theView [] (fun s => xlAt theView [] s && recOk (RowW.records PySem.Challenge.rw_on0233_01.row.toRowW) s) (Hook.obs theHook) (Hook.val theHook) 3272 true :=
  LeftO.of_pieces (H₀ := boot_heap) (H₁ := hp292) (boot_open (by kernel_rfl) rfl (fun s => by kernel_rfl)) (m₀ := 11) (ann := (some (Value.ref 6))) (fun w => by kernel_rfl) run (by rfl)
    (fun w => funext fun os => Prod.ext (congrFun (look1 w) os) (Prod.ext (congrFun (look2 w) os) (congrFun (look3 w) os)))
theorem nr_split (lk : Look) : ∀ (d : Nat) (l : List Stmt), noRoadLSs lk l = (noRoadLSs lk (l.take d) && noRoadLSs lk (l.drop d))
  | 0, _ => rfl
  | _ + 1, [] => rfl
  | d + 1, s :: r => by
    show (noRoadLS lk s && noRoadLSs lk r) = ((noRoadLS lk s && noRoadLSs lk (r.take d)) && noRoadLSs lk (r.drop d))
    rw [nr_split lk d r, Bool.and_assoc]
theorem ws : PySem.Challenge.rw_on0233_01.wellSaid = true := by
  unfold OpenLaw.wellSaid OpenRow.wellSaid OpenRow.partSaid looksOpen
  repeat' (with_reducible refine look_both ?_ ?_)
  all_goals try (with_reducible refine (nr_split _ 16 _).trans (look_both ?_ ?_))
  all_goals first
  | (rw [PySem.W.Fast.te8377067652309620493]; decide +kernel)
  | decide +kernel
end Mine
namespace Mine
theorem fill_head : PySem.Challenge.rw_on0233_01.prog = PySem.Challenge.rw_on0233_01.prog ∧ ∀ w, (theHeap w) = (theHeap w) := by
  k_fill
  exact ⟨rfl, fun _ => rfl⟩
theorem hd {d : DefRec} {kwd : List (Str × PySem.Expr)} (hdef : defOf theView PySem.Challenge.rw_on0233_01.row.name = some (d, kwd)) (hp : PySem.Challenge.rw_on0233_01.row.prog.theDef PySem.Challenge.rw_on0233_01.row.name = some (d.params, d.body, d.scope)) (hk : kwWritten? d.params.kwonlyargs d.params.kw_defaults = some kwd)
    (hc : WalkO theView [] (XL theView []) (Hook.says theHook) PySem.Challenge.rw_on0233_01.row.toRowW d kwd fun f vs => PySem.call f vs) : PySem.Challenge.rw_on0233_01.Holds := by
  w_on
  refine holds_law ws fun said => ?_
  refine holds_open (q := theView) (loose := []) (Xt := fun s => xlAt theView [] s && recOk (RowW.records PySem.Challenge.rw_on0233_01.row.toRowW) s) (XP := XL theView []) (Yf := Hook.obs theHook) (Ya := Hook.val theHook) (YP := Hook.says theHook) (N := 3272) left (Hook.of theHook) (Hook.keeps theHook) (fun s e => xl_of s (Bool.and_eq_true_iff.mp e).1) XL.keeps hdef hp hk (fun s e => recFacts_of (Bool.and_eq_true_iff.mp e).2) rfl (by first | assumption | decide +kernel) (by decide +kernel) ⟨rfl, rfl, rfl, rfl, rfl, by decide +kernel⟩ ?hw hc
  case hw => w_witness2
end Mine

namespace Mine
theorem slot_by_join : Slot "bytes" "join" "bytes.join" :=
  .of (owner := "bytes") (n := "join") (by rw [typeLookup_type, builtinLookup_eq_fast]; kernel_rfl) (by decide +kernel) (by decide +kernel) (by decide +kernel)
    (by first | exact .inl (by decide +kernel) | exact .inr (by decide +kernel)) (by rw [isSubtype_type]; kernel_rfl)
theorem type_by_join : typeOf (.builtin "bytes.join") = pure (.type "method_descriptor") := by show builtinType _ = _; rw [builtinType_eq_fast]; kernel_rfl
theorem entry_by_join : entryFor table "bytes.join" = some Builtin.«bytes.join» := entryFor_of_tree (by kernel_rfl)
theorem args_by_join (a b : Value) : argsOk "bytes.join" ⟨[a, b], []⟩ := by
  unfold argsOk; rw [signature?_of (id := "bytes.join") (n := ['n', 'i', 'o', 'j']) (o := ['s', 'e', 't', 'y', 'b']) (by kernel_rfl) FB.owner_bytes]; kernel_rfl
theorem buffer_full {id : String} {b : Array UInt8} {t : Tok} {f : Bool} : Builtin.Bytes.buffer? id (.bytes b t) f = pure (some b) := by
  unfold Builtin.Bytes.buffer?
  rw [KBy.special_eq KBy.look_buffer, KBy.own_buffer, KBy.own_release]
  kernel_rfl
theorem take_eq {id : String} {b : Array UInt8} {t : Tok} : Builtin.Bytes.takeBufferQuiet? id (.bytes b t) 0 = pure (some (b, none)) := by
  unfold Builtin.Bytes.takeBufferQuiet? Builtin.Bytes.takeBuffer?
  rw [KBy.special_eq KBy.look_buffer, KBy.own_buffer]
  simp only [pure_bind]
  rw [buffer_full]
  kernel_rfl
/-- texts of octets -/
noncomputable abbrev byVals (l : List (Array UInt8 × Tok)) : List Value := l.map fun p => .bytes p.1 p.2
theorem joined_nil (ps : List (Array UInt8)) : Builtin.Bytes.joined #[] ps = (ps.map Array.toList).flatten.toArray := by
  unfold Builtin.Bytes.joined
  have key : ∀ (l : List (Array UInt8)) (k : Nat) (acc : Array UInt8), (l.zipIdx k).foldl (fun out (x : Array UInt8 × Nat) => (if x.2 > 0 then out ++ #[] else out) ++ x.1) acc = acc ++ (l.map Array.toList).flatten.toArray := by
    intro l
    induction l with
    | nil => intro k acc; simp
    | cons p r ih =>
      intro k acc
      rw [List.zipIdx_cons, List.foldl_cons, ih]
      have e : (if k > 0 then acc ++ #[] else acc) = acc := by split <;> simp
      rw [e]
      apply Array.ext'
      simp
  have := key ps 0 #[]
  simpa using this
theorem let_join {M : Model} {A : Around} {E : Value → Shared → Prop} {s : Shared} {Q : Unit → Shared → Prop} : ∀ (l : List (Array UInt8 × Tok)) (keep : List Value), Q () s →
    wpAny M A (Builtin.Bytes.joinLetGo (l.map fun p => ((Value.bytes p.1 p.2, none) : Value × Option Value)) keep) Q E s
  | [], _, h => wpAny_pure h
  | p :: r, keep, h => wpAny_bind (wpAny_bind (wpAny_holding (wpAny_point (wpAny_pure (let_join r keep h)))))
theorem meets_join (a : Addr) (t : Tok) (l : List (Array UInt8 × Tok)) : Meets (Builtin.«bytes.join» ⟨[.bytes #[] t, .ref a], []⟩)
    (fun _ R s => s.heap.IsList a (byVals l).toArray ∧ l.length ≤ 1000 ∧ (Builtin.Bytes.joined #[] (l.map (·.1))).size ≤ sizeLine ∧ ((l.map (·.1)).toArray.foldl (fun n p => n + p.size) 0) ≤ sizeLine ∧ ∀ t' k, R (.ok (.ret (.bytes (Builtin.Bytes.joined #[] (l.map (·.1))) t'))) { s with toks := k }) := by
  refine .of_wp fun prog w A R s hS => ?_
  obtain ⟨⟨o, ho, hc, n, hd⟩, hl, hsz, hsz2, h⟩ := hS
  have hT : s.TypeIs (.ref a) "list" := ⟨o, ho, hc⟩
  unfold Builtin.«bytes.join» Builtin.Bytes.joinM
  refine wpAny_bind (wpAny_of_eq (a := (Value.bytes #[] t, Value.ref a)) rfl ?_)
  dsimp only
  refine wpAny_bind ?_
  unfold Builtin.Bytes.joinItems
  refine wpAny_bind (wpAny_typeOf hT ?_)
  rw [if_pos (by rfl)]
  refine wpAny_pure ?_
  refine wpAny_bind (wpAny_seqItems ho hd ?_)
  dsimp only
  rw [if_pos (by rfl)]
  rcases l with _ | ⟨p, _ | ⟨q, r⟩⟩
  case' cons.nil =>
    refine wpAny_bind (wpAny_typeOf (v := .bytes p.1 p.2) (typeIs_bytes _ _ _) ?_)
    rw [if_pos (by rfl)]
    refine wpAny_bind (wpAny_rule ?_)
    refine wpAny_bind (wpAny_pure ?_)
    have e : Builtin.Bytes.joined #[] ([p].map (·.1)) = p.1 := by rw [joined_nil]; simp
    rw [e] at h
    exact wpAny_pure ⟨_, rfl, h p.2 s.toks⟩
  case nil =>
    refine (show wpAny _ _ (Bind.bind (forIn [:0] (#[], []) _) _) _ _ _ from ?_)
    refine wpAny_bind ?_
    rw [Std.Legacy.Range.forIn_eq_forIn_range']
    refine wpAny_pure ?_
    dsimp only
    refine wpAny_bind (wpAny_of_eq (a := #[]) rfl ?_)
    rw [if_neg (by decide)]
    refine wpAny_bind (wpAny_mkBytes ?_ hsz)
    refine wpAny_bind (wpAny_holding (wpAny_point ?_))
    refine wpAny_bind (wpAny_pure ?_)
    exact wpAny_pure ⟨_, rfl, h s.toks (s.toks + 1)⟩
  case' cons.cons =>
    refine (show wpAny _ _ (Bind.bind (forIn [:(byVals (p :: q :: r)).toArray.size] (#[], []) _) _) _ _ _ from ?_)
    generalize hL : (p :: q :: r) = l at *
  case' cons.cons =>
    clear hL
    refine wpAny_bind ?_
    rw [Std.Legacy.Range.forIn_eq_forIn_range']
    simp only [Std.Legacy.Range.size, Nat.sub_zero, Nat.add_sub_cancel, Nat.div_one]
    rw [show (byVals l).toArray.size = l.length by simp]
    refine wpAny_forIn_list _
      (fun rest' r s' => ∃ i, rest' = List.range' i (l.length - i) ∧ i ≤ l.length ∧ r = (⟨((l.take i).map (·.1)).toArray, (l.take i).map fun p => (Value.bytes p.1 p.2, none)⟩ : (Array (Array UInt8) × List (Value × Option Value))) ∧ s' = s)
      _ ?_ ?_ _ _ ⟨0, by simp, Nat.zero_le _, by simp, rfl⟩
    · rintro x rest' _ s' ⟨i, hr, hi, rfl, rfl⟩
      have hlt : i < l.length := by
        rcases Nat.lt_or_ge i l.length with h | h
        · exact h
        · rw [Nat.sub_eq_zero_of_le h] at hr; simp at hr
      obtain ⟨rfl, hrest⟩ : x = i ∧ rest' = List.range' (i + 1) (l.length - (i + 1)) := by
        have e : l.length - i = (l.length - (i + 1)) + 1 := by omega
        rw [e, List.range'_succ] at hr
        injection hr with h1 h2
        exact ⟨h1, h2⟩
      dsimp only
      refine wpAny_bind (wpAny_seqItems ho hd ?_)
      dsimp only
      have hany : ((l.take x).map fun p => ((Value.bytes p.1 p.2, none) : Value × Option Value)).any (fun y => y.1.onHeap) = false := by
        rw [List.any_eq_false]
        intro y hy
        obtain ⟨p, _, rfl⟩ := List.mem_map.mp hy
        exact Bool.false_ne_true
      have hg : (byVals l).toArray.getD x .none = .bytes l[x].1 l[x].2 := by simp [hlt]
      rw [hg, hany, if_neg (by decide)]
      refine wpAny_bind (wpAny_holding (wpAny_of_eq take_eq ?_))
      dsimp only
      refine wpAny_bind (wpAny_seqItems ho hd ?_)
      dsimp only
      rw [if_neg (by simp)]
      refine wpAny_pure ⟨x + 1, hrest, hlt, ?_, rfl⟩
      rw [List.take_add_one, List.getElem?_eq_getElem hlt, List.map_append, List.map_append]
      simp only [Option.toList_some, List.map_cons, List.map_nil]
      rw [List.push_toArray]
    · rintro _ s' ⟨i, hr, hi, rfl, rfl⟩
      have hi' : i = l.length := by
        rcases Nat.lt_or_ge i l.length with h | h
        · have e : l.length - i = (l.length - (i + 1)) + 1 := by omega
          rw [e, List.range'_succ] at hr; cases hr
        · omega
      subst hi'
      rw [List.take_length]
      dsimp only
      refine wpAny_bind (wpAny_of_eq (a := #[]) rfl ?_)
      rw [if_neg ?g]
      case g =>
        have z : Array.foldl (fun x1 x2 => x1 + x2.size) ((#[] : Array UInt8).size * ((l.map (·.1)).toArray.size - 1)) (l.map (·.1)).toArray ≤ sizeLine := by
          rw [show (#[] : Array UInt8).size * ((l.map (·.1)).toArray.size - 1) = 0 by simp]
          exact hsz2
        unfold Builtin.Bytes.tooLong
        rw [decide_eq_true_eq]
        exact Nat.not_lt.mpr z
      refine wpAny_bind (wpAny_mkBytes ?_ hsz)
      refine wpAny_bind (wpAny_holding (wpAny_point ?_))
      refine wpAny_bind (let_join _ _ ?_)
      have := h s'.toks (s'.toks + 1)
      exact wpAny_pure ⟨_, rfl, this⟩
end Mine

namespace Mine
section
variable {p q r t u z : Prop} {a b c : Nat}
theorem cR (h : p ∧ q ∧ r ∧ t ∧ u ∧ z) : z := h.2.2.2.2.2
theorem lA0 (h : a < b ∧ z) : a < b := h.1
theorem lA1 (h : p ∧ a < b ∧ z) : a < b := h.2.1
theorem lA2 (h : p ∧ q ∧ a < b ∧ z) : a < b := h.2.2.1
theorem lA3 (h : p ∧ q ∧ r ∧ a < b ∧ z) : a < b := h.2.2.2.1
theorem lA4 (h : p ∧ q ∧ r ∧ t ∧ a < b ∧ z) : a < b := h.2.2.2.2.1
theorem lE1 (h : p ∧ a < b) : a < b := h.2
theorem lE2 (h : p ∧ q ∧ a < b) : a < b := h.2.2
theorem lE3 (h : p ∧ q ∧ r ∧ a < b) : a < b := h.2.2.2
theorem lE4 (h : p ∧ q ∧ r ∧ t ∧ a < b) : a < b := h.2.2.2.2
theorem lE5 (h : p ∧ q ∧ r ∧ t ∧ u ∧ a < b) : a < b := h.2.2.2.2.2
theorem eA0 (h : a ≠ b ∧ z) : a ≠ b := h.1
theorem eA1 (h : p ∧ a ≠ b ∧ z) : a ≠ b := h.2.1
theorem eA2 (h : p ∧ q ∧ a ≠ b ∧ z) : a ≠ b := h.2.2.1
theorem eA3 (h : p ∧ q ∧ r ∧ a ≠ b ∧ z) : a ≠ b := h.2.2.2.1
theorem eA4 (h : p ∧ q ∧ r ∧ t ∧ a ≠ b ∧ z) : a ≠ b := h.2.2.2.2.1
theorem cF {w : Prop} (f : z → w) (h : p ∧ q ∧ r ∧ t ∧ u ∧ z) : w := f h.2.2.2.2.2
theorem pL {x : Nat} (h : x < b ∧ z) (f : x < b ∧ z → a < b) : a < b := f h
theorem pN {x : Nat} (h : x ≠ b ∧ z) (f : x ≠ b ∧ z → a ≠ b) : a ≠ b := f h
theorem eE1 (h : p ∧ a ≠ b) : a ≠ b := h.2
theorem eE2 (h : p ∧ q ∧ a ≠ b) : a ≠ b := h.2.2
theorem eE3 (h : p ∧ q ∧ r ∧ a ≠ b) : a ≠ b := h.2.2.2
theorem eE4 (h : p ∧ q ∧ r ∧ t ∧ a ≠ b) : a ≠ b := h.2.2.2.2
theorem eE5 (h : p ∧ q ∧ r ∧ t ∧ u ∧ a ≠ b) : a ≠ b := h.2.2.2.2.2
theorem nT (h : b < c) (h' : a < b) : a ≠ c := Nat.ne_of_lt (Nat.lt_trans h' h)
theorem nS1 (h : a < b) : a ≠ b + 1 := Nat.ne_of_lt (Nat.lt_succ_of_lt h)
theorem nS2 (h : a < b) : a ≠ b + 1 + 1 := Nat.ne_of_lt (Nat.lt_succ_of_lt (Nat.lt_succ_of_lt h))
theorem nS3 (h : a < b) : a ≠ b + 1 + 1 + 1 := Nat.ne_of_lt (Nat.lt_succ_of_lt (Nat.lt_succ_of_lt (Nat.lt_succ_of_lt h)))
theorem nS4 (h : a < b) : a ≠ b + 1 + 1 + 1 + 1 := Nat.ne_of_lt (Nat.lt_succ_of_lt (Nat.lt_succ_of_lt (Nat.lt_succ_of_lt (Nat.lt_succ_of_lt h))))
theorem leS1 (h : a + 1 < b) : a ≤ b := Nat.le_of_lt (Nat.lt_of_succ_lt h)
theorem oN1 {a b c : Nat} (h : b ≤ c) (h' : a ≤ b) : a ≤ c := Nat.le_trans h' h
theorem oN2 {a b c : Nat} (h : a ≤ b) (h' : b ≤ c) : a ≤ c := Nat.le_trans h h'
theorem oN3 {a b c : Nat} (h : b ≤ c) (h' : a < b) : a < c := Nat.lt_of_lt_of_le h' h
theorem oN4 {a b c : Nat} (h : b < c) (h' : a ≤ b) : a < c := Nat.lt_of_le_of_lt h' h
theorem oN5 {a b c : Nat} (h : a ≤ b) (h' : b < c) : a < c := Nat.lt_of_le_of_lt h h'
theorem oN6 {a b c : Nat} (h : a < b) (h' : b ≤ c) : a < c := Nat.lt_of_lt_of_le h h'
theorem oN7 {a b c : Nat} (h : a < b) (h' : b ≤ c) : a ≤ c := Nat.le_of_lt (Nat.lt_of_lt_of_le h h')
theorem oN8 {a b c : Nat} (h : b < c) (h' : a ≤ b) : a ≤ c := Nat.le_of_lt (Nat.lt_of_le_of_lt h' h)
theorem oI1 {a b c : Int} (h : b ≤ c) (h' : a ≤ b) : a ≤ c := Int.le_trans h' h
theorem oI2 {a b c : Int} (h : a ≤ b) (h' : b ≤ c) : a ≤ c := Int.le_trans h h'
theorem oI3 {a b c : Int} (h : b ≤ c) (h' : a < b) : a < c := Int.lt_of_lt_of_le h' h
theorem oI4 {a b c : Int} (h : b < c) (h' : a ≤ b) : a < c := Int.lt_of_le_of_lt h' h
theorem oI5 {a b c : Int} (h : a ≤ b) (h' : b < c) : a < c := Int.lt_of_le_of_lt h h'
theorem oI6 {a b c : Int} (h : a < b) (h' : b ≤ c) : a < c := Int.lt_of_lt_of_le h h'
theorem oI7 {a b c : Int} (h : a < b) (h' : b ≤ c) : a ≤ c := Int.le_of_lt (Int.lt_of_lt_of_le h h')
theorem oI8 {a b c : Int} (h : b < c) (h' : a ≤ b) : a ≤ c := Int.le_of_lt (Int.lt_of_le_of_lt h' h)
theorem nS5 (h : a < b) : a ≠ b + 1 + 1 + 1 + 1 + 1 := by omega
theorem nS6 (h : a < b) : a ≠ b + 1 + 1 + 1 + 1 + 1 + 1 := by omega
theorem n05 : a ≠ a + 1 + 1 + 1 + 1 + 1 := by omega
theorem n01 : a ≠ a + 1 := by omega
theorem n02 : a ≠ a + 1 + 1 := by omega
theorem n03 : a ≠ a + 1 + 1 + 1 := by omega
theorem n04 : a ≠ a + 1 + 1 + 1 + 1 := by omega
end
end Mine

namespace Mine

/-- this Around stands at most so deep -/
structure Lo (A : Around) (D U : Nat) (env : Env) (outer : List Env) : Prop where
  handled : A.handled = none
  depth : A.depth ≤ D
  frames : A.frames = some (env :: outer)
  guards : A.guards = some []
  units : A.units ≤ U

noncomputable abbrev AtD (D U : Nat) (env : Env) (outer : List Env) : Around := { handled := none, depth := D, frames := some (env :: outer), guards := some [], units := U }

theorem Lo.ctx {A : Around} {D U : Nat} {env : Env} {outer : List Env} (l : Lo A D U env outer) {Γ : Ctx} (h : Γ.In A) : Γ.In (AtD D U env outer) := by
  obtain ⟨h1, h2, h3, h4, h5⟩ := h
  refine ⟨h1.trans l.handled, Nat.le_trans h2 l.depth, fun l' hl => ?_, fun g hg => ?_, Nat.le_trans h5 l.units⟩
  · exact h3 l' (l.frames.trans hl)
  · exact h4 g (l.guards.trans hg)

theorem Lo.wp {A : Around} {D U : Nat} {env : Env} {outer : List Env} (l : Lo A D U env outer) {α : Type} {M : Model} {t : Sem α} {Q : α → Shared → Prop} {E : Value → Shared → Prop} {s : Shared}
    (h : wpAny M (AtD D U env outer) t Q E s) : wpAny M A t Q E s := fun Γ p hΓ => h Γ p (l.ctx hΓ)

/-- where a call of the text's own stands -/
structure Cx (w : World) (pT : Program) (lT : List Str) (mean : ExcName → Option Value) (mg mb : Str → Option Value) (A A₀ : Around) (D U : Nat) (base h₀ : Heap) (outer : List Env) (env : Env) (L : Addr) (m : Str → Option Value) (h : Heap) : Prop where
  lo : Lo A D U env outer
  fr : env.frame = some L
  kind : env.scope.kind = .function
  below : Below A₀ base outer h₀
  frame : Fr h₀ L h m
  keep : (theHeap w.params).In h₀
  top : Top pT lT mean mg mb h₀

theorem news_sub {h₀ h : Heap} {L : Addr} {l l' : List (Addr × Obj)} (N : News h₀ L h l) (hs : ∀ p ∈ l', p ∈ l) : News h₀ L h l' := fun p hp => N p (hs p hp)

/-- all that stood stands, but the named -/
noncomputable def Kept (mods : List Addr) (h h' : Heap) : Prop := ∀ b o, h.get? b = some o → b ∉ mods → h'.get? b = some o
theorem Kept.refl {mods : List Addr} {h : Heap} : Kept mods h h := fun _ _ e _ => e

/-- the ground of a call's own frame: all of the caller's heap but the ledger -/
structure Gr (h g : Heap) (news : List (Addr × Obj)) : Prop where
  keep : ∀ b o, h.get? b = some o → b ∉ news.map (·.1) → g.get? b = some o
  back : ∀ b o, g.get? b = some o → h.get? b = some o
  size : g.objs.size = h.objs.size
  hid : ∀ p ∈ news, g.get? p.1 = none
  now : ∀ p ∈ news, h.get? p.1 = some p.2

theorem enter {prog : Program} {w : World} {pT : Program} {lT : List Str} {mean : ExcName → Option Value} {mg mb : Str → Option Value} {A A₀ : Around} {D U : Nat} {base h₀ : Heap} {outer : List Env} {env : Env} {L : Addr} {m : Str → Option Value} {s : Shared} {news : List (Addr × Obj)}
    {R : Result → Shared → Prop} {name qual : Str} {params : Arguments} {body : List Stmt} {scope : Scope} {dV kV doc pm cdv ct oc : Value} {an od : Option Addr} {osl : Array (Option Value)} {f : Addr} {args : Args} {binds : List (Str × Value)}
    (C : Cx w pT lT mean mg mb A A₀ D U base h₀ outer env L m s.heap) (N : News h₀ L s.heap news)
    (ho : (theHeap w.params).lookup f = some ⟨oc, od, .func (fnOf name qual params body scope dV kV doc pm an cdv ct), osl⟩) (hcd : codeIn (theHeap w.params) cdv qual = true) (hroom : D < recursionLimit)
    (hbind : BindsTo s (fnOf name qual params body scope dV kV doc pm an cdv ct) args binds) (hloc : ∀ y ∈ binds, scope.names.lookup y.1 = some .local)
    (h : ∀ g L' h₁, Gr s.heap g news → s.heap.get? L' = none → Fr g L' h₁ (fun y => binds.reverse.lookup y) → News g L' h₁ news → Below (AtD D U env outer) base (env :: outer) g → (theHeap w.params).In g → Top pT lT mean mg mb g →
      wpAny (model prog w) ((AtD D U env outer).deeper (envOf qual scope L' f cdv)) (execs body (envOf qual scope L' f cdv))
        (fun fl s' => LeaveK h₀ L m g R (match fl with | .ret v => v | _ => .none) s')
        (fun e s' => wpAny (model prog w) ((AtD D U env outer).deeper (envOf qual scope L' f cdv)) (leaving (envOf qual scope L' f cdv) e) (fun _ s'' => R (.error e) s'') (fun e' s'' => R (.error e') s'') s')
        { s with heap := h₁, toks := s.toks + binds.length })
    (hco : scope.isCoroutine = false := by exact rfl) (hgen : scope.isGenerator = false := by exact rfl) (hk : scope.kind = .function := by exact rfl)
    (hcell : ∀ x ∈ scope.names, x.2 ≠ .cell := by decide) : codeAny (model prog w) (AtD D U env outer) (.call (.ref f) args) R s := by
  obtain ⟨lo, hf, hke, B, F, X₀, T⟩ := C
  have X := X₀.keeps F.keep
  have hkm : env.scope.kind ≠ .module := by rw [hke]; decide
  refine codeAny_call_def (fd := fnOf name qual params body scope dV kV doc pm an cdv ct) (body := body) (binds := binds) hroom (X _ _ ho) rfl (T.nolimit.keeps F.keep) (codeRec_of X hcd) rfl hbind hcell hloc (fun h₁ hns up => ?_) hco hgen hk
  have off : ∀ b o, h₀.get? b = some o → b ∉ news.map (·.1) := fun b o e q => by
    obtain ⟨p, hp, rfl⟩ := List.mem_map.mp q
    have := (N p hp).2.2
    rw [this] at e; cases e
  have offL : L ∉ news.map (·.1) := fun q => by
    obtain ⟨p, hp, e⟩ := List.mem_map.mp q
    exact (N p hp).2.1 e
  have G : Gr s.heap (hideAll s.heap (news.map (·.1))) news := ⟨fun b o e n => hideAll_get _ e n, fun b o e => of_hideAll _ e, hideAll_size _ _, fun p hp => hideAll_none _ (List.mem_map_of_mem hp), fun p hp => (N p hp).1⟩
  have st : h₀.StaysIn (hideAll s.heap (news.map (·.1))) := fun b o e => G.keep b o (F.keep b o e) (off b o e)
  obtain ⟨oL, es, ep, hL, hLd, hLk, hLf⟩ := F.ns
  have hLg := G.keep L oL hL offL
  have bL : base.get? L = none := by
    cases q : base.get? L with
    | none => rfl
    | some o => exact absurd (Nat.lt_of_lt_of_le (Heap.lt_size (B.stays L o q)) F.above) (Nat.lt_irrefl _)
  have B₂ : Below (AtD D U env outer) base (env :: outer) (hideAll s.heap (news.map (·.1))) := by
    refine ⟨rfl, fun b o e => st b o (B.stays b o e), ?_⟩
    refine Heap.FunFrames.cons hkm hf ⟨oL, es, ep, hLg, hLd, hLk, hLf⟩ bL ?_
    exact B.frames.of_keeps fun b o e _ => ⟨o, st b o e, rfl⟩
  have F₂ : Fr (hideAll s.heap (news.map (·.1))) s.heap.objs.size h₁ (fun y => binds.reverse.lookup y) :=
    ⟨hns, fun b o e => up b o (G.back b o e), Nat.le_of_eq G.size⟩
  have N₂ : News (hideAll s.heap (news.map (·.1))) s.heap.objs.size h₁ news := fun p hp =>
    ⟨up _ _ (N p hp).1, Nat.ne_of_lt (Heap.lt_size (N p hp).1), hideAll_none _ (List.mem_map_of_mem hp)⟩
  refine wpAny_mono (h _ s.heap.objs.size h₁ G (Heap.get?_none_of_le (Nat.le_refl _)) F₂ N₂ B₂ (X₀.keeps st) (T.keeps st)) (fun fl s' hl => ?_) fun _ _ y => y
  obtain ⟨L', m', news', F', N', k⟩ := hl
  refine k ⟨⟨oL, es, ep, F'.keep L oL hLg, hLd, hLk, hLf⟩, fun b o e => F'.keep b o (st b o e), F.above⟩ fun p hp => ⟨(N' p hp).1, fun q => ?_, ?_⟩
  · have := (N' p hp).2.2
    rw [q, hLg] at this; cases this
  · cases q : h₀.get? p.1 with
    | none => rfl
    | some o =>
      have := (N' p hp).2.2
      rw [st _ _ q] at this; cases this

theorem enter_call {prog : Program} {w : World} {pT : Program} {lT : List Str} {mean : ExcName → Option Value} {mg mb : Str → Option Value} {A A₀ : Around} {D U : Nat} {base h₀ : Heap} {outer : List Env} {env : Env} {L : Addr} {m : Str → Option Value} {s : Shared} {news : List (Addr × Obj)}
    {Q E : Value → Shared → Prop} {name qual : Str} {params : Arguments} {body : List Stmt} {scope : Scope} {dV kV doc pm cdv ct oc : Value} {an od : Option Addr} {osl : Array (Option Value)} {f : Addr} {pos : List Value} {kw : List (Str × Value)} {binds : List (Str × Value)}
    (C : Cx w pT lT mean mg mb A A₀ D U base h₀ outer env L m s.heap) (N : News h₀ L s.heap news)
    (ho : (theHeap w.params).lookup f = some ⟨oc, od, .func (fnOf name qual params body scope dV kV doc pm an cdv ct), osl⟩) (hcd : codeIn (theHeap w.params) cdv qual = true) (hroom : D < recursionLimit)
    (hbind : BindsTo s (fnOf name qual params body scope dV kV doc pm an cdv ct) ⟨pos, kw⟩ binds) (hloc : ∀ y ∈ binds, scope.names.lookup y.1 = some .local)
    (h : ∀ g L' h₁, (theHeap w.params).In h₀ → Top pT lT mean mg mb h₀ → Gr s.heap g news → s.heap.get? L' = none → Fr g L' h₁ (fun y => binds.reverse.lookup y) → News g L' h₁ news → Below (AtD D U env outer) base (env :: outer) g → (theHeap w.params).In g → Top pT lT mean mg mb g →
      wpAny (model prog w) ((AtD D U env outer).deeper (envOf qual scope L' f cdv)) (execs body (envOf qual scope L' f cdv))
        (fun fl s' => LeaveK h₀ L m g (fun r s' => match r with | .ok (.ret v) => Q v s' | .ok _ => False | .error e => E e s') (match fl with | .ret v => v | _ => .none) s')
        (fun e s' => wpAny (model prog w) ((AtD D U env outer).deeper (envOf qual scope L' f cdv)) (leaving (envOf qual scope L' f cdv) e) (fun _ s'' => E e s'') (fun e' s'' => E e' s'') s')
        { s with heap := h₁, toks := s.toks + binds.length })
    (hco : scope.isCoroutine = false := by exact rfl) (hgen : scope.isGenerator = false := by exact rfl) (hk : scope.kind = .function := by exact rfl)
    (hcell : ∀ x ∈ scope.names, x.2 ≠ .cell := by decide) : wpAny (model prog w) A (call (.ref f) pos kw) Q E s :=
  C.lo.wp (wpAny_call (enter C N ho hcd hroom hbind hloc (fun g L' h₁ => h g L' h₁ C.keep C.top) hco hgen hk hcell))

theorem kept_of {h g h' : Heap} {L : Addr} {m : Str → Option Value} {news : List (Addr × Obj)} {mods : List Addr} (G : Gr h g news) (F : Fr g L h' m) (e : news.map (·.1) = mods) : Kept mods h h' := e ▸ fun b o e n => F.keep b o (G.keep b o e n)
theorem Gr.kept {h g h' : Heap} {L : Addr} {m : Str → Option Value} {news : List (Addr × Obj)} (G : Gr h g news) (F : Fr g L h' m) : Kept (news.map (·.1)) h h' := fun b o e n => F.keep b o (G.keep b o e n)
/-- what is new for the callee's ground is new for the caller's heap -/
theorem Gr.fresh {h g : Heap} {L l : Addr} {h' : Heap} {news news' : List (Addr × Obj)} {o : Obj} (G : Gr h g news) (N : News g L h' news') (hm : (l, o) ∈ news') (hne : l ∉ news.map (·.1)) : h.get? l = none := by
  cases q : h.get? l with
  | none => rfl
  | some o' =>
    have := (N _ hm).2.2
    rw [G.keep _ _ q hne] at this; cases this
theorem lift_list {h g : Heap} {news : List (Addr × Obj)} {l : Addr} {its : Array Value} (G : Gr h g news) (hl : h.IsList l its) (n : l ∉ news.map (·.1)) : g.IsList l its := let ⟨o, ho, r⟩ := hl; ⟨o, G.keep _ _ ho n, r⟩

/-- a ledger behind a call that changed one object and made others -/
theorem back1 {h₀ h h' : Heap} {L src : Addr} {o o' : Obj} {news new : List (Addr × Obj)} {g : Obj → List (Addr × Obj)} (U : UpdF src o news g) (N : News h₀ L h news) (N' : News h₀ L h' ((src, o') :: new)) (K : Kept [src] h h') : News h₀ L h' (new ++ g o') := by
  obtain ⟨pre, post, rfl, hg, a, b⟩ := U.split
  rw [hg]
  intro p hp
  rcases List.mem_append.mp hp with hp | hp
  · exact N' p (.tail _ hp)
  · rcases List.mem_append.mp hp with hp | hp
    · have := N p (List.mem_append_left _ hp)
      exact ⟨K _ _ this.1 (by simpa using a p hp), this.2⟩
    · rcases List.mem_cons.mp hp with rfl | hp
      · exact N' _ (.head _)
      · have := N p (List.mem_append_right _ (.tail _ hp))
        exact ⟨K _ _ this.1 (by simpa using b p hp), this.2⟩
theorem back0 {h₀ h h' : Heap} {L : Addr} {news new : List (Addr × Obj)} (N : News h₀ L h news) (N' : News h₀ L h' new) (K : Kept [] h h') : News h₀ L h' (new ++ news) := by
  intro p hp
  rcases List.mem_append.mp hp with hp | hp
  · exact N' p hp
  · exact ⟨K _ _ (N p hp).1 (by simp), (N p hp).2⟩
theorem of_upd {h₀ h : Heap} {L src : Addr} {o : Obj} {news : List (Addr × Obj)} {g : Obj → List (Addr × Obj)} (U : UpdF src o news g) (N : News h₀ L h news) : News h₀ L h [(src, o)] := by
  obtain ⟨pre, post, rfl, hg, a, b⟩ := U.split
  intro p hp
  rw [List.mem_singleton.mp hp]
  exact N _ (List.mem_append_right _ (.head _))
noncomputable def AllNe (d : Nat) : List (Addr × Obj) → Prop
  | [] => True
  | p :: r => (@Ne Nat p.1 d) ∧ AllNe d r
theorem new_ne {h₀ h : Heap} {L l : Addr} {news : List (Addr × Obj)} (N : News h₀ L h news) (hl : h.get? l = none) : AllNe l news := by
  have key : ∀ p ∈ news, p.1 ≠ l := fun p hp e => by
    have := (N p hp).1
    rw [e, hl] at this; cases this
  clear N
  induction news with
  | nil => trivial
  | cons p r ih => exact ⟨key p (.head _), ih fun q hq => key q (.tail _ hq)⟩

theorem off1 {a b : Addr} {o : Obj} (h : a ≠ b) : a ∉ [(b, o)].map (·.1) := fun q => h (List.mem_singleton.mp q)
/-- the law's purse of numbers -/
noncomputable def SrcOk (o : Obj) : Prop := ∃ (a b : Int) (ta tb : Tok) (n : Nat), o = W.listOf #[.int a ta, .int b tb] n ∧ 0 ≤ a ∧ 0 ≤ b ∧ b < 2147483647

theorem mulok {a b : Int} (h1 : 0 ≤ a) (h2 : a < 1099511627776) : IntMulOk a b := IntMulOk.of_left (intBits_le_64 (by omega) (by omega))
theorem fmod_in (x : Int) {n : Int} (h : 0 < n) : 0 ≤ x.fmod n ∧ x.fmod n < n := ⟨Int.fmod_nonneg_of_pos x h, Int.fmod_lt_of_pos x h⟩
theorem fdiv_nn {x n : Int} (hx : 0 ≤ x) (h : 0 < n) : 0 ≤ x.fdiv n := by
  rw [Int.fdiv_eq_ediv_of_nonneg _ (Int.le_of_lt h)]; exact Int.ediv_nonneg hx (Int.le_of_lt h)

end Mine

namespace Mine

section
variable {w : World} {pT : Program} {lT : List Str} {mean : ExcName → Option Value} {mg mb : Str → Option Value} {A A₀ : Around} {base h₀ : Heap} {outer : List Env} {env : Env} {L : Addr} {m : Str → Option Value} {s : Shared} {Q E : Value → Shared → Prop}

section
theorem take_core {src : Addr} {a b top : Int} {ta tb tt : Tok} {n : Nat}
    (C : Cx w pT lT mean mg mb A A₀ 500 1500 base h₀ outer env L m s.heap)
    (N : News h₀ L s.heap [(src, W.listOf #[.int a ta, .int b tb] n)])
    (ha : 0 ≤ a) (hb : 0 ≤ b) (hb' : b < 2147483647) (ht : 1 ≤ top) (ht' : top < 1000)
    (k : ∀ (r : Int) (tr : Tok) (o' : Obj) (h' : Heap) (tk' : Nat), 0 ≤ r → r < top → SrcOk o' → Fr h₀ L h' m → News h₀ L h' [(src, o')] → Kept [src] s.heap h' → Q (.int r tr) { s with heap := h', toks := tk' }) :
    wpAny (model PySem.Challenge.rw_on0233_01.row.prog w) A (call (.ref 179) [.ref src, .int top tt]) Q E s := by
  k_with_none
  k_with "omega" => first | with_reducible assumption | decide | (with_reducible exact oN1 (by with_reducible assumption) (by decide)) | (with_reducible exact oN2 (by with_reducible assumption) (by decide)) | (with_reducible exact oN3 (by with_reducible assumption) (by decide)) | (with_reducible exact oN4 (by with_reducible assumption) (by decide)) | (with_reducible exact oN5 (by with_reducible assumption) (by decide)) | (with_reducible exact oN6 (by with_reducible assumption) (by decide)) | (with_reducible exact oN7 (by with_reducible assumption) (by decide)) | (with_reducible exact oN8 (by with_reducible assumption) (by decide)) | (with_reducible exact oI1 (by with_reducible assumption) (by decide)) | (with_reducible exact oI2 (by with_reducible assumption) (by decide)) | (with_reducible exact oI3 (by with_reducible assumption) (by decide)) | (with_reducible exact oI4 (by with_reducible assumption) (by decide)) | (with_reducible exact oI5 (by with_reducible assumption) (by decide)) | (with_reducible exact oI6 (by with_reducible assumption) (by decide)) | (with_reducible exact oI7 (by with_reducible assumption) (by decide)) | (with_reducible exact oI8 (by with_reducible assumption) (by decide)) | fail
  k_with "k_pk" => first | exact lA0 | exact lA1 | exact lA2 | exact lA3 | exact lA4 | exact lE1 | exact lE2 | exact lE3 | exact lE4 | exact lE5 | (refine cF ?_; k_extra "k_pk")
  k_with "k_pe" => first | exact eA0 | exact eA1 | exact eA2 | exact eA3 | exact eA4 | exact eE1 | exact eE2 | exact eE3 | exact eE4 | exact eE5 | (refine cF ?_; k_extra "k_pe")
  k_with "k_ltN" => with_reducible first | assumption | exact pL (by with_reducible assumption) (by k_extra "k_pk")
  k_with "k_ne" => (refine neN ?_; (try dsimp only); first | (with_reducible first | exact n01 | exact n02 | exact n03 | exact n04 | exact n05 | exact n01.symm | exact n02.symm | exact n03.symm | exact n04.symm | exact n05.symm | with_reducible assumption | exact Ne.symm (by with_reducible assumption) | exact Nat.ne_of_lt (by k_extra "k_ltN") | exact Nat.ne_of_gt (by k_extra "k_ltN") | exact nS1 (by k_extra "k_ltN") | exact Ne.symm (nS1 (by k_extra "k_ltN")) | exact nS2 (by k_extra "k_ltN") | exact Ne.symm (nS2 (by k_extra "k_ltN")) | exact nS3 (by k_extra "k_ltN") | exact Ne.symm (nS3 (by k_extra "k_ltN")) | exact nS4 (by k_extra "k_ltN") | exact Ne.symm (nS4 (by k_extra "k_ltN")) | exact nS5 (by k_extra "k_ltN") | exact Ne.symm (nS5 (by k_extra "k_ltN")) | exact nS6 (by k_extra "k_ltN") | exact Ne.symm (nS6 (by k_extra "k_ltN")) | exact nT (by with_reducible assumption) (by k_extra "k_ltN") | exact Ne.symm (nT (by with_reducible assumption) (by k_extra "k_ltN")) | exact pN (by with_reducible assumption) (by k_extra "k_pe") | exact Ne.symm (pN (by with_reducible assumption) (by k_extra "k_pe"))) | omega)
  k_with "cell_enter" => ((refine' enter_call ?qzC ?qzN ?qzk6 ?qzk7 ?qzk8 ?qzk9 ?qzkB ?_ ?qzc2 ?qzc3 ?qzc4 ?qzc5; (case qzC => assumption); (case qzN => assumption); (case qzk6 => k_is); (case qzk7 => k_is); (case qzk8 => decide); (case qzk9 => exact BindsTo.of_eq rfl); (case qzc5 => decide); (case qzkB => exact locs rfl); (case qzc2 => exact rfl); (case qzc3 => exact rfl); (case qzc4 => exact rfl); k_whole; intro g'z L'z h'z X0'z T0'z G'z nL'z F'z N'z B'z X'z T'z; (try dsimp only); (try k_fold)))
  k_with "k_all" => (assumption)
  k_with "k_ne" => (assumption)
  k_with "mul_fits" => (with_unfolding_all exact mulok (fmod_in _ (n := 2147483647) (by decide)).1 (Int.lt_trans (fmod_in _ (by decide)).2 (by decide)))
  k_dflt cell_enter
  clear C N
  w_top off
  k_steps
  · have h0 := fmod_in a (n := top) (by omega)
    refine k _ _ _ _ _ h0.1 h0.2 ?_ (by assumption) (by assumption) (kept_of (by assumption) (by assumption) (by rfl))
    exact ⟨_, _, _, _, _, rfl, fdiv_nn (show 0 ≤ [a, b].getD (Int.toNat 0) 0 from ha) (show 0 < top by omega), hb, hb'⟩
  · have h0 := fmod_in (((b * 39373 + 7).fmod 2147483647 * (b * 39373 + 7).fmod 2147483647).fmod 2147483629 |>.fdiv 32) (n := top) (by omega)
    refine k _ _ _ _ _ h0.1 h0.2 ?_ (by assumption) (by assumption) (kept_of (by assumption) (by assumption) (by rfl))
    exact ⟨_, _, _, _, _, rfl, ha, (fmod_in _ (by decide)).1, (fmod_in _ (by decide)).2⟩
end
theorem take_spec {news : List (Addr × Obj)} {g : Obj → List (Addr × Obj)} {src : Addr} {o : Obj} {top : Int} {tt : Tok}
    (C : Cx w pT lT mean mg mb A A₀ 500 1500 base h₀ outer env L m s.heap)
    (N : News h₀ L s.heap news) (U : UpdF src o news g) (hs : SrcOk o) (ht : 1 ≤ top) (ht' : top < 1000)
    (k : ∀ (r : Int) (tr : Tok) (o' : Obj) (h' : Heap) (tk' : Nat), 0 ≤ r → r < top → SrcOk o' → Fr h₀ L h' m → News h₀ L h' (g o') → Q (.int r tr) { s with heap := h', toks := tk' }) :
    wpAny (model PySem.Challenge.rw_on0233_01.row.prog w) A (call (.ref 179) [.ref src, .int top tt]) Q E s := by
  obtain ⟨a, b, ta, tb, n, rfl, ha, hb0, hb1⟩ := hs
  exact take_core C (of_upd U N) ha hb0 hb1 ht ht' fun r tr o' h' tk' h0 h1 hs F' N' K => k r tr o' h' tk' h0 h1 hs F' (back1 U N N' K)

/-- the same, the purse written out -/
theorem take_x {news : List (Addr × Obj)} {g : Obj → List (Addr × Obj)} {src : Addr} {a b : Int} {ta tb : Tok} {n : Nat} {top : Int} {tt : Tok}
    (C : Cx w pT lT mean mg mb A A₀ 500 1500 base h₀ outer env L m s.heap)
    (N : News h₀ L s.heap news) (U : UpdF src (W.listOf #[.int a ta, .int b tb] n) news g) (ha : 0 ≤ a) (hb : 0 ≤ b) (hb' : b < 2147483647) (ht : 1 ≤ top) (ht' : top < 1000)
    (k : ∀ (r : Int) (tr : Tok) (a' b' : Int) (ta' tb' : Tok) (n' : Nat) (h' : Heap) (tk' : Nat), 0 ≤ r → r < top → 0 ≤ a' → 0 ≤ b' → b' < 2147483647 → Fr h₀ L h' m → News h₀ L h' (g (W.listOf #[.int a' ta', .int b' tb'] n')) → Q (.int r tr) { s with heap := h', toks := tk' }) :
    wpAny (model PySem.Challenge.rw_on0233_01.row.prog w) A (call (.ref 179) [.ref src, .int top tt]) Q E s := by
  refine take_spec C N U ⟨_, _, _, _, _, rfl, ha, hb, hb'⟩ ht ht' fun r tr o' h' tk' h0 h1 hs F' N' => ?_
  obtain ⟨a', b', ta', tb', n', rfl, x, y, z⟩ := hs
  exact k r tr a' b' ta' tb' n' h' tk' h0 h1 x y z F' N'

theorem getD_mem {ns : List Int} {r : Int} (h0 : 0 ≤ r) (h1 : r < (ns.length : Int)) : ns.getD r.toNat 0 ∈ ns := by
  have hlt : r.toNat < ns.length := by omega
  have e : ns.getD r.toNat 0 = ns[r.toNat] := by simp [List.getD, hlt]
  rw [e]
  exact List.getElem_mem hlt
section
theorem one_core {src l : Addr} {o : Obj} {vs : List Value} {ns : List Int} {n : Nat}
    (C : Cx w pT lT mean mg mb A A₀ 490 1450 base h₀ outer env L m s.heap)
    (N : News h₀ L s.heap [(src, o), (l, W.listOf vs.toArray n)]) (hne : l ≠ src)
    (hs : SrcOk o) (hi : IntsAre vs ns) (hl : 1 ≤ ns.length) (hl' : ns.length < 1000)
    (k : ∀ (x : Int) (tx : Tok) (o' : Obj) (h' : Heap) (tk' : Nat), x ∈ ns → SrcOk o' → Fr h₀ L h' m → News h₀ L h' [(src, o'), (l, W.listOf vs.toArray n)] → Kept [src, l] s.heap h' → Q (.int x tx) { s with heap := h', toks := tk' }) :
    wpAny (model PySem.Challenge.rw_on0233_01.row.prog w) A (call (.ref 186) [.ref src, .ref l]) Q E s := by
  k_with_none
  k_with "omega" => first | with_reducible assumption | decide | (with_reducible exact oN1 (by with_reducible assumption) (by decide)) | (with_reducible exact oN2 (by with_reducible assumption) (by decide)) | (with_reducible exact oN3 (by with_reducible assumption) (by decide)) | (with_reducible exact oN4 (by with_reducible assumption) (by decide)) | (with_reducible exact oN5 (by with_reducible assumption) (by decide)) | (with_reducible exact oN6 (by with_reducible assumption) (by decide)) | (with_reducible exact oN7 (by with_reducible assumption) (by decide)) | (with_reducible exact oN8 (by with_reducible assumption) (by decide)) | (with_reducible exact oI1 (by with_reducible assumption) (by decide)) | (with_reducible exact oI2 (by with_reducible assumption) (by decide)) | (with_reducible exact oI3 (by with_reducible assumption) (by decide)) | (with_reducible exact oI4 (by with_reducible assumption) (by decide)) | (with_reducible exact oI5 (by with_reducible assumption) (by decide)) | (with_reducible exact oI6 (by with_reducible assumption) (by decide)) | (with_reducible exact oI7 (by with_reducible assumption) (by decide)) | (with_reducible exact oI8 (by with_reducible assumption) (by decide)) | fail
  k_with "k_pk" => first | exact lA0 | exact lA1 | exact lA2 | exact lA3 | exact lA4 | exact lE1 | exact lE2 | exact lE3 | exact lE4 | exact lE5 | (refine cF ?_; k_extra "k_pk")
  k_with "k_pe" => first | exact eA0 | exact eA1 | exact eA2 | exact eA3 | exact eA4 | exact eE1 | exact eE2 | exact eE3 | exact eE4 | exact eE5 | (refine cF ?_; k_extra "k_pe")
  k_with "k_ltN" => with_reducible first | assumption | exact pL (by with_reducible assumption) (by k_extra "k_pk")
  k_with "k_ne" => (refine neN ?_; (try dsimp only); first | (with_reducible first | exact n01 | exact n02 | exact n03 | exact n04 | exact n05 | exact n01.symm | exact n02.symm | exact n03.symm | exact n04.symm | exact n05.symm | with_reducible assumption | exact Ne.symm (by with_reducible assumption) | exact Nat.ne_of_lt (by k_extra "k_ltN") | exact Nat.ne_of_gt (by k_extra "k_ltN") | exact nS1 (by k_extra "k_ltN") | exact Ne.symm (nS1 (by k_extra "k_ltN")) | exact nS2 (by k_extra "k_ltN") | exact Ne.symm (nS2 (by k_extra "k_ltN")) | exact nS3 (by k_extra "k_ltN") | exact Ne.symm (nS3 (by k_extra "k_ltN")) | exact nS4 (by k_extra "k_ltN") | exact Ne.symm (nS4 (by k_extra "k_ltN")) | exact nS5 (by k_extra "k_ltN") | exact Ne.symm (nS5 (by k_extra "k_ltN")) | exact nS6 (by k_extra "k_ltN") | exact Ne.symm (nS6 (by k_extra "k_ltN")) | exact nT (by with_reducible assumption) (by k_extra "k_ltN") | exact Ne.symm (nT (by with_reducible assumption) (by k_extra "k_ltN")) | exact pN (by with_reducible assumption) (by k_extra "k_pe") | exact Ne.symm (pN (by with_reducible assumption) (by k_extra "k_pe"))) | omega)
  k_with "cell_enter" => ((refine' enter_call ?qzC ?qzN ?qzk6 ?qzk7 ?qzk8 ?qzk9 ?qzkB ?_ ?qzc2 ?qzc3 ?qzc4 ?qzc5; (case qzC => assumption); (case qzN => assumption); (case qzk6 => k_is); (case qzk7 => k_is); (case qzk8 => decide); (case qzk9 => exact BindsTo.of_eq rfl); (case qzc5 => decide); (case qzkB => exact locs rfl); (case qzc2 => exact rfl); (case qzc3 => exact rfl); (case qzc4 => exact rfl); k_whole; intro g'z L'z h'z X0'z T0'z G'z nL'z F'z N'z B'z X'z T'z; (try dsimp only); (try k_fold)))
  k_with "k_all" => (assumption)
  k_with "k_ne" => (assumption)
  k_with "call ref" => ((k_here; k_dflt (refine' take_spec ?qzC ?qzN ?qzU ?qzhs ?qzht ?qzhu ?_; (case qzC => exact ⟨⟨rfl, Nat.le_of_ble_eq_true rfl, rfl, rfl, Nat.le_of_ble_eq_true rfl⟩, rfl, rfl, by k_asm, by k_asm, by k_asm, by k_asm⟩); (case qzN => k_asm); (case qzU => k_updF); (case qzhs => k_asm); (case qzht => l_fact); (case qzhu => l_fact); k_whole); intro r'z tr'z o'z h'z tk'z r0'z r1'z hs'z F'z N'z; (try dsimp only at N'z); (try k_sweep)))
  k_dflt cell_enter
  clear C N
  w_top off
  k_steps
  refine k _ _ _ _ _ ?_ (by assumption) (by assumption) (by assumption) (kept_of (by assumption) (by assumption) (by rfl))
  exact getD_mem (by assumption) (by assumption)
end
theorem one_spec {news : List (Addr × Obj)} {g : Obj → List (Addr × Obj)} {src l : Addr} {o : Obj} {vs : List Value} {ns : List Int} {n : Nat}
    (C : Cx w pT lT mean mg mb A A₀ 490 1450 base h₀ outer env L m s.heap)
    (N : News h₀ L s.heap news) (U : UpdF src o news g) (hs : SrcOk o) (hm : (l, W.listOf vs.toArray n) ∈ news) (hls : l ≠ src) (hi : IntsAre vs ns) (hl : 1 ≤ ns.length) (hl' : ns.length < 1000)
    (k : ∀ (x : Int) (tx : Tok) (o' : Obj) (h' : Heap) (tk' : Nat), x ∈ ns → SrcOk o' → Fr h₀ L h' m → News h₀ L h' (g o') → Q (.int x tx) { s with heap := h', toks := tk' }) :
    wpAny (model PySem.Challenge.rw_on0233_01.row.prog w) A (call (.ref 186) [.ref src, .ref l]) Q E s := by
  refine one_core (src := src) (o := o) (n := n) C ?_ hls hs hi hl hl' ?_
  · intro p hp
    rcases List.mem_cons.mp hp with rfl | hp
    · exact of_upd U N _ (.head _)
    · rcases List.mem_cons.mp hp with rfl | hp
      · exact N _ hm
      · exact nomatch hp
  · intro x tx o' h' tk' hx hs' F' N' K
    refine k x tx o' h' tk' hx hs' F' (back1 (new := []) (o' := o') U N (news_sub N' fun p hp => ?_) fun b ob e hn => ?_)
    · rw [List.mem_singleton.mp hp]; exact .head _
    · by_cases hb : b = l
      · subst hb
        have h1 := (N _ hm).1
        rw [e] at h1
        rw [Option.some.inj h1]
        exact (N' _ (.tail _ (.head _))).1
      · exact K b ob e (fun q => by
          rcases List.mem_cons.mp q with q | q
          · exact hn (q ▸ .head _)
          · exact hb (List.mem_singleton.mp q))
/-- the same, the purse written out -/
theorem one_x {news : List (Addr × Obj)} {g : Obj → List (Addr × Obj)} {src l : Addr} {a b : Int} {ta tb : Tok} {n0 : Nat} {vs : List Value} {ns : List Int} {n : Nat}
    (C : Cx w pT lT mean mg mb A A₀ 490 1450 base h₀ outer env L m s.heap)
    (N : News h₀ L s.heap news) (U : UpdF src (W.listOf #[.int a ta, .int b tb] n0) news g) (ha : 0 ≤ a) (hb : 0 ≤ b) (hb' : b < 2147483647) (hm : (l, W.listOf vs.toArray n) ∈ news) (hls : l ≠ src) (hi : IntsAre vs ns) (hl : 1 ≤ ns.length) (hl' : ns.length < 1000)
    (k : ∀ (x : Int) (tx : Tok) (a' b' : Int) (ta' tb' : Tok) (n' : Nat) (h' : Heap) (tk' : Nat), x ∈ ns → 0 ≤ a' → 0 ≤ b' → b' < 2147483647 → Fr h₀ L h' m → News h₀ L h' (g (W.listOf #[.int a' ta', .int b' tb'] n')) → Q (.int x tx) { s with heap := h', toks := tk' }) :
    wpAny (model PySem.Challenge.rw_on0233_01.row.prog w) A (call (.ref 186) [.ref src, .ref l]) Q E s := by
  refine one_spec C N U ⟨_, _, _, _, _, rfl, ha, hb, hb'⟩ hm hls hi hl hl' fun r tr o' h' tk' h0 hs F' N' => ?_
  obtain ⟨a', b', ta', tb', n', rfl, x, y, z⟩ := hs
  exact k r tr a' b' ta' tb' n' h' tk' h0 x y z F' N'
end
end Mine

namespace Mine

section
variable {w : World} {pT : Program} {lT : List Str} {mean : ExcName → Option Value} {mg mb : Str → Option Value} {A A₀ : Around} {base h₀ : Heap} {outer : List Env} {env : Env} {L : Addr} {m : Str → Option Value} {s : Shared} {Q E : Value → Shared → Prop}
theorem cnt_lo {x : Int} (h : x ∈ [3, 1, 2, 4, 3, 255, 256, 257]) : 0 ≤ x := (by decide : ∀ y ∈ [(3 : Int), 1, 2, 4, 3, 255, 256, 257], 0 ≤ y) x h
theorem cnt_hi {x : Int} (h : x ∈ [3, 1, 2, 4, 3, 255, 256, 257]) : x ≤ 257 := (by decide : ∀ y ∈ [(3 : Int), 1, 2, 4, 3, 255, 256, 257], y ≤ 257) x h
theorem ints_rep {v : Int} {t : Tok} : ∀ n : Nat, IntsAre (List.replicate n (Value.int v t)) (List.replicate n v)
  | 0 => .nil
  | n + 1 => by rw [List.replicate_succ, List.replicate_succ]; exact .cons _ _ (ints_rep n)
theorem fold_rep (v : Value) : ∀ (n : Nat) (acc : List Value), (List.replicate n (#[v] : Array Value)).foldl (fun x1 x2 => x1 ++ x2) acc.toArray = (acc ++ List.replicate n v).toArray
  | 0, acc => by simp
  | n + 1, acc => by
    rw [List.replicate_succ, List.foldl_cons, show acc.toArray ++ #[v] = (acc ++ [v]).toArray by simp, fold_rep v n]
    simp [List.replicate_succ]
/-- [v] * x -/
theorem rep1 {l : Addr} {v x : Int} {tv u : Tok} {n : Nat} {news : List (Addr × Obj)} (F : Fr h₀ L s.heap m) (N : News h₀ L s.heap news) (hm : (l, W.listOf #[.int v tv] n) ∈ news) (h0 : 0 ≤ x) (h1 : x ≤ 257)
    (k : ∀ (l' : Addr) (h' : Heap), Fr h₀ L h' m → News h₀ L h' ((l', W.listOf (List.replicate x.toNat (Value.int v tv)).toArray 0) :: news) → IntsAre (List.replicate x.toNat (Value.int v tv)) (List.replicate x.toNat v) → (List.replicate x.toNat v).length ≤ 257 → (∀ p ∈ news, p.1 < l') → Q (.ref l') { s with heap := h' }) :
    wpAny (model PySem.Challenge.rw_on0233_01.row.prog w) A (binaryOp .Mult (.ref l) (.int x u)) Q E s := by
  refine mul_list F N (N _ hm).1 (by omega) (by omega) (by show 1 * x.toNat ≤ 2 ^ 24; omega) fun h' F' N' => ?_
  refine k _ h' F' ?_ (ints_rep _) (by rw [List.length_replicate]; omega) fun p hp => Heap.lt_size (N p hp).1
  have e := fold_rep (.int v tv) x.toNat []
  simp only [List.nil_append] at e
  rw [← e]
  exact N'
/-- two lists of ints, one behind the other -/
theorem add2 {l b : Addr} {vs ws : List Value} {ns ms : List Int} {n1 n2 a c : Nat} {news : List (Addr × Obj)} (F : Fr h₀ L s.heap m) (N : News h₀ L s.heap news) (h1 : (l, W.listOf vs.toArray n1) ∈ news) (h2 : (b, W.listOf ws.toArray n2) ∈ news)
    (hi : IntsAre vs ns) (hj : IntsAre ws ms) (ha : ns.length ≤ a) (hc : ms.length ≤ c) (hsz : a + c ≤ 16777216)
    (k : ∀ (l' : Addr) (h' : Heap), Fr h₀ L h' m → News h₀ L h' ((l', W.listOf (vs ++ ws).toArray 0) :: news) → IntsAre (vs ++ ws) (ns ++ ms) → (ns ++ ms).length ≤ a + c → (∀ p ∈ news, p.1 < l') → Q (.ref l') { s with heap := h' }) :
    wpAny (model PySem.Challenge.rw_on0233_01.row.prog w) A (binaryOp .Add (.ref l) (.ref b)) Q E s :=
  add_arrays_ints (its := vs.toArray) (its2 := ws.toArray) (hsz := by rw [sizeLine_eq]; omega) F N (News.isList N h1) (News.isList N h2) hi hj fun h' F' N' hij => k _ h' F' N' hij (by rw [List.length_append]; omega) fun p hp => Heap.lt_size (N p hp).1
/-- the flags that the law draws -/
noncomputable def FlagsOk (ns : List Int) : Prop := ns ≠ [] ∧ ns.length ≤ 600 ∧ ∀ x ∈ ns, x ∈ [(0 : Int), 1, 49, 55, 16, 247]
theorem flagsOk1 {f x : Int} (hf : f ∈ [(0 : Int), 1, 49, 55, 16, 247]) (hx : x ∈ [(3 : Int), 1, 2, 4, 3, 255, 256, 257]) : FlagsOk ([49] ++ List.replicate x.toNat f) := by
  refine ⟨by simp, ?_, ?_⟩
  · have := cnt_hi hx
    simp only [List.length_append, List.length_replicate, List.length_cons, List.length_nil]; omega
  · intro y hy
    rcases List.mem_append.mp hy with h | h
    · rw [List.mem_singleton.mp h]; decide
    · rw [List.eq_of_mem_replicate h]; exact hf
theorem flagsOk2 {f x f' x' : Int} (hf : f ∈ [(0 : Int), 1, 49, 55, 16, 247]) (hx : x ∈ [(3 : Int), 1, 2, 4, 3, 255, 256, 257]) (hf' : f' ∈ [(0 : Int), 1, 49, 55, 16, 247]) (hx' : x' ∈ [(3 : Int), 1, 2, 4, 3, 255, 256, 257]) :
    FlagsOk ([49] ++ List.replicate x.toNat f ++ List.replicate x'.toNat f') := by
  refine ⟨by simp, ?_, ?_⟩
  · have := cnt_hi hx
    have := cnt_hi hx'
    simp only [List.length_append, List.length_replicate, List.length_cons, List.length_nil]; omega
  · intro y hy
    rcases List.mem_append.mp hy with h | h
    · exact (flagsOk1 hf hx).2.2 y h
    · rw [List.eq_of_mem_replicate h]; exact hf'

section
theorem flags_core {src : Addr} {o : Obj}
    (C : Cx w pT lT mean mg mb A A₀ 480 1400 base h₀ outer env L m s.heap)
    (N : News h₀ L s.heap [(src, o)]) (hs : SrcOk o)
    (k : ∀ (l : Addr) (vs : List Value) (ns : List Int) (n : Nat) (o' : Obj) (h' : Heap) (tk' : Nat), IntsAre vs ns → FlagsOk ns → SrcOk o' → Fr h₀ L h' m → News h₀ L h' [(src, o'), (l, W.listOf vs.toArray n)] → Kept [src] s.heap h' → s.heap.get? l = none → Q (.ref l) { s with heap := h', toks := tk' }) :
    wpAny (model PySem.Challenge.rw_on0233_01.row.prog w) A (call (.ref 193) [.ref src]) Q E s := by
  k_with_none
  k_with "omega" => first | with_reducible assumption | decide | (with_reducible exact oN1 (by with_reducible assumption) (by decide)) | (with_reducible exact oN2 (by with_reducible assumption) (by decide)) | (with_reducible exact oN3 (by with_reducible assumption) (by decide)) | (with_reducible exact oN4 (by with_reducible assumption) (by decide)) | (with_reducible exact oN5 (by with_reducible assumption) (by decide)) | (with_reducible exact oN6 (by with_reducible assumption) (by decide)) | (with_reducible exact oN7 (by with_reducible assumption) (by decide)) | (with_reducible exact oN8 (by with_reducible assumption) (by decide)) | (with_reducible exact oI1 (by with_reducible assumption) (by decide)) | (with_reducible exact oI2 (by with_reducible assumption) (by decide)) | (with_reducible exact oI3 (by with_reducible assumption) (by decide)) | (with_reducible exact oI4 (by with_reducible assumption) (by decide)) | (with_reducible exact oI5 (by with_reducible assumption) (by decide)) | (with_reducible exact oI6 (by with_reducible assumption) (by decide)) | (with_reducible exact oI7 (by with_reducible assumption) (by decide)) | (with_reducible exact oI8 (by with_reducible assumption) (by decide)) | fail
  k_with "k_pk" => first | exact lA0 | exact lA1 | exact lA2 | exact lA3 | exact lA4 | exact lE1 | exact lE2 | exact lE3 | exact lE4 | exact lE5 | (refine cF ?_; k_extra "k_pk")
  k_with "k_pe" => first | exact eA0 | exact eA1 | exact eA2 | exact eA3 | exact eA4 | exact eE1 | exact eE2 | exact eE3 | exact eE4 | exact eE5 | (refine cF ?_; k_extra "k_pe")
  k_with "k_ltN" => with_reducible first | assumption | exact pL (by with_reducible assumption) (by k_extra "k_pk")
  k_with "k_ne" => (refine neN ?_; (try dsimp only); first | (with_reducible first | exact n01 | exact n02 | exact n03 | exact n04 | exact n05 | exact n01.symm | exact n02.symm | exact n03.symm | exact n04.symm | exact n05.symm | with_reducible assumption | exact Ne.symm (by with_reducible assumption) | exact Nat.ne_of_lt (by k_extra "k_ltN") | exact Nat.ne_of_gt (by k_extra "k_ltN") | exact nS1 (by k_extra "k_ltN") | exact Ne.symm (nS1 (by k_extra "k_ltN")) | exact nS2 (by k_extra "k_ltN") | exact Ne.symm (nS2 (by k_extra "k_ltN")) | exact nS3 (by k_extra "k_ltN") | exact Ne.symm (nS3 (by k_extra "k_ltN")) | exact nS4 (by k_extra "k_ltN") | exact Ne.symm (nS4 (by k_extra "k_ltN")) | exact nS5 (by k_extra "k_ltN") | exact Ne.symm (nS5 (by k_extra "k_ltN")) | exact nS6 (by k_extra "k_ltN") | exact Ne.symm (nS6 (by k_extra "k_ltN")) | exact nT (by with_reducible assumption) (by k_extra "k_ltN") | exact Ne.symm (nT (by with_reducible assumption) (by k_extra "k_ltN")) | exact pN (by with_reducible assumption) (by k_extra "k_pe") | exact Ne.symm (pN (by with_reducible assumption) (by k_extra "k_pe"))) | omega)
  k_with "cell_enter" => ((refine' enter_call ?qzC ?qzN ?qzk6 ?qzk7 ?qzk8 ?qzk9 ?qzkB ?_ ?qzc2 ?qzc3 ?qzc4 ?qzc5; (case qzC => assumption); (case qzN => assumption); (case qzk6 => k_is); (case qzk7 => k_is); (case qzk8 => decide); (case qzk9 => exact BindsTo.of_eq rfl); (case qzc5 => decide); (case qzkB => exact locs rfl); (case qzc2 => exact rfl); (case qzc3 => exact rfl); (case qzc4 => exact rfl); k_whole; intro g'z L'z h'z X0'z T0'z G'z nL'z F'z N'z B'z X'z T'z; (try dsimp only); (try k_fold)))
  k_with "k_all" => (assumption)
  k_with "k_ne" => (assumption)
  k_with "binaryOp Mult ref int" => ((k_here; k_dflt (refine' rep1 ?qzF ?qzN ?qzhm ?qzh0 ?qzh1 ?_; (case qzF => k_asm); (case qzN => k_asm); (case qzhm => k_mem); (case qzh0 => exact cnt_lo (by assumption)); (case qzh1 => exact cnt_hi (by assumption)); k_whole); intro l'z h'z F'z N'z hi'z hl'z l1; (try k_lt l1); (try k_sweep)))
  k_with "binaryOp Add ref ref" => ((k_here; k_dflt (refine' add2 ?qzF ?qzN ?qzh1 ?qzh2 ?qzhi ?qzhj ?qzha ?qzhc ?qzz ?_; (case qzF => k_asm); (case qzN => k_asm); (case qzh1 => k_mem); (case qzh2 => k_mem); (case qzhi => first | assumption | l_intsW); (case qzhj => first | assumption | l_intsW); (case qzha => first | assumption | exact Nat.le_refl _); (case qzhc => first | assumption | exact Nat.le_refl _); (case qzz => decide); k_whole); intro l'z h'z F'z N'z hi'z hl'z l1; (try k_lt l1); (try k_sweep)))
  k_with "call ref" => ((k_here; k_dflt (refine' take_x ?qzC ?qzN ?qzU ?qzha ?qzhb ?qzhc ?qzht ?qzhu ?_; (case qzC => exact ⟨⟨rfl, Nat.le_of_ble_eq_true rfl, rfl, rfl, Nat.le_of_ble_eq_true rfl⟩, rfl, rfl, by k_asm, by k_asm, by k_asm, by k_asm⟩); (case qzN => k_asm); (case qzU => k_updF); (case qzha => assumption); (case qzhb => assumption); (case qzhc => assumption); (case qzht => decide); (case qzhu => decide); k_whole); intro r'z tr'z a'z b'z ta'z tb'z n'z h'z tk'z r0'z r1'z p9 q9 z9 F'z N'z; (try dsimp only at N'z); (try k_sweep); (have r2'z := show r'z = 0 ∨ r'z = 1 by omega); (rcases r2'z with e'z | e'z <;> subst e'z)))
  k_with "call ref" => ((k_here; k_dflt (refine' one_x ?qzC ?qzN ?qzU ?qzha ?qzhb ?qzhc ?qzhm ?qzhls ?qzhi ?qzhl ?qzhu ?_; (case qzC => exact ⟨⟨rfl, Nat.le_of_ble_eq_true rfl, rfl, rfl, Nat.le_of_ble_eq_true rfl⟩, rfl, rfl, by k_asm, by k_asm, by k_asm, by k_asm⟩); (case qzN => k_asm); (case qzU => k_updF);  (case qzha => assumption); (case qzhb => assumption); (case qzhc => assumption); (case qzhm => k_mem); (case qzhls => k_ne); (case qzhi => l_intsW); (case qzhl => decide); (case qzhu => decide); k_whole); intro x'z tr'z a'z b'z ta'z tb'z n'z h'z tk'z hx'z p9 q9 z9 F'z N'z; (try dsimp only at N'z); (try k_sweep)))
  obtain ⟨a, b, ta, tb, n, rfl, ha, hb0, hb1⟩ := hs
  k_dflt cell_enter
  clear C N
  w_top off
  k_steps
  · refine' k _ _ _ _ _ _ _ ?i1 ?f1 ?s1 ?F1 ?N1 ?K1 ?h1
    case F1 => assumption
    case N1 => exact news_sub (by assumption) (List.forall_mem_cons.mpr ⟨by k_mem, List.forall_mem_cons.mpr ⟨by k_mem, List.forall_mem_nil _⟩⟩)
    case i1 => assumption
    case f1 => exact flagsOk1 (by assumption) (by assumption)
    case s1 => exact ⟨_, _, _, _, _, rfl, by assumption, by assumption, by assumption⟩
    case K1 => exact kept_of (by assumption) (by assumption) (by rfl)
    case h1 => exact Gr.fresh (by assumption) (by assumption) (by k_mem) (off1 (by k_ne))
  · refine' k _ _ _ _ _ _ _ ?i2 ?f2 ?s2 ?F2 ?N2 ?K2 ?h2
    case F2 => assumption
    case N2 => exact news_sub (by assumption) (List.forall_mem_cons.mpr ⟨by k_mem, List.forall_mem_cons.mpr ⟨by k_mem, List.forall_mem_nil _⟩⟩)
    case i2 => assumption
    case f2 => exact flagsOk2 (by assumption) (by assumption) (by assumption) (by assumption)
    case s2 => exact ⟨_, _, _, _, _, rfl, by assumption, by assumption, by assumption⟩
    case K2 => exact kept_of (by assumption) (by assumption) (by rfl)
    case h2 => exact Gr.fresh (by assumption) (by assumption) (by k_mem) (off1 (by k_ne))
end
theorem flags_x {news : List (Addr × Obj)} {g : Obj → List (Addr × Obj)} {src : Addr} {o : Obj}
    (C : Cx w pT lT mean mg mb A A₀ 480 1400 base h₀ outer env L m s.heap)
    (N : News h₀ L s.heap news) (U : UpdF src o news g) (hs : SrcOk o)
    (k : ∀ (l : Addr) (vs : List Value) (ns : List Int) (n : Nat) (o' : Obj) (h' : Heap) (tk' : Nat), IntsAre vs ns → FlagsOk ns → SrcOk o' → Fr h₀ L h' m → News h₀ L h' ((l, W.listOf vs.toArray n) :: g o') → AllNe l news → Q (.ref l) { s with heap := h', toks := tk' }) :
    wpAny (model PySem.Challenge.rw_on0233_01.row.prog w) A (call (.ref 193) [.ref src]) Q E s :=
  flags_core C (of_upd U N) hs fun l vs ns n o' h' tk' hi hf hs' F' N' K hn => k l vs ns n o' h' tk' hi hf hs' F' (back1 U N N' K) (new_ne N hn)
end
end Mine

namespace Mine
noncomputable abbrev In8 (ks : List Int) : Prop := ∀ n ∈ ks, 0 ≤ n ∧ n < 256
theorem byteArr_app (a b : List Int) : byteArr a ++ byteArr b = byteArr (a ++ b) := by simp [byteArr]
theorem byteArr_rep (x : Int) (n : Nat) : ((List.replicate n [x.toNat.toUInt8]).flatten).toArray = byteArr (List.replicate n x) := by
  unfold byteArr
  congr 1
  induction n with
  | zero => rfl
  | succ n ih => rw [List.replicate_succ, List.flatten_cons, ih, List.replicate_succ, List.map_cons]; rfl
section
variable {w : World} {pT : Program} {lT : List Str} {mean : ExcName → Option Value} {mg mb : Str → Option Value} {A A₀ : Around} {base h₀ : Heap} {outer : List Env} {env : Env} {L : Addr} {m : Str → Option Value} {s : Shared} {Q E : Value → Shared → Prop} {news : List (Addr × Obj)}
theorem by_add {a b : List Int} {t u : Tok} {i j : Nat} (ha : a.length ≤ i) (hb : b.length ≤ j) (hz : i + j ≤ 1000000) (h : ∀ t' k, (a ++ b).length ≤ i + j → Q (.bytes (byteArr (a ++ b)) t') { s with toks := k }) :
    wpAny (model PySem.Challenge.rw_on0233_01.row.prog w) A (binaryOp .Add (.bytes (byteArr a) t) (.bytes (byteArr b) u)) Q E s :=
  KBy.add_bytes (by rw [byteArr_size, byteArr_size]; omega) fun t' k => by rw [byteArr_app]; exact h t' k (by rw [List.length_append]; omega)
theorem by_mul {x n : Int} {t u : Tok} (h0 : 0 ≤ n) (h1 : n ≤ 1000) (h : ∀ t' k, (List.replicate n.toNat x).length ≤ 1000 → Q (.bytes (byteArr (List.replicate n.toNat x)) t') { s with toks := k }) :
    wpAny (model PySem.Challenge.rw_on0233_01.row.prog w) A (binaryOp .Mult (.bytes (byteArr [x]) t) (.int n u)) Q E s :=
  bytes_mul_any (b := [x.toNat.toUInt8]) (List.cons_ne_nil _ _) (by omega) (by omega) (by show 1 ≤ 16; decide) fun t' k => by rw [byteArr_rep]; exact h t' k (by rw [List.length_replicate]; omega)
theorem by_make {l : Addr} {vs : List Value} {ns : List Int} {n : Nat} (F : Fr h₀ L s.heap m) (N : News h₀ L s.heap news) (hh : A.handled = none) (hm : (l, W.listOf vs.toArray n) ∈ news) (hi : IntsAre vs ns) (hr : In8 ns) (hn : ns.length ≤ 1000)
    (h : ∀ h' t' k, Fr h₀ L h' m → News h₀ L h' news → ns.length ≤ 1000 → Q (.bytes (byteArr ns) t') { s with heap := h', toks := k }) : wpAny (model PySem.Challenge.rw_on0233_01.row.prog w) A (call (.type "bytes") [.ref l]) Q E s :=
  KBa.make_K F N hh (News.isList N hm) hi hr (by omega) fun h' t' k F' N' _ => h h' t' k F' N' hn
end
/-- a while left by its test: how it stands there -/
noncomputable def WhX {σ : Type} (h₀ : Heap) (L : Addr) (s : Shared) (Led : σ → List (Addr × Obj)) (ps : σ → List (Str × Value)) (stored : List Str) (m₀ : Str → Option Value) (X : Prop) (c : σ) (s₂ : Shared) : Prop :=
  ∃ (u : Str → Option Value) (h' : Heap) (tk : Nat), s₂ = { s with heap := h', toks := tk } ∧ Fr h₀ L h' (kstB (fun z => if stored.contains z then u z else m₀ z) (ps c)) ∧ News h₀ L h' (Led c) ∧ X
theorem WhX.intro {σ : Type} {h₀ : Heap} {L : Addr} {s : Shared} {Led : σ → List (Addr × Obj)} {ps : σ → List (Str × Value)} {stored : List Str} {m₀ : Str → Option Value} {X : Prop} {c : σ} {u : Str → Option Value} {h' : Heap} {tk : Nat}
    (F : Fr h₀ L h' (kstB (fun z => if stored.contains z then u z else m₀ z) (ps c))) (N : News h₀ L h' (Led c)) (x : X) : WhX h₀ L s Led ps stored m₀ X c { s with heap := h', toks := tk } := ⟨u, h', tk, rfl, F, N, x⟩
theorem while_x {prog : Program} {w : World} {A : Around} {E : Value → Shared → Prop} {Q : Flow → Shared → Prop} {s : Shared} {env : Env} {h₀ : Heap} {L : Addr} {σ : Type} {test : Expr} {body : List Stmt} {pos : Pos} {m₀ : Str → Option Value}
    (Led : σ → List (Addr × Obj)) (ps : σ → List (Str × Value)) (stored : List Str) (P X : σ → Prop) (μ : σ → Nat) (c₀ : σ)
    (F : Fr h₀ L s.heap m₀) (N : News h₀ L s.heap (Led c₀)) (hk : ∀ p ∈ ps c₀, m₀ p.1 = some p.2) (hp : P c₀)
    (turn : ∀ (c : σ) (u : Str → Option Value) h tk, P c → Fr h₀ L h (kstB (fun z => if stored.contains z then u z else m₀ z) (ps c)) → News h₀ L h (Led c) →
      wpAny (model prog w) A (isTrue test env (eval test env)) (fun b s₂ =>
        if b = true then wpAny (model prog w) A (execs body env) (KswPost h₀ L s Led ps (fun _ => True) stored m₀ P μ Q c) E s₂ else WhX h₀ L s Led ps stored m₀ (X c) c s₂) E { s with heap := h, toks := tk })
    (done : ∀ (c : σ) (u : Str → Option Value) h tk, P c → X c → Fr h₀ L h (kstB (fun z => if stored.contains z then u z else m₀ z) (ps c)) → News h₀ L h (Led c) → Q .next { s with heap := h, toks := tk })
    (hE : PassesOwn (model prog w) A env E := by passes_own) :
    wpAny (model prog w) A (exec (.While test body [] pos) env) Q E s := by
  refine ksw_while Led ps (fun _ => True) stored P μ c₀ F N trivial hk hp (fun c u h tk _ hc F' N' => wpAny_mono (turn c u h tk hc F' N') (fun b s₂ hb => ?_) fun _ _ x => x) hE
  cases b with
  | true => exact hb
  | false =>
    obtain ⟨u', h', tk', rfl, F₂, N₂, hx⟩ := hb
    exact done c u' h' tk' hc hx F₂ N₂
end Mine

namespace Mine
noncomputable def lead (x : Int) : List Int → Nat → Nat
  | y :: r, c + 1 => if y = x then lead x r c + 1 else 0
  | _, _ => 0
theorem lead_nil (x : Int) (c : Nat) : lead x [] c = 0 := by cases c <;> rfl
theorem lead_zero (x : Int) (r : List Int) : lead x r 0 = 0 := by cases r <;> rfl
theorem lead_le (x : Int) : ∀ (r : List Int) (c : Nat), lead x r c ≤ r.length
  | [], c => by rw [lead_nil]; exact Nat.zero_le _
  | y :: r, 0 => by rw [lead_zero]; exact Nat.zero_le _
  | y :: r, c + 1 => by
    unfold lead
    split
    · have := lead_le x r c
      simp only [List.length_cons]; omega
    · exact Nat.zero_le _
theorem lead_cap (x : Int) : ∀ (r : List Int) (c : Nat), lead x r c ≤ c
  | [], c => by rw [lead_nil]; exact Nat.zero_le _
  | y :: r, 0 => by rw [lead_zero]; exact Nat.zero_le _
  | y :: r, c + 1 => by
    unfold lead
    split
    · have := lead_cap x r c
      omega
    · exact Nat.zero_le _
/-- the count told by the same at each place and another (or none, or the lid) behind -/
theorem lead_is (x : Int) : ∀ (r : List Int) (c k : Nat), k ≤ r.length → k ≤ c → (∀ j, j < k → r.getD j 0 = x) → (k = r.length ∨ k = c ∨ r.getD k 0 ≠ x) → lead x r c = k
  | [], c, k, h1, _, _, _ => by rw [lead_nil]; simp at h1; omega
  | y :: r, 0, k, _, h2, _, _ => by rw [lead_zero]; omega
  | y :: r, c + 1, 0, _, _, _, h4 => by
    unfold lead
    rcases h4 with h | h | h
    · simp at h
    · omega
    · rw [if_neg (by simpa using h)]
  | y :: r, c + 1, k + 1, h1, h2, h3, h4 => by
    unfold lead
    have hy : y = x := by simpa using h3 0 (by omega)
    rw [if_pos hy, lead_is x r c k (by simpa using h1) (by omega) (fun j hj => by simpa using h3 (j + 1) (by omega)) (by
      rcases h4 with h | h | h
      · left; simpa using h
      · right; left; omega
      · right; right; simpa using h)]
/-- the octets of one run of k + 1 -/
noncomputable def run1 (x : Int) (k : Nat) : List Int := if 2 < k + 1 then [x + 8, (k : Int)] else List.replicate (k + 1) x
noncomputable def enc : List Int → List Int
  | [] => []
  | x :: r => run1 x (lead x r 255) ++ enc (r.drop (lead x r 255))
  termination_by l => l.length
  decreasing_by simp only [List.length_drop, List.length_cons]; omega
theorem enc_nil : enc [] = [] := by rw [enc]
theorem enc_cons (x : Int) (r : List Int) : enc (x :: r) = run1 x (lead x r 255) ++ enc (r.drop (lead x r 255)) := by rw [enc]
/-- the flags that the law draws, and the one it writes -/
noncomputable def Flag (ns : List Int) : Prop := ns.length ≤ 600 ∧ ∀ x ∈ ns, x ∈ [(0 : Int), 1, 5, 49, 55, 16, 247]
noncomputable def OutInv (ns : List Int) (at' : Int) (found : List Int) : Prop := 0 ≤ at' ∧ at' ≤ (ns.length : Int) ∧ found ++ enc (ns.drop at'.toNat) = enc ns ∧ found.length ≤ 3 * at'.toNat
noncomputable def InInv (ns : List Int) (at' many : Int) : Prop := 0 ≤ at' ∧ 1 ≤ many ∧ at' + many ≤ (ns.length : Int) ∧ many ≤ 256 ∧ ∀ j : Nat, (j : Int) < many → ns.getD (at'.toNat + j) 0 = ns.getD at'.toNat 0
theorem out_start (ns : List Int) : OutInv ns 0 [] := ⟨by omega, by omega, by simp, by simp⟩
theorem out_end {ns found : List Int} {at' : Int} (h : OutInv ns at' found) (h2 : ¬ at' < (ns.length : Int)) : found = enc ns := by
  obtain ⟨h0, h1, h3, _⟩ := h
  rw [List.drop_of_length_le (by omega), enc_nil, List.append_nil] at h3
  exact h3
theorem in_start {ns found : List Int} {at' : Int} (h : OutInv ns at' found) (h2 : at' < (ns.length : Int)) : InInv ns at' 1 := by
  obtain ⟨h0, h1, h3, _⟩ := h
  refine ⟨h0, by omega, by omega, by omega, fun j hj => ?_⟩
  have : j = 0 := by omega
  subst this; rfl
theorem in_turn {ns : List Int} {at' many : Int} (h : InInv ns at' many) (h1 : at' + many < (ns.length : Int)) (h2 : ns.getD (at' + many).toNat 0 = ns.getD at'.toNat 0) (h3 : many ≤ 255) : InInv ns at' (many + 1) := by
  obtain ⟨i0, i1, i2, i3, i4⟩ := h
  refine ⟨i0, by omega, by omega, by omega, fun j hj => ?_⟩
  by_cases e : (j : Int) = many
  · have : (at' + many).toNat = at'.toNat + j := by omega
    rw [← this]; exact h2
  · exact i4 j (by omega)
theorem drop_at (ns : List Int) {at' : Int} (h0 : 0 ≤ at') (h1 : at' < (ns.length : Int)) : ns.drop at'.toNat = ns.getD at'.toNat 0 :: ns.drop (at'.toNat + 1) := by
  have hlt : at'.toNat < ns.length := by omega
  rw [List.drop_eq_getElem_cons hlt]
  simp [List.getD, hlt]
/-- what a turn writes -/
theorem run_is {ns : List Int} {at' many : Int} (h : InInv ns at' many) (hx : ¬ at' + many < (ns.length : Int) ∨ ns.getD (at' + many).toNat 0 ≠ ns.getD at'.toNat 0 ∨ ¬ many ≤ 255) :
    enc (ns.drop at'.toNat) = run1 (ns.getD at'.toNat 0) (many - 1).toNat ++ enc (ns.drop (at' + many).toNat) := by
  obtain ⟨i0, i1, i2, i3, i4⟩ := h
  have hl : lead (ns.getD at'.toNat 0) (ns.drop (at'.toNat + 1)) 255 = (many - 1).toNat := by
    refine lead_is _ _ _ _ (by rw [List.length_drop]; omega) (by omega) (fun j hj => ?_) ?_
    · rw [← i4 (j + 1) (by omega)]
      simp only [List.getD_eq_getElem?_getD, List.getElem?_drop]
      congr 2; omega
    · rcases hx with hx | hx | hx
      · left; rw [List.length_drop]; omega
      · right; right
        intro e
        apply hx
        rw [← e]
        simp only [List.getD_eq_getElem?_getD, List.getElem?_drop]
        congr 2; omega
      · right; left; omega
  rw [drop_at ns i0 (by omega), enc_cons, hl, List.drop_drop]
  have : at'.toNat + 1 + (many - 1).toNat = (at' + many).toNat := by omega
  rw [this]
theorem out_turn {ns found run : List Int} {at' many : Int} (h : OutInv ns at' found) (hi : InInv ns at' many) (hx : ¬ at' + many < (ns.length : Int) ∨ ns.getD (at' + many).toNat 0 ≠ ns.getD at'.toNat 0 ∨ ¬ many ≤ 255)
    (hr : run = run1 (ns.getD at'.toNat 0) (many - 1).toNat) : OutInv ns (at' + many) (found ++ run) := by
  obtain ⟨h0, h1, h3, h4⟩ := h
  have hi' := hi
  obtain ⟨i0, i1, i2, i3, _⟩ := hi'
  refine ⟨by omega, i2, ?_, ?_⟩
  · rw [List.append_assoc, hr, ← run_is hi hx]; exact h3
  · rw [List.length_append, hr]
    have : (run1 (ns.getD at'.toNat 0) (many - 1).toNat).length ≤ 3 * many.toNat := by
      unfold run1
      split
      · simp; omega
      · rw [List.length_replicate]; omega
    have e : (at' + many).toNat = at'.toNat + many.toNat := by omega
    rw [e]; omega
theorem run_long {x many : Int} (h : 2 < many) : [x + 8, many - 1] = run1 x (many - 1).toNat := by
  unfold run1
  rw [if_pos (by omega)]
  have : ((many - 1).toNat : Int) = many - 1 := by omega
  rw [this]
theorem run_short {x many : Int} (h0 : 1 ≤ many) (h : ¬ 2 < many) : List.replicate many.toNat x = run1 x (many - 1).toNat := by
  unfold run1
  rw [if_neg (by omega)]
  have : (many - 1).toNat + 1 = many.toNat := by omega
  rw [this]
end Mine

namespace Mine

section
variable {w : World} {pT : Program} {lT : List Str} {mean : ExcName → Option Value} {mg mb : Str → Option Value} {A A₀ : Around} {base h₀ : Heap} {outer : List Env} {env : Env} {L : Addr} {m : Str → Option Value} {s : Shared} {Q E : Value → Shared → Prop}

theorem out_lo {ns found : List Int} {at' : Int} (h : OutInv ns at' found) : 0 ≤ at' := h.1
theorem out_hi {ns found : List Int} {at' : Int} (h : OutInv ns at' found) : at' ≤ (ns.length : Int) := h.2.1
theorem out_len {ns found : List Int} {at' : Int} (h : OutInv ns at' found) (hl : ns.length ≤ 600) : found.length ≤ 1800 := by
  have h1 := h.2.1
  have h2 := h.2.2.2
  omega
theorem flag_in {ns : List Int} (hf : Flag ns) {i : Nat} (h : i < ns.length) : ns.getD i 0 ∈ [(0 : Int), 1, 5, 49, 55, 16, 247] := by
  have : ns.getD i 0 = ns[i] := by simp [List.getD, h]
  rw [this]; exact hf.2 _ (List.getElem_mem h)
theorem flag_or {x : Int} (h : x ∈ [(0 : Int), 1, 5, 49, 55, 16, 247]) : Builtin.bitOr x 8 = x + 8 := by
  simp only [List.mem_cons, List.not_mem_nil, or_false] at h
  rcases h with rfl | rfl | rfl | rfl | rfl | rfl | rfl <;> decide +kernel

section
theorem flag_8 {x : Int} (h : x ∈ [(0 : Int), 1, 5, 49, 55, 16, 247]) : 0 ≤ x ∧ x < 248 := (by decide : ∀ y ∈ [(0 : Int), 1, 5, 49, 55, 16, 247], 0 ≤ y ∧ y < 248) x h
theorem in8_one {x : Int} (h : x ∈ [(0 : Int), 1, 5, 49, 55, 16, 247]) : In8 [x] := by
  have := flag_8 h
  intro y hy
  rw [List.mem_singleton.mp hy]; omega
theorem in8_two {x y : Int} (h : x ∈ [(0 : Int), 1, 5, 49, 55, 16, 247]) (h0 : 0 ≤ y) (h1 : y < 256) : In8 [x + 8, y] := by
  have := flag_8 h
  intro z hz
  rcases List.mem_cons.mp hz with rfl | hz
  · omega
  · rw [List.mem_singleton.mp hz]; omega
theorem or8 {x : Int} {t u : Tok} (hx : x ∈ [(0 : Int), 1, 5, 49, 55, 16, 247]) (h : Q (.int (x + 8) s.toks) { s with toks := s.toks + 1 }) :
    wpAny (model PySem.Challenge.rw_on0233_01.row.prog w) A (binaryOp .BitOr (.int x t) (.int 8 u)) Q E s := or_int (by rw [flag_or hx]; exact h)
theorem octets_core {l : Addr} {vs : List Value} {ns : List Int} {n : Nat}
    (C : Cx w pT lT mean mg mb A A₀ 480 1400 base h₀ outer env L m s.heap)
    (N : News h₀ L s.heap [(l, W.listOf vs.toArray n)]) (hi : IntsAre vs ns) (hf : Flag ns)
    (k : ∀ (t : Tok) (h' : Heap) (tk' : Nat), Fr h₀ L h' m → News h₀ L h' [(l, W.listOf vs.toArray n)] → Kept [l] s.heap h' → Q (.bytes (byteArr (enc ns)) t) { s with heap := h', toks := tk' }) :
    wpAny (model PySem.Challenge.rw_on0233_01.row.prog w) A (call (.ref 165) [.ref l]) Q E s := by
  k_with_none
  k_with "omega" => first | with_reducible assumption | decide | (with_reducible exact oN1 (by with_reducible assumption) (by decide)) | (with_reducible exact oN2 (by with_reducible assumption) (by decide)) | (with_reducible exact oN3 (by with_reducible assumption) (by decide)) | (with_reducible exact oN4 (by with_reducible assumption) (by decide)) | (with_reducible exact oN5 (by with_reducible assumption) (by decide)) | (with_reducible exact oN6 (by with_reducible assumption) (by decide)) | (with_reducible exact oN7 (by with_reducible assumption) (by decide)) | (with_reducible exact oN8 (by with_reducible assumption) (by decide)) | (with_reducible exact oI1 (by with_reducible assumption) (by decide)) | (with_reducible exact oI2 (by with_reducible assumption) (by decide)) | (with_reducible exact oI3 (by with_reducible assumption) (by decide)) | (with_reducible exact oI4 (by with_reducible assumption) (by decide)) | (with_reducible exact oI5 (by with_reducible assumption) (by decide)) | (with_reducible exact oI6 (by with_reducible assumption) (by decide)) | (with_reducible exact oI7 (by with_reducible assumption) (by decide)) | (with_reducible exact oI8 (by with_reducible assumption) (by decide)) | fail
  k_with "k_pk" => first | exact lA0 | exact lA1 | exact lA2 | exact lA3 | exact lA4 | exact lE1 | exact lE2 | exact lE3 | exact lE4 | exact lE5 | (refine cF ?_; k_extra "k_pk")
  k_with "k_pe" => first | exact eA0 | exact eA1 | exact eA2 | exact eA3 | exact eA4 | exact eE1 | exact eE2 | exact eE3 | exact eE4 | exact eE5 | (refine cF ?_; k_extra "k_pe")
  k_with "k_ltN" => with_reducible first | assumption | exact pL (by with_reducible assumption) (by k_extra "k_pk")
  k_with "k_ne" => (refine neN ?_; (try dsimp only); first | (with_reducible first | exact n01 | exact n02 | exact n03 | exact n04 | exact n05 | exact n01.symm | exact n02.symm | exact n03.symm | exact n04.symm | exact n05.symm | with_reducible assumption | exact Ne.symm (by with_reducible assumption) | exact Nat.ne_of_lt (by k_extra "k_ltN") | exact Nat.ne_of_gt (by k_extra "k_ltN") | exact nS1 (by k_extra "k_ltN") | exact Ne.symm (nS1 (by k_extra "k_ltN")) | exact nS2 (by k_extra "k_ltN") | exact Ne.symm (nS2 (by k_extra "k_ltN")) | exact nS3 (by k_extra "k_ltN") | exact Ne.symm (nS3 (by k_extra "k_ltN")) | exact nS4 (by k_extra "k_ltN") | exact Ne.symm (nS4 (by k_extra "k_ltN")) | exact nS5 (by k_extra "k_ltN") | exact Ne.symm (nS5 (by k_extra "k_ltN")) | exact nS6 (by k_extra "k_ltN") | exact Ne.symm (nS6 (by k_extra "k_ltN")) | exact nT (by with_reducible assumption) (by k_extra "k_ltN") | exact Ne.symm (nT (by with_reducible assumption) (by k_extra "k_ltN")) | exact pN (by with_reducible assumption) (by k_extra "k_pe") | exact Ne.symm (pN (by with_reducible assumption) (by k_extra "k_pe"))) | omega)
  k_with "cell_enter" => ((refine' enter_call ?qzC ?qzN ?qzk6 ?qzk7 ?qzk8 ?qzk9 ?qzkB ?_ ?qzc2 ?qzc3 ?qzc4 ?qzc5; (case qzC => assumption); (case qzN => assumption); (case qzk6 => k_is); (case qzk7 => k_is); (case qzk8 => decide); (case qzk9 => exact BindsTo.of_eq rfl); (case qzc5 => decide); (case qzkB => exact locs rfl); (case qzc2 => exact rfl); (case qzc3 => exact rfl); (case qzc4 => exact rfl); k_whole; intro g'z L'z h'z X0'z T0'z G'z nL'z F'z N'z B'z X'z T'z; (try dsimp only); (try k_fold)))
  k_with "binaryOp BitOr int int" => ((k_here; k_dflt (refine' or8 ?qzh ?_; (case qzh => exact flag_in (by assumption) (by omega)); k_whole)))
  k_with "call type:bytes" => ((k_here; k_dflt (refine' by_make ?qzF ?qzN ?qzhh ?qzhm ?qzhi ?qzhr ?qzhn ?_; (case qzF => k_asm); (case qzN => k_asm); (case qzhh => exact rfl); (case qzhm => k_mem); (case qzhi => first | assumption | l_intsW); (case qzhr => first | exact in8_one (flag_in (by assumption) (by omega)) | exact in8_two (flag_in (by assumption) (by omega)) (by omega) (by omega)); (case qzhn => exact Nat.le_of_ble_eq_true rfl); k_whole); intro h'z t'z k'z F'z N'z z'z; (try k_sweep)))
  k_with "binaryOp Add bytes bytes" => ((k_here; k_dflt (refine' by_add ?qzha ?qzhb ?qzz ?_; (case qzha => assumption); (case qzhb => first | assumption | exact Nat.le_refl _); (case qzz => exact Nat.le_of_ble_eq_true rfl); k_whole); intro t'z k'z z'z))
  k_with "binaryOp Mult bytes int" => ((k_here; k_dflt (refine' by_mul ?qzha ?qzhb ?_; (case qzha => omega); (case qzhb => omega); k_whole); intro t'z k'z z'z))
  k_with "ksw_same" => ((intro z h2 h3; (try simp only [List.forall_mem_cons, List.not_mem_nil, false_implies, implies_true, and_true, ne_eq] at h2); (try simp only [List.contains_cons, List.contains_nil, Bool.or_false, Bool.or_eq_false_iff, beq_eq_false_iff_ne, ne_eq] at h3); (simp [kstB, h2, h3]; done)))
  k_with "WhX" => ((refine WhX.intro (by assumption) (by assumption) ?_; first | assumption | exact Or.inl (by assumption) | exact Or.inr (Or.inl (by assumption)) | exact Or.inr (Or.inr (by assumption)) | omega))
  have hlen : ns.length ≤ 600 := hf.1
  k_dflt cell_enter
  clear C N
  k_with "exec While Compare cons nil" => (
    refine' while_x (σ := Int × Tok × List Int × Tok) (fun _ => [(l, W.listOf vs.toArray n)]) (fun c => [(Str.ofString "at", .int c.1 c.2.1), (Str.ofString "found", .bytes (byteArr c.2.2.1) c.2.2.2)]) [Str.ofString "many"] (fun c => OutInv ns c.1 c.2.2.1) (fun c => ¬ c.1 < (ns.length : Int)) (fun c => ((ns.length : Int) - c.1).toNat) (0, _, [], _) ?kF ?kN ?kk (out_start ns) ?kt ?kd
    (case kF => assumption)
    (case kN => assumption)
    (case kk => kst_all)
    case' kt =>
      rintro ⟨at', t1, ks, t2⟩ u hh tk hOut F1 N1
      (try dsimp only at hOut F1 N1 ⊢)
      have hOut0 := out_lo hOut
      have hOut1 := out_hi hOut
      have hOut2 := out_len hOut hlen
      (try k_fold)
    case' kd =>
      rintro ⟨at', t1, ks, t2⟩ u hh tk hOut hX F1 N1
      (try dsimp only at hOut hX F1 N1 ⊢)
      (try k_fold))
  k_with "exec While BoolOp cons nil" => (
    refine' while_x (σ := Int × Tok) (fun _ => [(l, W.listOf vs.toArray n)]) (fun c => [(Str.ofString "many", .int c.1 c.2)]) [] (fun c => InInv ns at' c.1) (fun c => ¬ at' + c.1 < (ns.length : Int) ∨ ns.getD (at' + c.1).toNat 0 ≠ ns.getD at'.toNat 0 ∨ ¬ c.1 ≤ 255) (fun c => (256 - c.1).toNat) (1, _) ?jF ?jN ?jk (in_start hOut (by assumption)) ?jt ?jd
    (case jF => assumption)
    (case jN => assumption)
    (case jk => kst_all)
    case' jt =>
      rintro ⟨many, t3⟩ u2 hh2 tk2 hIn F2 N2
      (try dsimp only at hIn F2 N2 ⊢)
      obtain ⟨_, hIn1, hIn2, hIn3, _⟩ := id hIn
      (try k_fold)
    case' jd =>
      rintro ⟨many, t3⟩ u2 hh2 tk2 hIn hXi F2 N2
      (try dsimp only at hIn hXi F2 N2 ⊢)
      obtain ⟨_, hIn1, hIn2, hIn3, _⟩ := id hIn
      (try k_fold))
  k_with "state" => first | exact in_turn hIn (by assumption) (by assumption) (by assumption) | exact out_turn hOut hIn hXi (run_long (by assumption)) | exact out_turn hOut hIn hXi (run_short (by assumption) (by assumption))
  w_top off
  k_steps
  rw [out_end hOut hX]
  exact k _ _ _ (by assumption) (news_sub (by assumption) (List.forall_mem_cons.mpr ⟨by k_mem, List.forall_mem_nil _⟩)) (kept_of (by assumption) (by assumption) (by rfl))
end
/-- a call that reads one list and makes no more than garbage -/
theorem keep1 {h₀ h h' : Heap} {L l : Addr} {o : Obj} {news : List (Addr × Obj)} (N : News h₀ L h news) (hm : (l, o) ∈ news) (N' : News h₀ L h' [(l, o)]) (K : Kept [l] h h') : News h₀ L h' news := by
  intro p hp
  have h1 := N p hp
  refine ⟨?_, h1.2⟩
  by_cases e : p.1 = l
  · have h2 := (N _ hm).1
    have h3 := h1.1
    rw [e, h2] at h3
    rw [e, ← Option.some.inj h3]
    exact (N' _ (.head _)).1
  · exact K _ _ h1.1 (by simpa using e)
theorem octets_x {l : Addr} {vs : List Value} {ns : List Int} {n : Nat} {news : List (Addr × Obj)}
    (C : Cx w pT lT mean mg mb A A₀ 480 1400 base h₀ outer env L m s.heap)
    (N : News h₀ L s.heap news) (hm : (l, W.listOf vs.toArray n) ∈ news) (hi : IntsAre vs ns) (hf : Flag ns)
    (k : ∀ (t : Tok) (h' : Heap) (tk' : Nat), Fr h₀ L h' m → News h₀ L h' news → Q (.bytes (byteArr (enc ns)) t) { s with heap := h', toks := tk' }) :
    wpAny (model PySem.Challenge.rw_on0233_01.row.prog w) A (call (.ref 165) [.ref l]) Q E s :=
  octets_core C (fun p hp => by rw [List.mem_singleton.mp hp]; exact N _ hm) hi hf fun t h' tk' F' N' K => k t h' tk' F' (keep1 N hm N' K)
end
end Mine

namespace Mine
section
variable {prog : Program} {w : World} {A : Around} {E : Value → Shared → Prop} {s : Shared} {env : Env} {h₀ : Heap} {target : Expr} {body : List Stmt} {Q : Flow → Shared → Prop}
noncomputable def TnEnd (h₀ : Heap) (L : Addr) (I : Addr) (io : Obj) (Jn : (Str → Option Value) → List (Addr × Obj) → Prop) (s₁ s₂ : Shared) : Prop :=
  ∃ h' tk m' nx, s₂ = { s₁ with heap := h', toks := tk } ∧ Fr h₀ L h' m' ∧ News h₀ L h' ((I, io) :: nx) ∧ (∀ p ∈ nx, p.1 ≠ I) ∧ Jn m' nx
noncomputable def TnPost (h₀ : Heap) (L : Addr) (I : Addr) (io : Obj) (Jn : (Str → Option Value) → List (Addr × Obj) → Prop) (s₁ : Shared) (Q : Flow → Shared → Prop) (f : Flow) (s₂ : Shared) : Prop :=
  match f with
  | .ret v => Q (.ret v) s₂
  | .brk => Q .next s₂
  | _ => TnEnd h₀ L I io Jn s₁ s₂
theorem TnEnd.intro {L I : Addr} {io : Obj} {Jn : (Str → Option Value) → List (Addr × Obj) → Prop} {s₁ : Shared} {h' : Heap} {tk : Nat} {m' : Str → Option Value} {nx : List (Addr × Obj)} (F : Fr h₀ L h' m') (N : News h₀ L h' ((I, io) :: nx)) (hn : ∀ p ∈ nx, p.1 ≠ I) (j : Jn m' nx) :
    TnEnd h₀ L I io Jn s₁ { s₁ with heap := h', toks := tk } := ⟨h', tk, m', nx, rfl, F, N, hn, j⟩
/-- a for over a made list, by a word that may let the ledger grow -/
theorem turns_list {l : Addr} {vs : List Value} {nn : Nat} {m₀ : Str → Option Value} {news : List (Addr × Obj)} (J : Nat → (Str → Option Value) → List (Addr × Obj) → Prop)
    (hh : A.handled = none) (hl : (l, W.listOf vs.toArray nn) ∈ news) (F : Fr h₀ env.locals s.heap m₀) (N : News h₀ env.locals s.heap news) (hj : J 0 m₀ news) (hJl : ∀ i m nx, J i m nx → (l, W.listOf vs.toArray nn) ∈ nx)
    (turn : ∀ i v I io m₁ nx h tk, vs[i]? = some v → J i m₁ nx → (∀ p ∈ nx, p.1 ≠ I) → Fr h₀ env.locals h m₁ → News h₀ env.locals h ((I, io) :: nx) →
      wpAny (model prog w) A (assign target env v) (fun _ s₃ => wpAny (model prog w) A (execs body env) (TnPost h₀ env.locals I io (J (i + 1)) { s with heap := h, toks := tk } Q) E s₃) E { s with heap := h, toks := tk })
    (done : ∀ m₁ nx h tk, J vs.length m₁ nx → Fr h₀ env.locals h m₁ → News h₀ env.locals h nx → Q .next { s with heap := h, toks := tk }) :
    wpAny (model prog w) A (pyIter (.ref l)) (fun it s₂ => TurnsAt prog w A h₀ env target body Q E it s₂) E s := by
  have hol := (N _ hl).1
  have hls : s.heap.IsList l vs.toArray := ⟨_, hol, rfl, nn, rfl⟩
  have hne : l ≠ s.heap.objs.size := Nat.ne_of_lt (Heap.lt_size hol)
  refine wpAny_pyIter_list hls ?_
  have Wk := KTurns.ofWalks (target := target) (Walks.list (prog := prog) (w := w) hh s.heap.objs.size l hne vs.toArray) fun i v s Q E st q => letGo_listiter st.1 q
  rw [List.size_toArray] at Wk
  refine ⟨_, _, _, vs.length, _, _, _, m₀, news, J, rfl, Wk, ?_, ?_, ?_, ⟨⟨_, Heap.get?_push_size _ rfl, rfl, rfl⟩, hls.at fun o e => Heap.get?_push_of_some _ e⟩, F.push _, (fun p hp => ⟨Heap.get?_push_of_some _ (N p hp).1, (N p hp).2⟩), hj, ?_, ?_⟩
  · intro hm
    rcases List.mem_cons.mp hm with e | hm
    · exact absurd F.ns.lt (e ▸ Nat.lt_irrefl _)
    · exact (N _ hl).2.1 (List.mem_singleton.mp hm).symm
  · intro b hb
    rw [List.mem_singleton.mp hb]
    exact next_is_new F
  · intro p hp hI
    exact absurd (Heap.lt_size (N p hp).1) ((List.mem_singleton.mp hI) ▸ Nat.lt_irrefl _)
  · intro i v m₁ nx h tk own hlt hP hJ hnw hown hgot hall hst F₁ N₁
    obtain ⟨⟨io, hio, hic⟩, _⟩ := hst
    have hIn : h₀.get? s.heap.objs.size = none := next_is_new F
    have hIo : (s.heap.objs.size, io) ∈ own := hall _ (by simp) hIn _ hio
    have hv : vs[i]? = some v := by simpa using hP
    refine wpAny_mono (turn i v s.heap.objs.size io m₁ nx h tk hv hJ (fun p hp => by simpa using hnw p hp) F₁ (fun p hp => ?_)) (fun _ s₃ z => wpAny_mono z (fun f s₄ z => ?_) fun _ _ e => e) fun _ _ e => e
    · rcases List.mem_cons.mp hp with rfl | hp
      · exact N₁ _ (List.mem_append_left _ hIo)
      · exact N₁ _ (List.mem_append_right _ hp)
    · have fin : TnEnd h₀ env.locals s.heap.objs.size io (J (i + 1)) { s with heap := h, toks := tk } s₄ → LoopStepU h₀ env.locals [s.heap.objs.size] own (J (i + 1)) { s with heap := h, toks := tk } .next s₄ := by
        rintro ⟨h', tk', m', nx', rfl, F', N', hn', j'⟩
        refine LoopStepU.intro F' (fun p hp => ?_) (fun p hp => by simpa using hn' p hp) j'
        rcases List.mem_append.mp hp with hp | hp
        · rcases List.mem_cons.mp (hown p hp) with e | e
          · have h1 := hgot p hp
            rw [e, hio] at h1
            have : p = (s.heap.objs.size, io) := Prod.ext e (Option.some.inj h1).symm
            rw [this]
            exact N' _ (.head _)
          · have e' := List.mem_singleton.mp e
            have h1 := hgot p hp
            have h2 := (N₁ _ (List.mem_append_right _ (hJl _ _ _ hJ))).1
            rw [e', h2] at h1
            have : p = (l, W.listOf vs.toArray nn) := Prod.ext e' (Option.some.inj h1).symm
            rw [this]
            exact N' _ (.tail _ (hJl _ _ _ j'))
        · exact N' _ (.tail _ hp)
      cases f with
      | ret v => exact .ret z
      | brk => exact .brk z
      | next => exact .next (fin z)
      | cont => exact .cont (fin z)
  · intro h' tk m' nx F' N' _ hJ
    exact done m' nx h' tk hJ F' N'
end
end Mine

namespace Mine
noncomputable abbrev faultMro : List Value := [.ref 38, .type "Exception", .type "BaseException", .type "object"]
noncomputable abbrev faultExc (t : Addr) (d : Option Addr) : Obj := { cls := .ref 51, dict := d, data := .fields #[.ref t, .none, .none, .none, .bool false, .none] }
section
variable {prog : Program} {w : World} {A : Around} {R : Result → Shared → Prop} {h : Heap} {g : Array GenState} {d : Drawn} {t : Nat} {os : OsState}
variable {nm q : Str} {N : Addr} {bs : List Value} {hdct : Bool} {sn : List Str} {sub : List Value} {ab : Bool} {col : Option Bool} {dd : Option Addr} {k0 k1 k2 k3 k5 : Option Value}

theorem fault_new {v : Value} (hC : h.get? 51 = some (excClassObj nm q 51 N bs faultMro hdct sn sub ab col dd k0 k1 k2 k3 k5 "Exception.__new__"))
    (hq : R (.ok (.ret (.ref (h.objs.size + 1)))) ⟨(h.push { cls := .type "tuple", data := .seq #[v] }).push (faultExc h.objs.size none), g, d, t, os⟩) :
    codeAny (model prog w) A (.builtin "Exception.__new__" ⟨[.ref 51, v], []⟩) R ⟨h, g, d, t, os⟩ := by
  have Fn := PySem.F.excBase_Exception
  have hends := Fn.ends
  have hcB : (Value.ref 51 :: faultMro).contains (.type "Exception") = true := by decide +kernel
  have hcA : (Value.ref 51 :: faultMro).contains (.type "AttributeError") = false := by decide +kernel
  have hcN : (Value.ref 51 :: faultMro).contains (.type "NameError") = false := by decide +kernel
  refine codeAny_builtinAt Fn.entry ?_
  unfold Builtin.«BaseException.__new__»
  refine PySem.wpAt_bind ?_
  show PySem.wpAt _ _ _ (stack >>= _) _ _ _
  refine PySem.wpAt_bind (PySem.wpAt_stack fun p below => PySem.wpAt_of_wpAny ?_)
  wp_walk
  refine PySem.wpAt_of_wpAny ?_
  rw [Fn.owner]
  repeat (first | with_reducible refine wpAny_madeHere_exc Fn.canon hC ?_ | with_reducible refine wpAny_loadPart_at hC ?_ | (with_reducible refine wpAny_isSubtype_exc hC ?_; first | rw [hcB] | rw [hcA] | rw [hcN]) | wp_step)
  show R _ _
  rw [Heap.size_push]
  exact hq

theorem fault_typeCall {E : Value → Shared → Prop} {Q : Fin → Shared → Prop} {v : Value} (X : (theHeap w.params).In h) (hC : h.get? 51 = some (excClassObj nm q 51 N bs faultMro hdct sn sub ab col dd k0 k1 k2 k3 k5 "Exception.__new__"))
    (hq : wpAny (model prog w) A (call (.ref 35) [.ref (h.objs.size + 1), v]) (fun r s' => r = .none ∧ Q (.done (.ret (.ref (h.objs.size + 1)))) s') E ⟨(h.push { cls := .type "tuple", data := .seq #[v] }).push (faultExc h.objs.size none), g, d, t, os⟩) :
    wpAny (model prog w) A (Builtin.«type.__call__» ⟨[.ref 51, v], []⟩) Q E ⟨h, g, d, t, os⟩ := by
  have Fn := PySem.F.excBase_Exception
  repeat (first | with_reducible refine wpAny_loadPart_at hC ?_ | with_reducible refine wpAny_madeBy_exc hC ?_ | wp_step)
  refine codeAny_call_builtin_code (Code.quiet_builtin _ Fn.quiet) (wpAny_check_new_subU Fn (by decide +kernel) (OwnTail.base (bmB := faultMro)) hC ?_)
  refine fault_new hC ?_
  show wpAny _ _ _ _ _ _
  have hC₁ := Heap.get?_push_of_some (faultExc h.objs.size none) (Heap.get?_push_of_some { cls := .type "tuple", data := .seq #[v] } hC)
  have X₁ : (theHeap w.params).In ((h.push { cls := .type "tuple", data := .seq #[v] }).push (faultExc h.objs.size none)) := X.keeps fun b o e => Heap.get?_push_of_some _ (Heap.get?_push_of_some _ e)
  have hget : ((h.push { cls := .type "tuple", data := .seq #[v] }).push (faultExc h.objs.size none)).get? (h.objs.size + 1) = some (faultExc h.objs.size none) := by heap_get
  have hcC : (Value.ref 51 :: faultMro).contains (.ref 51) = true := by decide +kernel
  have hi : findIn (theHeap w.params) (.ref 51) "__init__" = some (some (.ref 35)) := by k_is
  have hf : typeIn (theHeap w.params) (.ref 35) = some (.type "function") := by k_is
  unfold isInstance
  repeat (first | with_reducible refine wpAny_loadPart_at hget ?_ | (with_reducible refine wpAny_isSubtype_exc hC₁ ?_; rw [hcC]) | wp_step)
  show wpAny _ _ (typeLookup (.ref 51) _) _ _ _
  refine (looks_findIn X₁ hi).here ?_
  refine wpAny_holding (wpAny_bind ((bind_fn X₁ _ hf).here ?_))
  refine wpAny_bind (wpAny_mono hq (fun r s' hr => ?_) fun _ _ x => x)
  obtain ⟨rfl, hQ⟩ := hr
  wp_walk
  exact hQ
theorem fault_call {E : Value → Shared → Prop} {Q : Value → Shared → Prop} {v : Value} (X : (theHeap w.params).In h)
    (hq : wpAny (model prog w) (A.under (.builtin "type.__call__" ⟨[.ref 51, v], []⟩)) (call (.ref 35) [.ref (h.objs.size + 1), v]) (fun r s' => r = .none ∧ Q (.ref (h.objs.size + 1)) s') E ⟨(h.push { cls := .type "tuple", data := .seq #[v] }).push (faultExc h.objs.size none), g, d, t, os⟩) :
    wpAny (model prog w) A (call (.ref 51) [v]) Q E ⟨h, g, d, t, os⟩ := by
  have hC : h.get? 51 = some (excClassObj _ _ 51 _ _ faultMro _ _ _ _ _ _ _ _ _ _ _ "Exception.__new__") := X _ _ (by k_is)
  have f1 := tc_lookup
  have f2 := tc_bind (.ref 51)
  have hT : (⟨h, g, d, t, os⟩ : Shared).TypeIs (.ref 51) "type" := ⟨_, hC, rfl⟩
  refine wpAny_call (codeAny_of_tree ?_)
  show wpAny _ _ (callAny (.ref 51) _) _ _ _
  repeat (any_goals (first | assumption | with_reducible refine wpAny_loadPart_at hC ?_ | wp_step))
  refine ⟨rfl, ?_⟩
  exact codeAny_call_builtin_at (Code.quiet_builtin _ (by decide +kernel)) entry_typeCall (wpAny_check_type_call_sub hC (fault_typeCall X hC hq))
end
section
open Builtin Builtin.ObjectAttr
variable {prog : Program} {w : World} {A : Around} {E : Value → Shared → Prop} {s : Shared}
theorem set_msg {e tt : Addr} {v : Value} {Q : Unit → Shared → Prop} (X : (theHeap w.params).In s.heap) (he : s.heap.get? e = some (faultExc tt none))
    (h : ∀ h' d tk', (∀ b o, b ≠ e → s.heap.get? b = some o → h'.get? b = some o) → h'.get? e = some (faultExc tt (some d)) → Q () { s with heap := h', toks := tk' }) :
    wpAny (model prog w) A (setAttr (.ref e) (Str.ofString "message") v) Q E s := by
  have I : InstAt s.heap e (faultExc tt none) 51 none := ⟨he, rfl, rfl, trivial⟩
  have SF := PySem.F.store_object
  have hmo : mroIn (theHeap w.params) 51 (.type "object") = some true := by k_is
  have ha : findIn (theHeap w.params) (.ref 51) "message" = some none := by k_is
  have hs : findIn (theHeap w.params) (.ref 51) "__setattr__" = some (some (.builtin "object.__setattr__")) := by k_is
  have hC : s.heap.get? 51 = some (excClassObj _ _ 51 _ _ faultMro true _ _ _ _ _ _ _ _ _ _ "Exception.__new__") := X _ _ (by k_is)
  refine set_plain X I hs ?_
  have sub : Looks (model prog w) s.heap (isInstance (.ref e) (.type "object")) true := I.type.andThen (looks_mroIn X hmo)
  refine codeAny_call_builtin SF.slot.plain SF.entry (@check_slot (model prog w) _ _ { s with toks := s.toks + 1 } "object.__setattr__" "object" "__setattr__" (.ref e) [.str (Str.ofString "message") s.toks, v] [] _ SF.kind SF.split sub (SF.args (.ref e) (.str (Str.ofString "message") s.toks) v) ?_)
  rw [osa_eq, refuse_eq]
  refine wpAny_bind (wpAny_bind (I.type.here (s := { s with toks := s.toks + 1 }) (wpAny_bind (wpAny_mroOf_exc hC ?_))))
  rw [refuseLoop_ref, refuseLoop_ref, PySem.F.store_Exception.passes]
  refine wpAny_pure (wpAny_bind (I.type.here (s := { s with toks := s.toks + 1 }) (wpAny_bind ((looks_findIn X ha).here (s := { s with toks := s.toks + 1 }) (wpAny_bind (wpAny_pure ?_))))))
  show wpAny _ _ (storeInOwnDict _ _ _ _ _ _) _ _ _
  refine wpAny_bind (wpAny_pure (wpAny_bind (wpAny_bind (wpAny_loadPart he (wpAny_bind ?_)))))
  refine wpAny_bind (wpAny_load hC (wpAny_pure ?_))
  have hne : e ≠ s.heap.objs.size := Nat.ne_of_lt (Heap.lt_size he)
  have he₁ := Heap.get?_push_of_some emptyDict he
  have hd₁ : (s.heap.push emptyDict).get? s.heap.objs.size = some emptyDict := Heap.get?_push_size _ rfl
  show wpAny _ _ (alloc emptyDict >>= fun d => update e (fun o => { o with dict := some d }) >>= fun _ => pure (some d)) _ _ _
  refine wpAny_bind (wpAny_alloc (wpAny_bind (wpAny_update he₁ (wpAny_pure ?_))))
  have he₂ : ((s.heap.push emptyDict).update e fun o => { o with dict := some s.heap.objs.size }).get? e = some (faultExc tt (some s.heap.objs.size)) := Heap.get?_update_self _ he₁ rfl
  have hd₂ : ((s.heap.push emptyDict).update e fun o => { o with dict := some s.heap.objs.size }).get? s.heap.objs.size = some emptyDict := (Heap.get?_update_other _ _ hne).trans hd₁
  show wpAny _ _ (storeInDict _ _ _ _) _ _ _
  refine wpAny_bind (wpAny_pure (wpAny_bind ?_))
  unfold nsSet
  refine wpAny_bind (wpAny_bind (wpAny_askSetting (wpAny_pure (wpAny_bind (wpAny_mkText (wpAny_bind (wpAny_loadPart hd₂ ?_)))))))
  dsimp only [emptyDict]
  rw [aRefKeyMayBeTheName_at, (show (!(#[] : Array DictEntry).any (·.key.isStr (Str.ofString "message")) && (#[] : Array DictEntry).any (·.refKey)) = false from by simp)]
  refine wpAny_updatePart hd₂ ?_
  have hpn := putName_dict (Str.ofString "message") (PyData.keyHash w.params (Str.ofString "message")) (.str (Str.ofString "message") (s.toks + 1)) v [] 0
  have hd₃ := Heap.get?_update_self (Obj.putName (Str.ofString "message") (PyData.keyHash w.params (Str.ofString "message")) (.str (Str.ofString "message") (s.toks + 1)) v) hd₂ (by show (Obj.putName _ _ _ _ (dictOf [] 0)).isFreed = false; rw [hpn]; rfl)
  refine wpAny_bind (wpAny_lookBehind hd₃ (by show (Obj.putName _ _ _ _ (dictOf [] 0)).data.pastItsLine = none; rw [hpn]; exact pastItsLine_dict (by rw [List.size_toArray, sizeLine_eq]; exact Nat.le_of_ble_eq_true rfl)) ?_)
  refine wpAny_pure (h _ s.heap.objs.size _ (fun b o hb hbo => ?_) ?_)
  · have hbl : b ≠ s.heap.objs.size := Nat.ne_of_lt (Heap.lt_size hbo)
    rw [Heap.get?_update_other _ _ (Ne.symm hbl), Heap.get?_update_other _ _ (Ne.symm hb)]
    exact Heap.get?_push_of_some _ hbo
  · rw [Heap.get?_update_other _ _ (Ne.symm hne)]
    exact he₂
end
end Mine

namespace Mine
section
variable {w : World} {pT : Program} {lT : List Str} {mean : ExcName → Option Value} {mg mb : Str → Option Value} {A A₀ : Around} {base h₀ : Heap} {outer : List Env} {env : Env} {L : Addr} {m : Str → Option Value} {s : Shared} {Q E : Value → Shared → Prop}
theorem set_msgK {e tt : Addr} {v : Value} {Q : Unit → Shared → Prop} (F : Fr h₀ L s.heap m) (X₀ : (theHeap w.params).In h₀) (N : News h₀ L s.heap [(e, faultExc tt none)])
    (k : ∀ h' d tk', Fr h₀ L h' m → News h₀ L h' [(e, faultExc tt (some d))] → Q () { s with heap := h', toks := tk' }) :
    wpAny (model PySem.Challenge.rw_on0233_01.row.prog w) A (setAttr (.ref e) (Str.ofString "message") v) Q E s := by
  have D := N _ (.head _)
  refine set_msg (X₀.keeps F.keep) D.1 fun h' d tk' hk he => k h' d tk' ⟨?_, fun b o hb => ?_, F.above⟩ fun p hp => ?_
  · obtain ⟨oL, es, ep, hL, r⟩ := F.ns
    exact ⟨oL, es, ep, hk _ _ (Ne.symm D.2.1) hL, r⟩
  · refine hk _ _ (fun q => ?_) (F.keep _ _ hb)
    rw [q, D.2.2] at hb; cases hb
  · rw [List.mem_singleton.mp hp]
    exact ⟨he, D.2⟩
section
theorem init_core {e tt : Addr} {x : Str} {tx : Tok}
    (C : Cx w pT lT mean mg mb A A₀ 600 2000 base h₀ outer env L m s.heap) (N : News h₀ L s.heap [(e, faultExc tt none)])
    (k : ∀ d h' tk', Fr h₀ L h' m → News h₀ L h' [(e, faultExc tt (some d))] → Kept [e] s.heap h' → Q .none { s with heap := h', toks := tk' }) :
    wpAny (model PySem.Challenge.rw_on0233_01.row.prog w) A (call (.ref 35) [.ref e, .str x tx]) Q E s := by
  k_with_none
  k_with "omega" => first | with_reducible assumption | decide | (with_reducible exact oN1 (by with_reducible assumption) (by decide)) | (with_reducible exact oN2 (by with_reducible assumption) (by decide)) | (with_reducible exact oN3 (by with_reducible assumption) (by decide)) | (with_reducible exact oN4 (by with_reducible assumption) (by decide)) | (with_reducible exact oN5 (by with_reducible assumption) (by decide)) | (with_reducible exact oN6 (by with_reducible assumption) (by decide)) | (with_reducible exact oN7 (by with_reducible assumption) (by decide)) | (with_reducible exact oN8 (by with_reducible assumption) (by decide)) | (with_reducible exact oI1 (by with_reducible assumption) (by decide)) | (with_reducible exact oI2 (by with_reducible assumption) (by decide)) | (with_reducible exact oI3 (by with_reducible assumption) (by decide)) | (with_reducible exact oI4 (by with_reducible assumption) (by decide)) | (with_reducible exact oI5 (by with_reducible assumption) (by decide)) | (with_reducible exact oI6 (by with_reducible assumption) (by decide)) | (with_reducible exact oI7 (by with_reducible assumption) (by decide)) | (with_reducible exact oI8 (by with_reducible assumption) (by decide)) | fail
  k_with "k_pk" => first | exact lA0 | exact lA1 | exact lA2 | exact lA3 | exact lA4 | exact lE1 | exact lE2 | exact lE3 | exact lE4 | exact lE5 | (refine cF ?_; k_extra "k_pk")
  k_with "k_pe" => first | exact eA0 | exact eA1 | exact eA2 | exact eA3 | exact eA4 | exact eE1 | exact eE2 | exact eE3 | exact eE4 | exact eE5 | (refine cF ?_; k_extra "k_pe")
  k_with "k_ltN" => with_reducible first | assumption | exact pL (by with_reducible assumption) (by k_extra "k_pk")
  k_with "k_ne" => (refine neN ?_; (try dsimp only); first | (with_reducible first | exact n01 | exact n02 | exact n03 | exact n04 | exact n05 | exact n01.symm | exact n02.symm | exact n03.symm | exact n04.symm | exact n05.symm | with_reducible assumption | exact Ne.symm (by with_reducible assumption) | exact Nat.ne_of_lt (by k_extra "k_ltN") | exact Nat.ne_of_gt (by k_extra "k_ltN") | exact nS1 (by k_extra "k_ltN") | exact Ne.symm (nS1 (by k_extra "k_ltN")) | exact nS2 (by k_extra "k_ltN") | exact Ne.symm (nS2 (by k_extra "k_ltN")) | exact nS3 (by k_extra "k_ltN") | exact Ne.symm (nS3 (by k_extra "k_ltN")) | exact nS4 (by k_extra "k_ltN") | exact Ne.symm (nS4 (by k_extra "k_ltN")) | exact nS5 (by k_extra "k_ltN") | exact Ne.symm (nS5 (by k_extra "k_ltN")) | exact nS6 (by k_extra "k_ltN") | exact Ne.symm (nS6 (by k_extra "k_ltN")) | exact nT (by with_reducible assumption) (by k_extra "k_ltN") | exact Ne.symm (nT (by with_reducible assumption) (by k_extra "k_ltN")) | exact pN (by with_reducible assumption) (by k_extra "k_pe") | exact Ne.symm (pN (by with_reducible assumption) (by k_extra "k_pe"))) | omega)
  k_with "cell_enter" => ((refine' enter_call ?qzC ?qzN ?qzk6 ?qzk7 ?qzk8 ?qzk9 ?qzkB ?_ ?qzc2 ?qzc3 ?qzc4 ?qzc5; (case qzC => assumption); (case qzN => assumption); (case qzk6 => k_is); (case qzk7 => k_is); (case qzk8 => decide); (case qzk9 => exact BindsTo.of_eq rfl); (case qzc5 => decide); (case qzkB => exact locs rfl); (case qzc2 => exact rfl); (case qzc3 => exact rfl); (case qzc4 => exact rfl); k_whole; intro g'z L'z h'z X0'z T0'z G'z nL'z F'z N'z B'z X'z T'z; (try dsimp only); (try k_fold)))
  k_with "setAttr ref" => ((k_here; k_dflt (refine' set_msgK ?qzF ?qzX ?qzN ?_; (case qzF => k_asm); (case qzX => k_asm); (case qzN => k_asm); k_whole); intro h'z d'z tk'z F'z N'z; (try k_sweep)))
  k_dflt cell_enter
  clear C N
  w_top off
  k_steps
  exact k _ _ _ (by assumption) (by assumption) (kept_of (by assumption) (by assumption) (by rfl))
end
/-- FontFault(text) -/
theorem fault_make {x : Str} {tx : Tok} (C : Cx w pT lT mean mg mb A A₀ 590 1900 base h₀ outer env L m s.heap)
    (k : ∀ e tt d h' tk', s.heap.get? e = none → s.heap.get? tt = none → h'.get? e = some (faultExc tt (some d)) → h'.TupAt tt [.str x tx] → Kept [] s.heap h' → Q (.ref e) { s with heap := h', toks := tk' }) :
    wpAny (model PySem.Challenge.rw_on0233_01.row.prog w) A (call (.ref 51) [.str x tx]) Q E s := by
  obtain ⟨lo, hf, hk, B, F, X, T⟩ := C
  have hF := F
  obtain ⟨oL, es, ep, hL, r⟩ := F.ns
  have hLt := Heap.lt_size hL
  have hget : ((s.heap.push { cls := .type "tuple", data := .seq #[.str x tx] }).push (faultExc s.heap.objs.size none)).get? (s.heap.objs.size + 1) = some (faultExc s.heap.objs.size none) := by heap_get
  have kp : ∀ b o, s.heap.get? b = some o → ((s.heap.push { cls := .type "tuple", data := .seq #[.str x tx] }).push (faultExc s.heap.objs.size none)).get? b = some o := fun b o e => Heap.get?_push_of_some _ (Heap.get?_push_of_some _ e)
  have hn0 : s.heap.get? (s.heap.objs.size + 1) = none := Heap.get?_none_of_le (Nat.le_succ _)
  have hn1 : s.heap.get? s.heap.objs.size = none := Heap.get?_none_of_le (Nat.le_refl _)
  have F₂ := (hF.push { cls := .type "tuple", data := .seq #[.str x tx] }).push (faultExc s.heap.objs.size none)
  refine fault_call (X.keeps hF.keep) (init_core (tt := s.heap.objs.size) ⟨⟨?_, ?_, ?_, ?_, ?_⟩, hf, hk, B, F₂, X, T⟩ (fun p hp => ?_) fun d h' tk' F' N' K' => ⟨rfl, ?_⟩)
  · exact lo.handled
  · rw [depth_under_make]
    have := lo.depth
    omega
  · exact lo.frames
  · exact lo.guards
  · rw [units_under_make]
    have := lo.units
    omega
  · rw [List.mem_singleton.mp hp]
    refine ⟨hget, Nat.ne_of_gt (Nat.lt_succ_of_lt hLt), ?_⟩
    cases q : h₀.get? (s.heap.objs.size + 1) with
    | none => rfl
    | some o => have := hF.keep _ _ q; rw [hn0] at this; cases this
  · refine k _ s.heap.objs.size d h' tk' hn0 hn1 (N' _ (.head _)).1 ⟨_, 0, K' _ _ (Heap.get?_push_of_some _ (Heap.get?_push_at rfl rfl)) (fun q => absurd (List.mem_singleton.mp q) (Nat.ne_of_lt (Nat.lt_succ_self _))), rfl, rfl⟩ fun b o hb _ => K' b o (kp b o hb) fun q => ?_
    have := List.mem_singleton.mp q
    rw [this, hn0] at hb; cases hb
end
end Mine

namespace Mine
noncomputable abbrev framesOf (l : List Env) : List Addr := l.filterMap (·.frame)
/-- a FontFault on its way up, seen by who called in heap hc -/
noncomputable def Flew (hc : Heap) (dirty : List Addr) (l : List Env) (e : Addr) (h : Heap) : Prop :=
  ∃ B t vs, Heap.FlyingW B l e (.ref 51) (.ref t) h ∧ B.get? t = none ∧ h.TupAt t vs ∧ (∀ b o, hc.get? b = some o → b ∉ dirty → b ∉ framesOf l → B.get? b = some o) ∧
    (∀ b o, hc.get? b = some o → b ∈ framesOf l → ∃ sl, h.get? b = some { o with slots := sl })
section
variable {M : Model} {A₀ : Around} {Q : Unit → Shared → Prop} {E : Value → Shared → Prop} {s' : Shared} {base g h hc : Heap} {outer : List Env} {env : Env} {L' a e tt d : Addr} {m' : Str → Option Value} {name : Str} {scope : Scope} {cd : Value} {news news' : List (Addr × Obj)} {D U : Nat} {dirty : List Addr}

theorem frame_own {b : Addr} {o : Obj} (K : Below (AtD D U env outer) base (env :: outer) g) (G : Gr hc g news) (hm : b ∈ framesOf (env :: outer)) (e : hc.get? b = some o) : g.get? b = some o ∧ ∀ vs, o.data ≠ .fields vs := by
  obtain ⟨_, o', ho, hd⟩ := K.frames.mem hm
  have := G.back _ _ ho
  rw [this] at e
  cases e
  exact ⟨ho, hd⟩
theorem old_own {b : Addr} {o : Obj} (K : Below (AtD D U env outer) base (env :: outer) g) (F : Fr g L' h m') (G : Gr hc g news) (hnow : ∀ p ∈ news', h.get? p.1 = some p.2) (hd : ∀ p ∈ news, p.1 ∈ dirty ∨ p ∈ news') (e : hc.get? b = some o) (hb : b ∉ dirty) : h.get? b = some o := by
  by_cases hm : b ∈ news.map (·.1)
  · obtain ⟨p, hp, rfl⟩ := List.mem_map.mp hm
    rcases hd p hp with q | q
    · exact absurd q hb
    · have h1 := G.now p hp
      rw [h1] at e
      cases e
      exact hnow p q
  · exact F.keep _ _ (G.keep _ _ e hm)

theorem leave_first (K : Below (AtD D U env outer) base (env :: outer) g) (F : Fr g L' h m') (N : News g L' h news') (G : Gr hc g news) (hL' : hc.get? L' = none) {vs : List Value}
    (he : s'.heap.get? e = some (faultExc tt (some d))) (hen : h.get? e = none) (htn : h.get? tt = none) (ht : s'.heap.TupAt tt vs) (Kp : Kept [] h s'.heap) (hd : ∀ p ∈ news, p.1 ∈ dirty ∨ p ∈ news')
    (hQ : ∀ h'', Flew hc dirty (env :: outer) e h'' → Q () { s' with heap := h'' }) (hk : scope.kind = .function := by rfl) :
    wpAny M ((AtD D U env outer).deeper (envOf name scope L' a cd)) (leaving (envOf name scope L' a cd) (.ref e)) Q E s' := by
  have K' := K.push (name := name) (a := a) (cd := cd) F hk
  have hin : ∀ en ∈ (envOf name scope L' a cd :: env :: outer), ∀ b, en.frame = some b → b ∈ framesOf (envOf name scope L' a cd :: env :: outer) := fun en he b hb => List.mem_filterMap.mpr ⟨en, he, hb⟩
  have hff : s'.heap.FunFrames (hideAll h (framesOf (envOf name scope L' a cd :: env :: outer))) (envOf name scope L' a cd :: env :: outer) :=
    (funFrames_hide K'.frames hin).of_keeps fun b o hb _ => ⟨o, Kp b o hb (by simp), rfl⟩
  refine wpAny_leaving_firstW (a0 := .ref tt) K'.stack hff rfl he (fun b o q => Kp b o (of_hideAll _ q) (by simp)) ?_ rfl rfl rfl fun h'' hL => ?_
  · cases q : (hideAll h (framesOf (envOf name scope L' a cd :: env :: outer))).get? e with
    | none => rfl
    | some o => have := of_hideAll _ q; rw [hen] at this; cases this
  · obtain ⟨k1, ⟨_, _, k2⟩, k3, k4⟩ := hL
    have hBe : (hideAll h (framesOf (envOf name scope L' a cd :: env :: outer))).get? e = none := by
      cases q : (hideAll h (framesOf (envOf name scope L' a cd :: env :: outer))).get? e with
      | none => rfl
      | some o => have := of_hideAll _ q; rw [hen] at this; cases this
    refine hQ h'' ⟨_, tt, vs, ⟨k1, hBe, k2, k3⟩, ?_, ht.of_slots k4, fun b o hb hbd hbf => ?_, fun b o hb hbf => ?_⟩
    · cases q : (hideAll h (framesOf (envOf name scope L' a cd :: env :: outer))).get? tt with
      | none => rfl
      | some o => have := of_hideAll _ q; rw [htn] at this; cases this
    · refine hideAll_get _ (old_own K F G (fun p hp => (N p hp).1) hd hb hbd) fun hm => ?_
      obtain ⟨en, hen', hfr⟩ := List.mem_filterMap.mp hm
      rcases List.mem_cons.mp hen' with rfl | hen'
      · have : L' = b := Option.some.inj hfr
        rw [← this, hL'] at hb; cases hb
      · exact hbf (List.mem_filterMap.mpr ⟨en, hen', hfr⟩)
    · obtain ⟨hg, hnf⟩ := frame_own K G hbf hb
      exact k4 b o (Kp b o (F.keep _ _ hg) (by simp)) hnf

theorem leave_next {di : List Addr} (K : Below (AtD D U env outer) base (env :: outer) g) (F : Fr g L' h m') (N : News g L' h news') (G : Gr hc g news) (hL' : hc.get? L' = none)
    (R : Flew h di (envOf name scope L' a cd :: env :: outer) e s'.heap) (hd : ∀ p ∈ news, p.1 ∈ dirty ∨ p ∈ news') (hdi : ∀ b ∈ di, b ∈ dirty ∨ hc.get? b = none)
    (hQ : ∀ h'', Flew hc dirty (env :: outer) e h'' → Q () { s' with heap := h'' }) :
    wpAny M ((AtD D U env outer).deeper (envOf name scope L' a cd)) (leaving (envOf name scope L' a cd) (.ref e)) Q E s' := by
  obtain ⟨B, t, vs, hfl, hBt, ht, r1, r2⟩ := R
  refine wpAny_leaves_onW (Around.frames_deeper (show (AtD D U env outer).frames = some (env :: outer) from rfl)) rfl hfl fun h'' x1 x2 => hQ h'' ⟨B, t, vs, x1, hBt, ht.of_slots x2, fun b o hb hbd hbf => ?_, fun b o hb hbf => ?_⟩
  · refine r1 b o (old_own K F G (fun p hp => (N p hp).1) hd hb hbd) (fun q => ?_) fun hm => ?_
    · rcases hdi b q with z | z
      · exact hbd z
      · rw [z] at hb; cases hb
    · obtain ⟨en, hen', hfr⟩ := List.mem_filterMap.mp hm
      rcases List.mem_cons.mp hen' with rfl | hen'
      · have : L' = b := Option.some.inj hfr
        rw [← this, hL'] at hb; cases hb
      · exact hbf (List.mem_filterMap.mpr ⟨en, hen', hfr⟩)
  · obtain ⟨hg, hnf⟩ := frame_own K G hbf hb
    obtain ⟨sl, hs⟩ := r2 b o (F.keep _ _ hg) (by
      obtain ⟨en, hen', hfr⟩ := List.mem_filterMap.mp hbf
      exact List.mem_filterMap.mpr ⟨en, .tail _ hen', hfr⟩)
    obtain ⟨sl', hs'⟩ := x2 b _ hs hnf
    exact ⟨sl', hs'⟩
end
end Mine

namespace Mine
noncomputable def FaultUp (E : Value → Shared → Prop) (v : Value) (s₁ : Shared) : Prop :=
  ∃ e t d nm q N bs hdct sn sub ab col dd k0 k1 k2 k3 k5, v = .ref e ∧ s₁.heap.get? 51 = some (excClassObj nm q 51 N bs faultMro hdct sn sub ab col dd k0 k1 k2 k3 k5 "Exception.__new__") ∧ s₁.heap.get? e = some (faultExc t (some d)) ∧ E (.ref e) s₁
section
variable {prog : Program} {w : World} {A : Around} {E : Value → Shared → Prop} {s : Shared} {env : Env} {Q : Flow → Shared → Prop}
theorem raise_made {x : Sem Value} (hh : A.handled = none) (h : wpAny (model prog w) A x (FaultUp E) E s) : wpAny (model prog w) A (raiseStmt env (some x) none) Q E s := by
  have hcB : (Value.ref 51 :: faultMro).contains (.type "BaseException") = true := by decide +kernel
  unfold raiseStmt
  refine wpAny_bind (wpAny_mono h (fun v s₁ h₁ => ?_) fun _ _ x => x)
  obtain ⟨e, t, d, nm, q, N, bs, hdct, sn, sub, ab, col, dd, k0, k1, k2, k3, k5, rfl, hC, he, hE⟩ := h₁
  obtain ⟨hp, g, dr, tk, os⟩ := s₁
  repeat (first | with_reducible refine wpAny_loadPart_at he ?_ | with_reducible refine wpAny_loadPart_at hC ?_ | (with_reducible refine wpAny_isSubtype_exc hC ?_; rw [hcB]) | wp_step)
  exact wpAny_raiseNew_none hh hE
theorem raise_call {x : Str} {np cpos pos : Pos} {args : List Expr} (hh : A.handled = none) (h : wpAny (model prog w) A (eval (.Call (.Name x np) args [] cpos) env) (FaultUp E) E s) :
    wpAny (model prog w) A (exec (.Raise (some (.Call (.Name x np) args [] cpos)) none pos) env) Q E s := by
  rw [arm_exec_Raise]
  refine wpAny_bind (wpAny_standAt ?_)
  show wpAny _ _ (raiseStmt env (some (eval (.Call (.Name x np) args [] cpos) env >>= fun v => standAt pos >>= fun _ => pure v)) none) _ _ _
  exact raise_made hh (wpAny_bind (wpAny_mono h (fun v s₁ h₁ => wpAny_bind (wpAny_standAt (wpAny_pure h₁))) fun _ _ x => x))
theorem faultUp_of {e t d : Addr} {s₁ : Shared} (X : (theHeap w.params).In s₁.heap) (he : s₁.heap.get? e = some (faultExc t (some d))) (h : E (.ref e) s₁) : FaultUp E (.ref e) s₁ :=
  have hC : s₁.heap.get? 51 = some (excClassObj _ _ 51 _ _ faultMro _ _ _ _ _ _ _ _ _ _ _ "Exception.__new__") := X _ _ (by k_is)
  ⟨e, t, d, _, _, _, _, _, _, _, _, _, _, _, _, _, _, _, rfl, hC, he, h⟩
end
end Mine

namespace Mine
theorem look_bb : typeLookup (.type "bytes") "__bytes__" = pure (some (.builtin "bytes.__bytes__")) := by rw [typeLookup_type, builtinLookup_eq_fast]; kernel_rfl
section
variable {prog : Program} {w : World} {A : Around} {E : Value → Shared → Prop} {s : Shared}
theorem bb_new {b : Array UInt8} {t : Tok} {Q : Value → Shared → Prop} (hQ : Q (.bytes b t) s) :
    codeAny (model prog w) A (.call (.builtin "bytes.__new__") ⟨[.type "bytes", .bytes b t], []⟩) (wants Q E) s := by
  refine codeAny_of_tree ?_
  show wpAny _ A.in1 (do checkBuiltinCall "bytes.__new__" ⟨[.type "bytes", .bytes b t], []⟩; again (.builtin "bytes.__new__" ⟨[.type "bytes", .bytes b t], []⟩)) _ _ s
  refine wpAny_bind (wpAny_of_eq (F.bm_newCall _) (wpAny_pure ⟨plainId_quiet F.bm_plain _, codeAny_builtin F.bm_entry ?_⟩))
  rw [Around.under_plainId F.bm_plain _]
  unfold Builtin.«bytes.__new__»
  refine wpAny_bind (wpAny_of_eq (a := true) rfl ?_)
  refine bm_if_false rfl ?_
  refine wpAny_bind (wpAny_of_eq F.bm_sub ?_)
  refine bm_if_false rfl ?_
  refine wpAny_bind (wpAny_of_eq (F.bm_bind _) ?_)
  refine wpAny_bind (wpAny_of_eq (a := ()) rfl ?_)
  refine wpAny_bind (wpAny_of_eq (a := ()) rfl ?_)
  refine bm_if_false rfl ?_
  refine wpAny_bind (wpAny_of_eq (KBy.special_eq look_bb) ?_)
  refine wpAny_bind (wpAny_rule ?_)
  refine wpAny_bind (wpAny_of_eq (a := .type "bytes") rfl ?_)
  refine bm_if_true rfl ?_
  refine wpAny_pure ?_
  exact hQ
theorem bytes_bytes {b : Array UInt8} {t : Tok} {Q : Value → Shared → Prop} (hQ : Q (.bytes b t) s) : wpAny (model prog w) A (call (.type "bytes") [.bytes b t]) Q E s := by
  refine callType_codes (Q₁ := fun obj s₁ => s₁.TypeIs obj "bytes" ∧ Q obj s₁) F.bm_called (F.bm_typeCall _) F.entry_object_init
    (bb_new ⟨PySem.W.typeIs_bytes _ _ _, hQ⟩) fun obj s₁ h₁ => ?_
  exact ⟨h₁.1, F.args_object_init_2 obj _, object_init_meets F.bm_called.init.lookup F.bm_called.made (by decide) prog w A.in1 _ s₁ ⟨h₁.1, rfl, h₁.2⟩⟩
end
theorem byteArr_size' (ks : List Int) : (byteArr ks).size = ks.length := by simp [byteArr]
theorem byteArr_list (ks : List Int) : (byteArr ks).toList = ks.map fun n => n.toNat.toUInt8 := by simp [byteArr]
theorem picked_arr (ks : List Int) (lo hi : Option Int) : KBy.picked (byteArr ks) lo hi = byteArr ((ks.drop (lo.elim 0 (clipAt ks.length))).take (hi.elim ks.length (clipAt ks.length) - lo.elim 0 (clipAt ks.length))) := by
  rw [KBc.picked_eq, byteArr_list, byteArr_size']
  simp [byteArr, List.map_take, List.map_drop]
theorem picked_one {ks : List Int} {a : Int} (h0 : 0 ≤ a) (h1 : a + 1 ≤ (ks.length : Int)) : KBy.picked (byteArr ks) (some a) (some (a + 1)) = byteArr [ks.getD a.toNat 0] := by
  rw [picked_arr]
  have e1 : clipAt ks.length a = a.toNat := by unfold clipAt; rw [if_neg (Int.not_lt.mpr h0), Int.min_eq_left (by omega), Int.max_eq_right h0]
  have h2 : (0 : Int) ≤ a + 1 := Int.le_trans h0 (Int.le_add_of_nonneg_right (by decide))
  have e2 : clipAt ks.length (a + 1) = a.toNat + 1 := by unfold clipAt; rw [if_neg (Int.not_lt.mpr h2), Int.min_eq_left h1, Int.max_eq_right h2, Int.toNat_add h0 (by decide)]; rfl
  show byteArr ((ks.drop (clipAt ks.length a)).take (clipAt ks.length (a + 1) - clipAt ks.length a)) = _
  rw [e1, e2, Nat.add_sub_cancel_left]
  have hlt : a.toNat < ks.length := by omega
  rw [List.drop_eq_getElem_cons hlt, List.take_succ_cons, List.take_zero]
  simp [List.getD, hlt]
theorem picked_but_last (ks : List Int) : KBy.picked (byteArr ks) none (some (-1)) = byteArr ks.dropLast := by
  rw [picked_arr]
  have e1 : clipAt ks.length (-1) = ks.length - 1 := by unfold clipAt; rw [if_pos (by decide), Int.min_eq_left (by omega)]; omega
  show byteArr ((ks.drop 0).take (clipAt ks.length (-1) - 0)) = _
  rw [e1, List.drop_zero, Nat.sub_zero, List.dropLast_eq_take]
section
variable {M : Model} {A₀ : Around} {Q : Unit → Shared → Prop} {E : Value → Shared → Prop} {s' : Shared} {base g h hc : Heap} {outer : List Env} {env : Env} {L' a e tt d : Addr} {m' : Str → Option Value} {name : Str} {scope : Scope} {cd : Value} {news news' : List (Addr × Obj)} {D U : Nat} {w : World}
/-- leave_first, all of the ledger taken as touched -/
theorem leave_one (K : Below (AtD D U env outer) base (env :: outer) g) (F : Fr g L' h m') (N : News g L' h news') (G : Gr hc g news) (hL' : hc.get? L' = none) {vs : List Value}
    (he : s'.heap.get? e = some (faultExc tt (some d))) (hen : h.get? e = none) (htn : h.get? tt = none) (ht : s'.heap.TupAt tt vs) (Kp : Kept [] h s'.heap)
    (hQ : ∀ h'', Flew hc (news.map (·.1)) (env :: outer) e h'' → Q () { s' with heap := h'' }) (hk : scope.kind = .function := by rfl) :
    wpAny M ((AtD D U env outer).deeper (envOf name scope L' a cd)) (leaving (envOf name scope L' a cd) (.ref e)) Q E s' :=
  leave_first K F N G hL' he hen htn ht Kp (fun p hp => .inl (List.mem_map_of_mem hp)) hQ hk
theorem leave_two {di : List Addr} (K : Below (AtD D U env outer) base (env :: outer) g) (F : Fr g L' h m') (G : Gr hc g news) (hL' : hc.get? L' = none)
    (R : Flew h di (envOf name scope L' a cd :: env :: outer) e s'.heap) (hdi : ∀ b ∈ di, b ∈ news.map (·.1) ∨ g.get? b = none)
    (hQ : ∀ h'', Flew hc (news.map (·.1)) (env :: outer) e h'' → Q () { s' with heap := h'' }) :
    wpAny M ((AtD D U env outer).deeper (envOf name scope L' a cd)) (leaving (envOf name scope L' a cd) (.ref e)) Q E s' :=
  leave_next (news' := []) K F (fun p hp => absurd hp (by simp)) G hL' R (fun p hp => .inl (List.mem_map_of_mem hp)) (fun b hb => by
    rcases hdi b hb with h | h
    · exact .inl h
    · by_cases hm : b ∈ news.map (·.1)
      · exact .inl hm
      · right
        cases q : hc.get? b with
        | none => rfl
        | some o => have := G.keep _ _ q hm; rw [h] at this; cases this) hQ
theorem in_kept {h' : Heap} (X : (theHeap w.params).In g) (F : Fr g L' h m') (K : Kept [] h h') : (theHeap w.params).In h' := X.keeps fun b o e => K b o (F.keep b o e) (by simp)
end
end Mine

namespace Mine
section
variable {w : World} {pT : Program} {lT : List Str} {mean : ExcName → Option Value} {mg mb : Str → Option Value} {A A₀ : Around} {base h₀ : Heap} {outer : List Env} {env : Env} {L : Addr} {m : Str → Option Value} {s : Shared} {Q E : Value → Shared → Prop}
section
theorem part_core {ks : List Int} {at' : Int} {t ta ts : Tok}
    (C : Cx w pT lT mean mg mb A A₀ 560 1800 base h₀ outer env L m s.heap) (N : News h₀ L s.heap []) (hr : In8 ks) (hl : ks.length ≤ 5000) (h0 : 0 ≤ at')
    (k : at' + 1 ≤ (ks.length : Int) → ∀ t' h' tk', Fr h₀ L h' m → Kept [] s.heap h' → Q (.bytes (byteArr [ks.getD at'.toNat 0]) t') { s with heap := h', toks := tk' })
    (ke : ¬ at' + 1 ≤ (ks.length : Int) → ∀ e h' tk', Flew s.heap [] (env :: outer) e h' → E (.ref e) { s with heap := h', toks := tk' }) :
    wpAny (model PySem.Challenge.rw_on0233_01.row.prog w) A (call (.ref 81) [.bytes (byteArr ks) t, .int at' ta, .int 1 ts]) Q E s := by
  k_with_none
  k_with "omega" => first | with_reducible assumption | decide | (with_reducible exact oN1 (by with_reducible assumption) (by decide)) | (with_reducible exact oN2 (by with_reducible assumption) (by decide)) | (with_reducible exact oN3 (by with_reducible assumption) (by decide)) | (with_reducible exact oN4 (by with_reducible assumption) (by decide)) | (with_reducible exact oN5 (by with_reducible assumption) (by decide)) | (with_reducible exact oN6 (by with_reducible assumption) (by decide)) | (with_reducible exact oN7 (by with_reducible assumption) (by decide)) | (with_reducible exact oN8 (by with_reducible assumption) (by decide)) | (with_reducible exact oI1 (by with_reducible assumption) (by decide)) | (with_reducible exact oI2 (by with_reducible assumption) (by decide)) | (with_reducible exact oI3 (by with_reducible assumption) (by decide)) | (with_reducible exact oI4 (by with_reducible assumption) (by decide)) | (with_reducible exact oI5 (by with_reducible assumption) (by decide)) | (with_reducible exact oI6 (by with_reducible assumption) (by decide)) | (with_reducible exact oI7 (by with_reducible assumption) (by decide)) | (with_reducible exact oI8 (by with_reducible assumption) (by decide)) | fail
  k_with "k_pk" => first | exact lA0 | exact lA1 | exact lA2 | exact lA3 | exact lA4 | exact lE1 | exact lE2 | exact lE3 | exact lE4 | exact lE5 | (refine cF ?_; k_extra "k_pk")
  k_with "k_pe" => first | exact eA0 | exact eA1 | exact eA2 | exact eA3 | exact eA4 | exact eE1 | exact eE2 | exact eE3 | exact eE4 | exact eE5 | (refine cF ?_; k_extra "k_pe")
  k_with "k_ltN" => with_reducible first | assumption | exact pL (by with_reducible assumption) (by k_extra "k_pk")
  k_with "k_ne" => (refine neN ?_; (try dsimp only); first | (with_reducible first | exact n01 | exact n02 | exact n03 | exact n04 | exact n05 | exact n01.symm | exact n02.symm | exact n03.symm | exact n04.symm | exact n05.symm | with_reducible assumption | exact Ne.symm (by with_reducible assumption) | exact Nat.ne_of_lt (by k_extra "k_ltN") | exact Nat.ne_of_gt (by k_extra "k_ltN") | exact nS1 (by k_extra "k_ltN") | exact Ne.symm (nS1 (by k_extra "k_ltN")) | exact nS2 (by k_extra "k_ltN") | exact Ne.symm (nS2 (by k_extra "k_ltN")) | exact nS3 (by k_extra "k_ltN") | exact Ne.symm (nS3 (by k_extra "k_ltN")) | exact nS4 (by k_extra "k_ltN") | exact Ne.symm (nS4 (by k_extra "k_ltN")) | exact nS5 (by k_extra "k_ltN") | exact Ne.symm (nS5 (by k_extra "k_ltN")) | exact nS6 (by k_extra "k_ltN") | exact Ne.symm (nS6 (by k_extra "k_ltN")) | exact nT (by with_reducible assumption) (by k_extra "k_ltN") | exact Ne.symm (nT (by with_reducible assumption) (by k_extra "k_ltN")) | exact pN (by with_reducible assumption) (by k_extra "k_pe") | exact Ne.symm (pN (by with_reducible assumption) (by k_extra "k_pe"))) | omega)
  k_with "cell_enter" => ((refine' enter_call ?qzC ?qzN ?qzk6 ?qzk7 ?qzk8 ?qzk9 ?qzkB ?_ ?qzc2 ?qzc3 ?qzc4 ?qzc5; (case qzC => assumption); (case qzN => assumption); (case qzk6 => k_is); (case qzk7 => k_is); (case qzk8 => decide); (case qzk9 => exact BindsTo.of_eq rfl); (case qzc5 => decide); (case qzkB => exact locs rfl); (case qzc2 => exact rfl); (case qzc3 => exact rfl); (case qzc4 => exact rfl); k_whole; intro g'z L'z h'z X0'z T0'z G'z nL'z F'z N'z B'z X'z T'z; (try dsimp only); (try k_fold)))
  k_with "exec Raise some none" => ((k_here; k_dflt (refine' raise_call ?qzhh ?_; (case qzhh => exact rfl); k_whole)))
  k_with "call type:bytes" => ((k_here; k_dflt (refine bytes_bytes ?_)))
  k_with "call ref" => ((k_here; k_dflt (refine' fault_make ?qzC ?_; (case qzC => exact ⟨⟨rfl, Nat.le_of_ble_eq_true rfl, rfl, rfl, Nat.le_of_ble_eq_true rfl⟩, rfl, rfl, by k_asm, by k_asm, by k_asm, by k_asm⟩); k_whole); intro e1'z t1'z d1'z h1'z tk1'z q1 q2 q3 q4 q5; refine' faultUp_of ?qzX ?qzhe ?_; (case qzX => exact in_kept (by k_asm) (by k_asm) (by assumption)); (case qzhe => assumption); k_whole))
  k_with "leaving ref" => ((k_here; refine' leave_one ?qzK ?qzF ?qzN ?qzG ?qzhL ?qze ?qzen ?qztn ?qzt ?qzkp ?_ ?qzhk; (case qzK => k_asm); (case qzF => k_asm); (case qzN => k_asm); (case qzG => k_asm); (case qzhL => assumption); (case qze => assumption); (case qzen => assumption); (case qztn => assumption); (case qzt => assumption); (case qzkp => assumption); (case qzhk => rfl); k_whole; intro hz'z fz'z))
  k_dflt cell_enter
  clear C N
  w_top off
  k_steps
  · exact ke (by omega) _ _ _ (by assumption)
  · rw [picked_one h0 (by omega)]
    exact k (by omega) _ _ _ (by assumption) (kept_of (by assumption) (by assumption) (by rfl))
end
end
end Mine

namespace Mine
section
variable {w : World} {pT : Program} {lT : List Str} {mean : ExcName → Option Value} {mg mb : Str → Option Value} {A A₀ : Around} {base h₀ : Heap} {outer : List Env} {env : Env} {L : Addr} {m : Str → Option Value} {s : Shared} {Q E : Value → Shared → Prop}
theorem getD_in8 {ks : List Int} (hr : In8 ks) (i : Nat) : In8 [ks.getD i 0] := by
  intro n hn
  rw [List.mem_singleton.mp hn]
  by_cases h : i < ks.length
  · have : ks.getD i 0 = ks[i] := by simp [List.getD, h]
    rw [this]; exact hr _ (List.getElem_mem h)
  · have : ks.getD i 0 = 0 := by simp [List.getD, List.getElem?_eq_none (Nat.le_of_not_lt h)]
    rw [this]; omega
theorem item_one {x : Int} {value slice : Expr} {t ui : Tok} (hr : In8 [x]) (h : ∀ t' k, Q (.int x t') { s with toks := k })
    (hs : subscripted slice false (.bytes (byteArr [x]) t) (.int 0 ui) = operate [.bytes (byteArr [x]) t, .int 0 ui] (getItem (.bytes (byteArr [x]) t) (.int 0 ui)) := by with_unfolding_all rfl)
    (ht : ∀ r, letTemporaryGo value (.bytes (byteArr [x]) t) r = pure () := by intro _; with_unfolding_all rfl) :
    wpAny (model PySem.Challenge.rw_on0233_01.row.prog w) A (subscriptTail value slice (.bytes (byteArr [x]) t) (.int 0 ui)) Q E s :=
  KBw.item_K (KBa.ints_make hr) (by show 1 ≤ 1099511627776; decide) (Int.le_refl 0) (by show (0:Int) < 1; decide) (fun t' k _ _ => h t' k) hs ht
theorem part_x {ks : List Int} {at' : Int} {t ta ts : Tok} {news : List (Addr × Obj)}
    (C : Cx w pT lT mean mg mb A A₀ 560 1800 base h₀ outer env L m s.heap) (N : News h₀ L s.heap news) (hr : In8 ks) (hl : ks.length ≤ 5000) (h0 : 0 ≤ at')
    (k : at' + 1 ≤ (ks.length : Int) → ∀ t' h' tk', Fr h₀ L h' m → News h₀ L h' news → Q (.bytes (byteArr [ks.getD at'.toNat 0]) t') { s with heap := h', toks := tk' })
    (ke : ¬ at' + 1 ≤ (ks.length : Int) → ∀ e h' tk', Flew s.heap [] (env :: outer) e h' → E (.ref e) { s with heap := h', toks := tk' }) :
    wpAny (model PySem.Challenge.rw_on0233_01.row.prog w) A (call (.ref 81) [.bytes (byteArr ks) t, .int at' ta, .int 1 ts]) Q E s :=
  part_core C (fun p hp => absurd hp (by simp)) hr hl h0 (fun hx t' h' tk' F' K' => k hx t' h' tk' F' fun p hp => ⟨K' _ _ (N p hp).1 (by simp), (N p hp).2⟩) ke
noncomputable abbrev octD (w : World) (k1 k2 : Tok) (ks : List Int) (t : Tok) (at' : Int) (ta : Tok) : Obj :=
  W.dictOf [⟨PyData.keyHash w.params (Str.ofString "octets"), .str (Str.ofString "octets") k1, .bytes (byteArr ks) t⟩, ⟨PyData.keyHash w.params (Str.ofString "at"), .str (Str.ofString "at") k2, .int at' ta⟩] 2
section
section
theorem byte_core {x dx : Addr} {ks : List Int} {at' : Int} {k1 k2 t ta : Tok}
    (C : Cx w pT lT mean mg mb A A₀ 540 1700 base h₀ outer env L m s.heap) (N : News h₀ L s.heap [(x, W.instObj 126 dx), (dx, octD w k1 k2 ks t at' ta)]) (hr : In8 ks) (hl : ks.length ≤ 5000) (h0 : 0 ≤ at') (h1 : at' ≤ 10000) (hd1 : dx < x) (hd2 : @Ne Nat x dx)
    (k : at' + 1 ≤ (ks.length : Int) → ∀ ta' t' h' tk', Fr h₀ L h' m → News h₀ L h' [(x, W.instObj 126 dx), (dx, octD w k1 k2 ks t (at' + 1) ta')] → Kept [x, dx] s.heap h' → Q (.int (ks.getD at'.toNat 0) t') { s with heap := h', toks := tk' })
    (ke : ¬ at' + 1 ≤ (ks.length : Int) → ∀ e h' tk', Flew s.heap [x, dx] (env :: outer) e h' → E (.ref e) { s with heap := h', toks := tk' }) :
    wpAny (model PySem.Challenge.rw_on0233_01.row.prog w) A (call (.ref 102) [.ref x]) Q E s := by
  k_with_none
  k_with "omega" => first | with_reducible assumption | decide | (with_reducible exact oN1 (by with_reducible assumption) (by decide)) | (with_reducible exact oN2 (by with_reducible assumption) (by decide)) | (with_reducible exact oN3 (by with_reducible assumption) (by decide)) | (with_reducible exact oN4 (by with_reducible assumption) (by decide)) | (with_reducible exact oN5 (by with_reducible assumption) (by decide)) | (with_reducible exact oN6 (by with_reducible assumption) (by decide)) | (with_reducible exact oN7 (by with_reducible assumption) (by decide)) | (with_reducible exact oN8 (by with_reducible assumption) (by decide)) | (with_reducible exact oI1 (by with_reducible assumption) (by decide)) | (with_reducible exact oI2 (by with_reducible assumption) (by decide)) | (with_reducible exact oI3 (by with_reducible assumption) (by decide)) | (with_reducible exact oI4 (by with_reducible assumption) (by decide)) | (with_reducible exact oI5 (by with_reducible assumption) (by decide)) | (with_reducible exact oI6 (by with_reducible assumption) (by decide)) | (with_reducible exact oI7 (by with_reducible assumption) (by decide)) | (with_reducible exact oI8 (by with_reducible assumption) (by decide)) | fail
  k_with "k_pk" => first | exact lA0 | exact lA1 | exact lA2 | exact lA3 | exact lA4 | exact lE1 | exact lE2 | exact lE3 | exact lE4 | exact lE5 | (refine cF ?_; k_extra "k_pk")
  k_with "k_pe" => first | exact eA0 | exact eA1 | exact eA2 | exact eA3 | exact eA4 | exact eE1 | exact eE2 | exact eE3 | exact eE4 | exact eE5 | (refine cF ?_; k_extra "k_pe")
  k_with "k_ltN" => with_reducible first | assumption | exact pL (by with_reducible assumption) (by k_extra "k_pk")
  k_with "k_ne" => (refine neN ?_; (try dsimp only); first | (with_reducible first | exact n01 | exact n02 | exact n03 | exact n04 | exact n05 | exact n01.symm | exact n02.symm | exact n03.symm | exact n04.symm | exact n05.symm | with_reducible assumption | exact Ne.symm (by with_reducible assumption) | exact Nat.ne_of_lt (by k_extra "k_ltN") | exact Nat.ne_of_gt (by k_extra "k_ltN") | exact nS1 (by k_extra "k_ltN") | exact Ne.symm (nS1 (by k_extra "k_ltN")) | exact nS2 (by k_extra "k_ltN") | exact Ne.symm (nS2 (by k_extra "k_ltN")) | exact nS3 (by k_extra "k_ltN") | exact Ne.symm (nS3 (by k_extra "k_ltN")) | exact nS4 (by k_extra "k_ltN") | exact Ne.symm (nS4 (by k_extra "k_ltN")) | exact nS5 (by k_extra "k_ltN") | exact Ne.symm (nS5 (by k_extra "k_ltN")) | exact nS6 (by k_extra "k_ltN") | exact Ne.symm (nS6 (by k_extra "k_ltN")) | exact nT (by with_reducible assumption) (by k_extra "k_ltN") | exact Ne.symm (nT (by with_reducible assumption) (by k_extra "k_ltN")) | exact pN (by with_reducible assumption) (by k_extra "k_pe") | exact Ne.symm (pN (by with_reducible assumption) (by k_extra "k_pe"))) | omega)
  k_with "cell_enter" => ((refine' enter_call ?qzC ?qzN ?qzk6 ?qzk7 ?qzk8 ?qzk9 ?qzkB ?_ ?qzc2 ?qzc3 ?qzc4 ?qzc5; (case qzC => assumption); (case qzN => assumption); (case qzk6 => k_is); (case qzk7 => k_is); (case qzk8 => decide); (case qzk9 => exact BindsTo.of_eq rfl); (case qzc5 => decide); (case qzkB => exact locs rfl); (case qzc2 => exact rfl); (case qzc3 => exact rfl); (case qzc4 => exact rfl); k_whole; intro g'z L'z h'z X0'z T0'z G'z nL'z F'z N'z B'z X'z T'z; (try dsimp only); (try k_fold)))
  k_with "exec Raise some none" => ((k_here; k_dflt (refine' raise_call ?qzhh ?_; (case qzhh => exact rfl); k_whole)))
  k_with "call type:bytes" => ((k_here; k_dflt (refine bytes_bytes ?_)))
  k_with "call ref" => ((k_here; k_dflt (refine' fault_make ?qzC ?_; (case qzC => exact ⟨⟨rfl, Nat.le_of_ble_eq_true rfl, rfl, rfl, Nat.le_of_ble_eq_true rfl⟩, rfl, rfl, by k_asm, by k_asm, by k_asm, by k_asm⟩); k_whole); intro e1'z t1'z d1'z h1'z tk1'z q1 q2 q3 q4 q5; refine' faultUp_of ?qzX ?qzhe ?_; (case qzX => exact in_kept (by k_asm) (by k_asm) (by assumption)); (case qzhe => assumption); k_whole))
  k_with "leaving ref" => ((k_here; refine' leave_one ?qzK ?qzF ?qzN ?qzG ?qzhL ?qze ?qzen ?qztn ?qzt ?qzkp ?_ ?qzhk; (case qzK => k_asm); (case qzF => k_asm); (case qzN => k_asm); (case qzG => k_asm); (case qzhL => assumption); (case qze => assumption); (case qzen => assumption); (case qztn => assumption); (case qzt => assumption); (case qzkp => assumption); (case qzhk => rfl); k_whole; intro hz'z fz'z))
  k_with "leaving ref" => ((k_here; refine' leave_two ?qzK ?qzF ?qzG ?qzhL ?qzR ?qzdi ?_; (case qzK => k_asm); (case qzF => k_asm); (case qzG => k_asm); (case qzhL => assumption); (case qzR => assumption); (case qzdi => simp); k_whole; intro hz'z fz'z))
  k_with "call ref" => ((k_here; k_dflt (refine' part_x ?qzC ?qzN ?qzhr ?qzhl ?qzh0 (fun hc'z t1'z h1'z tk1'z F1'z N1'z => ?_) (fun hc'z e1'z h1'z tk1'z R1'z => ?_); (case qzC => exact ⟨⟨rfl, Nat.le_of_ble_eq_true rfl, rfl, rfl, Nat.le_of_ble_eq_true rfl⟩, rfl, rfl, by k_asm, by k_asm, by k_asm, by k_asm⟩); (case qzN => k_asm); (case qzhr => assumption); (case qzhl => assumption); (case qzh0 => omega); k_whole); (all_goals (try k_sweep))))
  k_with "subscriptTail" => ((k_here; k_dflt (refine item_one (getD_in8 (by assumption) _) (fun t'z k'z => ?_))))
  k_dflt cell_enter
  clear C N
  w_top off
  k_steps
  · rw [show (at' + 1 - 1).toNat = at'.toNat by omega]
    exact k (by omega) _ _ _ _ (by assumption) (by assumption) (kept_of (by assumption) (by assumption) (by rfl))
  · exact ke (by omega) _ _ _ (by assumption)
end
theorem u16_core {ks : List Int} {at' : Int} {t ta : Tok}
    (C : Cx w pT lT mean mg mb A A₀ 560 1800 base h₀ outer env L m s.heap) (N : News h₀ L s.heap []) (hr : In8 ks) (hl : ks.length ≤ 5000) (h0 : 0 ≤ at')
    (k : at' + 2 ≤ (ks.length : Int) → ∀ t' h' tk', Fr h₀ L h' m → Kept [] s.heap h' → Q (.int (ks.getD at'.toNat 0 * 256 + ks.getD (at'.toNat + 1) 0) t') { s with heap := h', toks := tk' })
    (ke : ¬ at' + 2 ≤ (ks.length : Int) → ∀ e h' tk', Flew s.heap [] (env :: outer) e h' → E (.ref e) { s with heap := h', toks := tk' }) :
    wpAny (model PySem.Challenge.rw_on0233_01.row.prog w) A (call (.ref 60) [.bytes (byteArr ks) t, .int at' ta]) Q E s := by
  k_with_none
  k_with "omega" => first | with_reducible assumption | decide | (with_reducible exact oN1 (by with_reducible assumption) (by decide)) | (with_reducible exact oN2 (by with_reducible assumption) (by decide)) | (with_reducible exact oN3 (by with_reducible assumption) (by decide)) | (with_reducible exact oN4 (by with_reducible assumption) (by decide)) | (with_reducible exact oN5 (by with_reducible assumption) (by decide)) | (with_reducible exact oN6 (by with_reducible assumption) (by decide)) | (with_reducible exact oN7 (by with_reducible assumption) (by decide)) | (with_reducible exact oN8 (by with_reducible assumption) (by decide)) | (with_reducible exact oI1 (by with_reducible assumption) (by decide)) | (with_reducible exact oI2 (by with_reducible assumption) (by decide)) | (with_reducible exact oI3 (by with_reducible assumption) (by decide)) | (with_reducible exact oI4 (by with_reducible assumption) (by decide)) | (with_reducible exact oI5 (by with_reducible assumption) (by decide)) | (with_reducible exact oI6 (by with_reducible assumption) (by decide)) | (with_reducible exact oI7 (by with_reducible assumption) (by decide)) | (with_reducible exact oI8 (by with_reducible assumption) (by decide)) | fail
  k_with "k_pk" => first | exact lA0 | exact lA1 | exact lA2 | exact lA3 | exact lA4 | exact lE1 | exact lE2 | exact lE3 | exact lE4 | exact lE5 | (refine cF ?_; k_extra "k_pk")
  k_with "k_pe" => first | exact eA0 | exact eA1 | exact eA2 | exact eA3 | exact eA4 | exact eE1 | exact eE2 | exact eE3 | exact eE4 | exact eE5 | (refine cF ?_; k_extra "k_pe")
  k_with "k_ltN" => with_reducible first | assumption | exact pL (by with_reducible assumption) (by k_extra "k_pk")
  k_with "k_ne" => (refine neN ?_; (try dsimp only); first | (with_reducible first | exact n01 | exact n02 | exact n03 | exact n04 | exact n05 | exact n01.symm | exact n02.symm | exact n03.symm | exact n04.symm | exact n05.symm | with_reducible assumption | exact Ne.symm (by with_reducible assumption) | exact Nat.ne_of_lt (by k_extra "k_ltN") | exact Nat.ne_of_gt (by k_extra "k_ltN") | exact nS1 (by k_extra "k_ltN") | exact Ne.symm (nS1 (by k_extra "k_ltN")) | exact nS2 (by k_extra "k_ltN") | exact Ne.symm (nS2 (by k_extra "k_ltN")) | exact nS3 (by k_extra "k_ltN") | exact Ne.symm (nS3 (by k_extra "k_ltN")) | exact nS4 (by k_extra "k_ltN") | exact Ne.symm (nS4 (by k_extra "k_ltN")) | exact nS5 (by k_extra "k_ltN") | exact Ne.symm (nS5 (by k_extra "k_ltN")) | exact nS6 (by k_extra "k_ltN") | exact Ne.symm (nS6 (by k_extra "k_ltN")) | exact nT (by with_reducible assumption) (by k_extra "k_ltN") | exact Ne.symm (nT (by with_reducible assumption) (by k_extra "k_ltN")) | exact pN (by with_reducible assumption) (by k_extra "k_pe") | exact Ne.symm (pN (by with_reducible assumption) (by k_extra "k_pe"))) | omega)
  k_with "cell_enter" => ((refine' enter_call ?qzC ?qzN ?qzk6 ?qzk7 ?qzk8 ?qzk9 ?qzkB ?_ ?qzc2 ?qzc3 ?qzc4 ?qzc5; (case qzC => assumption); (case qzN => assumption); (case qzk6 => k_is); (case qzk7 => k_is); (case qzk8 => decide); (case qzk9 => exact BindsTo.of_eq rfl); (case qzc5 => decide); (case qzkB => exact locs rfl); (case qzc2 => exact rfl); (case qzc3 => exact rfl); (case qzc4 => exact rfl); k_whole; intro g'z L'z h'z X0'z T0'z G'z nL'z F'z N'z B'z X'z T'z; (try dsimp only); (try k_fold)))
  k_with "exec Raise some none" => ((k_here; k_dflt (refine' raise_call ?qzhh ?_; (case qzhh => exact rfl); k_whole)))
  k_with "call type:bytes" => ((k_here; k_dflt (refine bytes_bytes ?_)))
  k_with "call ref" => ((k_here; k_dflt (refine' fault_make ?qzC ?_; (case qzC => exact ⟨⟨rfl, Nat.le_of_ble_eq_true rfl, rfl, rfl, Nat.le_of_ble_eq_true rfl⟩, rfl, rfl, by k_asm, by k_asm, by k_asm, by k_asm⟩); k_whole); intro e1'z t1'z d1'z h1'z tk1'z q1 q2 q3 q4 q5; refine' faultUp_of ?qzX ?qzhe ?_; (case qzX => exact in_kept (by k_asm) (by k_asm) (by assumption)); (case qzhe => assumption); k_whole))
  k_with "leaving ref" => ((k_here; refine' leave_one ?qzK ?qzF ?qzN ?qzG ?qzhL ?qze ?qzen ?qztn ?qzt ?qzkp ?_ ?qzhk; (case qzK => k_asm); (case qzF => k_asm); (case qzN => k_asm); (case qzG => k_asm); (case qzhL => assumption); (case qze => assumption); (case qzen => assumption); (case qztn => assumption); (case qzt => assumption); (case qzkp => assumption); (case qzhk => rfl); k_whole; intro hz'z fz'z))
  k_with "leaving ref" => ((k_here; refine' leave_two ?qzK ?qzF ?qzG ?qzhL ?qzR ?qzdi ?_; (case qzK => k_asm); (case qzF => k_asm); (case qzG => k_asm); (case qzhL => assumption); (case qzR => assumption); (case qzdi => simp); k_whole; intro hz'z fz'z))
  k_dflt cell_enter
  clear C N
  w_top off
  k_steps
  · exact ke (by omega) _ _ _ (by assumption)
  · rw [show (at' + 1).toNat = at'.toNat + 1 by omega]
    exact k (by omega) _ _ _ (by assumption) (kept_of (by assumption) (by assumption) (by rfl))
end
end
end Mine

namespace Mine
section
variable {w : World} {pT : Program} {lT : List Str} {mean : ExcName → Option Value} {mg mb : Str → Option Value} {A A₀ : Around} {base h₀ : Heap} {outer : List Env} {env : Env} {L : Addr} {m : Str → Option Value} {s : Shared} {Q E : Value → Shared → Prop}
noncomputable abbrev u2 (ks : List Int) (i : Nat) : Int := ks.getD i 0 * 256 + ks.getD (i + 1) 0
noncomputable def s2 (ks : List Int) (i : Nat) : Int := if 32768 ≤ u2 ks i then u2 ks i - 65536 else u2 ks i
theorem s2_hi {ks : List Int} {i : Nat} (h : 32768 ≤ u2 ks i) : u2 ks i - 65536 = s2 ks i := by rw [s2, if_pos h]
theorem s2_lo {ks : List Int} {i : Nat} (h : ¬ 32768 ≤ u2 ks i) : u2 ks i = s2 ks i := by rw [s2, if_neg h]
theorem u16_x {ks : List Int} {at' : Int} {t ta : Tok} {news : List (Addr × Obj)}
    (C : Cx w pT lT mean mg mb A A₀ 560 1800 base h₀ outer env L m s.heap) (N : News h₀ L s.heap news) (hr : In8 ks) (hl : ks.length ≤ 5000) (h0 : 0 ≤ at')
    (k : at' + 2 ≤ (ks.length : Int) → ∀ t' h' tk', Fr h₀ L h' m → News h₀ L h' news → Q (.int (u2 ks at'.toNat) t') { s with heap := h', toks := tk' })
    (ke : ¬ at' + 2 ≤ (ks.length : Int) → ∀ e h' tk', Flew s.heap [] (env :: outer) e h' → E (.ref e) { s with heap := h', toks := tk' }) :
    wpAny (model PySem.Challenge.rw_on0233_01.row.prog w) A (call (.ref 60) [.bytes (byteArr ks) t, .int at' ta]) Q E s :=
  u16_core C (fun p hp => absurd hp (by simp)) hr hl h0 (fun hx t' h' tk' F' K' => k hx t' h' tk' F' fun p hp => ⟨K' _ _ (N p hp).1 (by simp), (N p hp).2⟩) ke
section
section
theorem s16_core {ks : List Int} {at' : Int} {t ta : Tok}
    (C : Cx w pT lT mean mg mb A A₀ 550 1750 base h₀ outer env L m s.heap) (N : News h₀ L s.heap []) (hr : In8 ks) (hl : ks.length ≤ 5000) (h0 : 0 ≤ at')
    (k : at' + 2 ≤ (ks.length : Int) → ∀ t' h' tk', Fr h₀ L h' m → Kept [] s.heap h' → Q (.int (s2 ks at'.toNat) t') { s with heap := h', toks := tk' })
    (ke : ¬ at' + 2 ≤ (ks.length : Int) → ∀ e h' tk', Flew s.heap [] (env :: outer) e h' → E (.ref e) { s with heap := h', toks := tk' }) :
    wpAny (model PySem.Challenge.rw_on0233_01.row.prog w) A (call (.ref 67) [.bytes (byteArr ks) t, .int at' ta]) Q E s := by
  k_with_none
  k_with "omega" => first | with_reducible assumption | decide | (with_reducible exact oN1 (by with_reducible assumption) (by decide)) | (with_reducible exact oN2 (by with_reducible assumption) (by decide)) | (with_reducible exact oN3 (by with_reducible assumption) (by decide)) | (with_reducible exact oN4 (by with_reducible assumption) (by decide)) | (with_reducible exact oN5 (by with_reducible assumption) (by decide)) | (with_reducible exact oN6 (by with_reducible assumption) (by decide)) | (with_reducible exact oN7 (by with_reducible assumption) (by decide)) | (with_reducible exact oN8 (by with_reducible assumption) (by decide)) | (with_reducible exact oI1 (by with_reducible assumption) (by decide)) | (with_reducible exact oI2 (by with_reducible assumption) (by decide)) | (with_reducible exact oI3 (by with_reducible assumption) (by decide)) | (with_reducible exact oI4 (by with_reducible assumption) (by decide)) | (with_reducible exact oI5 (by with_reducible assumption) (by decide)) | (with_reducible exact oI6 (by with_reducible assumption) (by decide)) | (with_reducible exact oI7 (by with_reducible assumption) (by decide)) | (with_reducible exact oI8 (by with_reducible assumption) (by decide)) | fail
  k_with "k_pk" => first | exact lA0 | exact lA1 | exact lA2 | exact lA3 | exact lA4 | exact lE1 | exact lE2 | exact lE3 | exact lE4 | exact lE5 | (refine cF ?_; k_extra "k_pk")
  k_with "k_pe" => first | exact eA0 | exact eA1 | exact eA2 | exact eA3 | exact eA4 | exact eE1 | exact eE2 | exact eE3 | exact eE4 | exact eE5 | (refine cF ?_; k_extra "k_pe")
  k_with "k_ltN" => with_reducible first | assumption | exact pL (by with_reducible assumption) (by k_extra "k_pk")
  k_with "k_ne" => (refine neN ?_; (try dsimp only); first | (with_reducible first | exact n01 | exact n02 | exact n03 | exact n04 | exact n05 | exact n01.symm | exact n02.symm | exact n03.symm | exact n04.symm | exact n05.symm | with_reducible assumption | exact Ne.symm (by with_reducible assumption) | exact Nat.ne_of_lt (by k_extra "k_ltN") | exact Nat.ne_of_gt (by k_extra "k_ltN") | exact nS1 (by k_extra "k_ltN") | exact Ne.symm (nS1 (by k_extra "k_ltN")) | exact nS2 (by k_extra "k_ltN") | exact Ne.symm (nS2 (by k_extra "k_ltN")) | exact nS3 (by k_extra "k_ltN") | exact Ne.symm (nS3 (by k_extra "k_ltN")) | exact nS4 (by k_extra "k_ltN") | exact Ne.symm (nS4 (by k_extra "k_ltN")) | exact nS5 (by k_extra "k_ltN") | exact Ne.symm (nS5 (by k_extra "k_ltN")) | exact nS6 (by k_extra "k_ltN") | exact Ne.symm (nS6 (by k_extra "k_ltN")) | exact nT (by with_reducible assumption) (by k_extra "k_ltN") | exact Ne.symm (nT (by with_reducible assumption) (by k_extra "k_ltN")) | exact pN (by with_reducible assumption) (by k_extra "k_pe") | exact Ne.symm (pN (by with_reducible assumption) (by k_extra "k_pe"))) | omega)
  k_with "cell_enter" => ((refine' enter_call ?qzC ?qzN ?qzk6 ?qzk7 ?qzk8 ?qzk9 ?qzkB ?_ ?qzc2 ?qzc3 ?qzc4 ?qzc5; (case qzC => assumption); (case qzN => assumption); (case qzk6 => k_is); (case qzk7 => k_is); (case qzk8 => decide); (case qzk9 => exact BindsTo.of_eq rfl); (case qzc5 => decide); (case qzkB => exact locs rfl); (case qzc2 => exact rfl); (case qzc3 => exact rfl); (case qzc4 => exact rfl); k_whole; intro g'z L'z h'z X0'z T0'z G'z nL'z F'z N'z B'z X'z T'z; (try dsimp only); (try k_fold)))
  k_with "leaving ref" => ((k_here; refine' leave_two ?qzK ?qzF ?qzG ?qzhL ?qzR ?qzdi ?_; (case qzK => k_asm); (case qzF => k_asm); (case qzG => k_asm); (case qzhL => assumption); (case qzR => assumption); (case qzdi => simp); k_whole; intro hz'z fz'z))
  k_with "call ref" => ((k_here; k_dflt (refine' u16_x ?qzC ?qzN ?qzhr ?qzhl ?qzh0 (fun hc'z t1'z h1'z tk1'z F1'z N1'z => ?_) (fun hc'z e1'z h1'z tk1'z R1'z => ?_); (case qzC => exact ⟨⟨rfl, Nat.le_of_ble_eq_true rfl, rfl, rfl, Nat.le_of_ble_eq_true rfl⟩, rfl, rfl, by k_asm, by k_asm, by k_asm, by k_asm⟩); (case qzN => k_asm); (case qzhr => assumption); (case qzhl => assumption); (case qzh0 => omega); k_whole); (all_goals (try k_sweep))))
  k_dflt cell_enter
  clear C N
  w_top off
  k_steps
  · rw [s2_hi (by omega)]
    exact k (by omega) _ _ _ (by assumption) (kept_of (by assumption) (by assumption) (by rfl))
  · rw [s2_lo (by omega)]
    exact k (by omega) _ _ _ (by assumption) (kept_of (by assumption) (by assumption) (by rfl))
  · exact ke (by omega) _ _ _ (by assumption)
theorem word_core {x dx : Addr} {ks : List Int} {at' : Int} {k1 k2 t ta : Tok}
    (C : Cx w pT lT mean mg mb A A₀ 540 1700 base h₀ outer env L m s.heap) (N : News h₀ L s.heap [(x, W.instObj 126 dx), (dx, octD w k1 k2 ks t at' ta)]) (hr : In8 ks) (hl : ks.length ≤ 5000) (h0 : 0 ≤ at') (h1 : at' ≤ 10000) (hd1 : dx < x) (hd2 : @Ne Nat x dx)
    (k : at' + 2 ≤ (ks.length : Int) → ∀ ta' t' h' tk', Fr h₀ L h' m → News h₀ L h' [(x, W.instObj 126 dx), (dx, octD w k1 k2 ks t (at' + 2) ta')] → Kept [x, dx] s.heap h' → Q (.int (u2 ks at'.toNat) t') { s with heap := h', toks := tk' })
    (ke : ¬ at' + 2 ≤ (ks.length : Int) → ∀ e h' tk', Flew s.heap [x, dx] (env :: outer) e h' → E (.ref e) { s with heap := h', toks := tk' }) :
    wpAny (model PySem.Challenge.rw_on0233_01.row.prog w) A (call (.ref 109) [.ref x]) Q E s := by
  k_with_none
  k_with "omega" => first | with_reducible assumption | decide | (with_reducible exact oN1 (by with_reducible assumption) (by decide)) | (with_reducible exact oN2 (by with_reducible assumption) (by decide)) | (with_reducible exact oN3 (by with_reducible assumption) (by decide)) | (with_reducible exact oN4 (by with_reducible assumption) (by decide)) | (with_reducible exact oN5 (by with_reducible assumption) (by decide)) | (with_reducible exact oN6 (by with_reducible assumption) (by decide)) | (with_reducible exact oN7 (by with_reducible assumption) (by decide)) | (with_reducible exact oN8 (by with_reducible assumption) (by decide)) | (with_reducible exact oI1 (by with_reducible assumption) (by decide)) | (with_reducible exact oI2 (by with_reducible assumption) (by decide)) | (with_reducible exact oI3 (by with_reducible assumption) (by decide)) | (with_reducible exact oI4 (by with_reducible assumption) (by decide)) | (with_reducible exact oI5 (by with_reducible assumption) (by decide)) | (with_reducible exact oI6 (by with_reducible assumption) (by decide)) | (with_reducible exact oI7 (by with_reducible assumption) (by decide)) | (with_reducible exact oI8 (by with_reducible assumption) (by decide)) | fail
  k_with "k_pk" => first | exact lA0 | exact lA1 | exact lA2 | exact lA3 | exact lA4 | exact lE1 | exact lE2 | exact lE3 | exact lE4 | exact lE5 | (refine cF ?_; k_extra "k_pk")
  k_with "k_pe" => first | exact eA0 | exact eA1 | exact eA2 | exact eA3 | exact eA4 | exact eE1 | exact eE2 | exact eE3 | exact eE4 | exact eE5 | (refine cF ?_; k_extra "k_pe")
  k_with "k_ltN" => with_reducible first | assumption | exact pL (by with_reducible assumption) (by k_extra "k_pk")
  k_with "k_ne" => (refine neN ?_; (try dsimp only); first | (with_reducible first | exact n01 | exact n02 | exact n03 | exact n04 | exact n05 | exact n01.symm | exact n02.symm | exact n03.symm | exact n04.symm | exact n05.symm | with_reducible assumption | exact Ne.symm (by with_reducible assumption) | exact Nat.ne_of_lt (by k_extra "k_ltN") | exact Nat.ne_of_gt (by k_extra "k_ltN") | exact nS1 (by k_extra "k_ltN") | exact Ne.symm (nS1 (by k_extra "k_ltN")) | exact nS2 (by k_extra "k_ltN") | exact Ne.symm (nS2 (by k_extra "k_ltN")) | exact nS3 (by k_extra "k_ltN") | exact Ne.symm (nS3 (by k_extra "k_ltN")) | exact nS4 (by k_extra "k_ltN") | exact Ne.symm (nS4 (by k_extra "k_ltN")) | exact nS5 (by k_extra "k_ltN") | exact Ne.symm (nS5 (by k_extra "k_ltN")) | exact nS6 (by k_extra "k_ltN") | exact Ne.symm (nS6 (by k_extra "k_ltN")) | exact nT (by with_reducible assumption) (by k_extra "k_ltN") | exact Ne.symm (nT (by with_reducible assumption) (by k_extra "k_ltN")) | exact pN (by with_reducible assumption) (by k_extra "k_pe") | exact Ne.symm (pN (by with_reducible assumption) (by k_extra "k_pe"))) | omega)
  k_with "cell_enter" => ((refine' enter_call ?qzC ?qzN ?qzk6 ?qzk7 ?qzk8 ?qzk9 ?qzkB ?_ ?qzc2 ?qzc3 ?qzc4 ?qzc5; (case qzC => assumption); (case qzN => assumption); (case qzk6 => k_is); (case qzk7 => k_is); (case qzk8 => decide); (case qzk9 => exact BindsTo.of_eq rfl); (case qzc5 => decide); (case qzkB => exact locs rfl); (case qzc2 => exact rfl); (case qzc3 => exact rfl); (case qzc4 => exact rfl); k_whole; intro g'z L'z h'z X0'z T0'z G'z nL'z F'z N'z B'z X'z T'z; (try dsimp only); (try k_fold)))
  k_with "leaving ref" => ((k_here; refine' leave_two ?qzK ?qzF ?qzG ?qzhL ?qzR ?qzdi ?_; (case qzK => k_asm); (case qzF => k_asm); (case qzG => k_asm); (case qzhL => assumption); (case qzR => assumption); (case qzdi => simp); k_whole; intro hz'z fz'z))
  k_with "call ref" => ((k_here; k_dflt (refine' u16_x ?qzC ?qzN ?qzhr ?qzhl ?qzh0 (fun hc'z t1'z h1'z tk1'z F1'z N1'z => ?_) (fun hc'z e1'z h1'z tk1'z R1'z => ?_); (case qzC => exact ⟨⟨rfl, Nat.le_of_ble_eq_true rfl, rfl, rfl, Nat.le_of_ble_eq_true rfl⟩, rfl, rfl, by k_asm, by k_asm, by k_asm, by k_asm⟩); (case qzN => k_asm); (case qzhr => assumption); (case qzhl => assumption); (case qzh0 => omega); k_whole); (all_goals (try k_sweep))))
  k_dflt cell_enter
  clear C N
  w_top off
  k_steps
  · rw [show (at' + 2 - 2).toNat = at'.toNat by omega]
    exact k (by omega) _ _ _ _ (by assumption) (by assumption) (kept_of (by assumption) (by assumption) (by rfl))
  · exact ke (by omega) _ _ _ (by assumption)
end
theorem s16_x {ks : List Int} {at' : Int} {t ta : Tok} {news : List (Addr × Obj)}
    (C : Cx w pT lT mean mg mb A A₀ 550 1750 base h₀ outer env L m s.heap) (N : News h₀ L s.heap news) (hr : In8 ks) (hl : ks.length ≤ 5000) (h0 : 0 ≤ at')
    (k : at' + 2 ≤ (ks.length : Int) → ∀ t' h' tk', Fr h₀ L h' m → News h₀ L h' news → Q (.int (s2 ks at'.toNat) t') { s with heap := h', toks := tk' })
    (ke : ¬ at' + 2 ≤ (ks.length : Int) → ∀ e h' tk', Flew s.heap [] (env :: outer) e h' → E (.ref e) { s with heap := h', toks := tk' }) :
    wpAny (model PySem.Challenge.rw_on0233_01.row.prog w) A (call (.ref 67) [.bytes (byteArr ks) t, .int at' ta]) Q E s :=
  s16_core C (fun p hp => absurd hp (by simp)) hr hl h0 (fun hx t' h' tk' F' K' => k hx t' h' tk' F' fun p hp => ⟨K' _ _ (N p hp).1 (by simp), (N p hp).2⟩) ke
section
theorem signed_core {x dx : Addr} {ks : List Int} {at' : Int} {k1 k2 t ta : Tok}
    (C : Cx w pT lT mean mg mb A A₀ 530 1650 base h₀ outer env L m s.heap) (N : News h₀ L s.heap [(x, W.instObj 126 dx), (dx, octD w k1 k2 ks t at' ta)]) (hr : In8 ks) (hl : ks.length ≤ 5000) (h0 : 0 ≤ at') (h1 : at' ≤ 10000) (hd1 : dx < x) (hd2 : @Ne Nat x dx)
    (k : at' + 2 ≤ (ks.length : Int) → ∀ ta' t' h' tk', Fr h₀ L h' m → News h₀ L h' [(x, W.instObj 126 dx), (dx, octD w k1 k2 ks t (at' + 2) ta')] → Kept [x, dx] s.heap h' → Q (.int (s2 ks at'.toNat) t') { s with heap := h', toks := tk' })
    (ke : ¬ at' + 2 ≤ (ks.length : Int) → ∀ e h' tk', Flew s.heap [x, dx] (env :: outer) e h' → E (.ref e) { s with heap := h', toks := tk' }) :
    wpAny (model PySem.Challenge.rw_on0233_01.row.prog w) A (call (.ref 116) [.ref x]) Q E s := by
  k_with_none
  k_with "omega" => first | with_reducible assumption | decide | (with_reducible exact oN1 (by with_reducible assumption) (by decide)) | (with_reducible exact oN2 (by with_reducible assumption) (by decide)) | (with_reducible exact oN3 (by with_reducible assumption) (by decide)) | (with_reducible exact oN4 (by with_reducible assumption) (by decide)) | (with_reducible exact oN5 (by with_reducible assumption) (by decide)) | (with_reducible exact oN6 (by with_reducible assumption) (by decide)) | (with_reducible exact oN7 (by with_reducible assumption) (by decide)) | (with_reducible exact oN8 (by with_reducible assumption) (by decide)) | (with_reducible exact oI1 (by with_reducible assumption) (by decide)) | (with_reducible exact oI2 (by with_reducible assumption) (by decide)) | (with_reducible exact oI3 (by with_reducible assumption) (by decide)) | (with_reducible exact oI4 (by with_reducible assumption) (by decide)) | (with_reducible exact oI5 (by with_reducible assumption) (by decide)) | (with_reducible exact oI6 (by with_reducible assumption) (by decide)) | (with_reducible exact oI7 (by with_reducible assumption) (by decide)) | (with_reducible exact oI8 (by with_reducible assumption) (by decide)) | fail
  k_with "k_pk" => first | exact lA0 | exact lA1 | exact lA2 | exact lA3 | exact lA4 | exact lE1 | exact lE2 | exact lE3 | exact lE4 | exact lE5 | (refine cF ?_; k_extra "k_pk")
  k_with "k_pe" => first | exact eA0 | exact eA1 | exact eA2 | exact eA3 | exact eA4 | exact eE1 | exact eE2 | exact eE3 | exact eE4 | exact eE5 | (refine cF ?_; k_extra "k_pe")
  k_with "k_ltN" => with_reducible first | assumption | exact pL (by with_reducible assumption) (by k_extra "k_pk")
  k_with "k_ne" => (refine neN ?_; (try dsimp only); first | (with_reducible first | exact n01 | exact n02 | exact n03 | exact n04 | exact n05 | exact n01.symm | exact n02.symm | exact n03.symm | exact n04.symm | exact n05.symm | with_reducible assumption | exact Ne.symm (by with_reducible assumption) | exact Nat.ne_of_lt (by k_extra "k_ltN") | exact Nat.ne_of_gt (by k_extra "k_ltN") | exact nS1 (by k_extra "k_ltN") | exact Ne.symm (nS1 (by k_extra "k_ltN")) | exact nS2 (by k_extra "k_ltN") | exact Ne.symm (nS2 (by k_extra "k_ltN")) | exact nS3 (by k_extra "k_ltN") | exact Ne.symm (nS3 (by k_extra "k_ltN")) | exact nS4 (by k_extra "k_ltN") | exact Ne.symm (nS4 (by k_extra "k_ltN")) | exact nS5 (by k_extra "k_ltN") | exact Ne.symm (nS5 (by k_extra "k_ltN")) | exact nS6 (by k_extra "k_ltN") | exact Ne.symm (nS6 (by k_extra "k_ltN")) | exact nT (by with_reducible assumption) (by k_extra "k_ltN") | exact Ne.symm (nT (by with_reducible assumption) (by k_extra "k_ltN")) | exact pN (by with_reducible assumption) (by k_extra "k_pe") | exact Ne.symm (pN (by with_reducible assumption) (by k_extra "k_pe"))) | omega)
  k_with "cell_enter" => ((refine' enter_call ?qzC ?qzN ?qzk6 ?qzk7 ?qzk8 ?qzk9 ?qzkB ?_ ?qzc2 ?qzc3 ?qzc4 ?qzc5; (case qzC => assumption); (case qzN => assumption); (case qzk6 => k_is); (case qzk7 => k_is); (case qzk8 => decide); (case qzk9 => exact BindsTo.of_eq rfl); (case qzc5 => decide); (case qzkB => exact locs rfl); (case qzc2 => exact rfl); (case qzc3 => exact rfl); (case qzc4 => exact rfl); k_whole; intro g'z L'z h'z X0'z T0'z G'z nL'z F'z N'z B'z X'z T'z; (try dsimp only); (try k_fold)))
  k_with "leaving ref" => ((k_here; refine' leave_two ?qzK ?qzF ?qzG ?qzhL ?qzR ?qzdi ?_; (case qzK => k_asm); (case qzF => k_asm); (case qzG => k_asm); (case qzhL => assumption); (case qzR => assumption); (case qzdi => simp); k_whole; intro hz'z fz'z))
  k_with "call ref" => ((k_here; k_dflt (refine' s16_x ?qzC ?qzN ?qzhr ?qzhl ?qzh0 (fun hc'z t1'z h1'z tk1'z F1'z N1'z => ?_) (fun hc'z e1'z h1'z tk1'z R1'z => ?_); (case qzC => exact ⟨⟨rfl, Nat.le_of_ble_eq_true rfl, rfl, rfl, Nat.le_of_ble_eq_true rfl⟩, rfl, rfl, by k_asm, by k_asm, by k_asm, by k_asm⟩); (case qzN => k_asm); (case qzhr => assumption); (case qzhl => assumption); (case qzh0 => omega); k_whole); (all_goals (try k_sweep))))
  k_dflt cell_enter
  clear C N
  w_top off
  k_steps
  · rw [show (at' + 2 - 2).toNat = at'.toNat by omega]
    exact k (by omega) _ _ _ _ (by assumption) (by assumption) (kept_of (by assumption) (by assumption) (by rfl))
  · exact ke (by omega) _ _ _ (by assumption)
end
end
end
end Mine

namespace Mine
/-- flags read off octets: those, and how many octets they took; none for a fault -/
noncomputable def rdF : List Int → Nat → Option (List Int × Nat)
  | _, 0 => some ([], 0)
  | [], _ + 1 => none
  | [f], n + 1 => if Builtin.bitAnd f 8 = 0 then (rdF [] n).map fun p => (f :: p.1, p.2 + 1) else none
  | f :: c :: r, n + 1 => if Builtin.bitAnd f 8 = 0 then (rdF (c :: r) n).map fun p => (f :: p.1, p.2 + 1)
    else if (1 + c).toNat ≤ n + 1 then (rdF r (n + 1 - (1 + c).toNat)).map fun p => (List.replicate (1 + c).toNat f ++ p.1, p.2 + 2) else none
  termination_by l => l.length
theorem rdF_zero (l : List Int) : rdF l 0 = some ([], 0) := by unfold rdF; rfl
theorem rdF_nil (n : Nat) : rdF [] (n + 1) = none := by rw [rdF]
theorem rdF_one {f : Int} (r : List Int) (n : Nat) (h : Builtin.bitAnd f 8 = 0) : rdF (f :: r) (n + 1) = (rdF r n).map fun p => (f :: p.1, p.2 + 1) := by
  cases r with
  | nil => rw [rdF, if_pos h]
  | cons c r => rw [rdF, if_pos h]
theorem rdF_last {f : Int} (n : Nat) (h : Builtin.bitAnd f 8 ≠ 0) : rdF [f] (n + 1) = none := by rw [rdF, if_neg h]
theorem rdF_run {f c : Int} (r : List Int) (n : Nat) (h : Builtin.bitAnd f 8 ≠ 0) : rdF (f :: c :: r) (n + 1) = if (1 + c).toNat ≤ n + 1 then (rdF r (n + 1 - (1 + c).toNat)).map fun p => (List.replicate (1 + c).toNat f ++ p.1, p.2 + 2) else none := by rw [rdF, if_neg h]
/-- how the loop stands -/
noncomputable def RfInv (ks : List Int) (count : Int) (at' : Int) (fs : List Int) : Prop :=
  0 ≤ at' ∧ at' ≤ (ks.length : Int) ∧ fs.length ≤ count.toNat + 256 ∧
    (fs.length ≤ count.toNat → rdF ks count.toNat = (rdF (ks.drop at'.toNat) (count.toNat - fs.length)).map fun p => (fs ++ p.1, p.2 + at'.toNat)) ∧
    (count.toNat < fs.length → rdF ks count.toNat = none)
theorem rf_start (ks : List Int) (count : Int) : RfInv ks count 0 [] := by
  refine ⟨by omega, by omega, by simp, fun _ => ?_, fun h => by simp at h⟩
  show rdF ks count.toNat = (rdF (ks.drop 0) (count.toNat - 0)).map fun p => ([] ++ p.1, p.2 + 0)
  simp
theorem drop_getD (ks : List Int) {i : Nat} (h : i < ks.length) : ks.drop i = ks.getD i 0 :: ks.drop (i + 1) := by
  rw [List.drop_eq_getElem_cons h]
  simp [List.getD, h]
theorem rf_fail {ks fs : List Int} {count at' : Int} (h : RfInv ks count at' fs) (hc : (fs.length : Int) < count) (h1 : ¬ at' + 1 ≤ (ks.length : Int)) : rdF ks count.toNat = none := by
  obtain ⟨h0, hl, _, h2, _⟩ := h
  rw [h2 (by omega), List.drop_of_length_le (by omega), show count.toNat - fs.length = (count.toNat - fs.length - 1) + 1 by omega, rdF_nil]
  rfl
theorem rf_one {ks fs : List Int} {count at' : Int} (h : RfInv ks count at' fs) (hc : (fs.length : Int) < count) (h1 : at' + 1 ≤ (ks.length : Int)) (hb : Builtin.bitAnd (ks.getD at'.toNat 0) 8 = 0) :
    RfInv ks count (at' + 1) (fs ++ List.replicate (1 : Int).toNat (ks.getD at'.toNat 0)) := by
  obtain ⟨h0, hl, hk, h2, _⟩ := h
  have e : (fs ++ List.replicate (1 : Int).toNat (ks.getD at'.toNat 0)).length = fs.length + 1 := by simp
  refine ⟨by omega, h1, by omega, fun _ => ?_, fun h => by omega⟩
  rw [h2 (by omega), drop_getD ks (by omega), show count.toNat - fs.length = (count.toNat - (fs.length + 1)) + 1 by omega, rdF_one _ _ hb, e, show (at' + 1).toNat = at'.toNat + 1 by omega]
  rw [Option.map_map]
  congr 1
  funext p
  show (fs ++ _ :: p.1, p.2 + 1 + at'.toNat) = ((fs ++ List.replicate 1 _) ++ p.1, p.2 + (at'.toNat + 1))
  rw [List.append_assoc]
  show _ = (fs ++ ([_] ++ p.1), _)
  rw [List.singleton_append, show p.2 + 1 + at'.toNat = p.2 + (at'.toNat + 1) by omega]
theorem rf_fail2 {ks fs : List Int} {count at' : Int} (h : RfInv ks count at' fs) (hc : (fs.length : Int) < count) (h1 : at' + 1 ≤ (ks.length : Int)) (hb : Builtin.bitAnd (ks.getD at'.toNat 0) 8 ≠ 0) (h2 : ¬ at' + 1 + 1 ≤ (ks.length : Int)) : rdF ks count.toNat = none := by
  obtain ⟨h0, hl, hk, h2, _⟩ := h
  rw [h2 (by omega), drop_getD ks (by omega), List.drop_of_length_le (by omega), show count.toNat - fs.length = (count.toNat - (fs.length + 1)) + 1 by omega, rdF_last _ hb]
  rfl
theorem rf_run {ks fs : List Int} {count at' : Int} (hr : ∀ i, 0 ≤ ks.getD i 0 ∧ ks.getD i 0 < 256) (h : RfInv ks count at' fs) (hc : (fs.length : Int) < count) (h1 : at' + 1 ≤ (ks.length : Int)) (hb : Builtin.bitAnd (ks.getD at'.toNat 0) 8 ≠ 0) (h2 : at' + 1 + 1 ≤ (ks.length : Int)) :
    RfInv ks count (at' + 1 + 1) (fs ++ List.replicate (1 + ks.getD (at' + 1).toNat 0).toNat (ks.getD at'.toNat 0)) := by
  obtain ⟨h0, hl, hk, h3, _⟩ := h
  have hc' := hr (at' + 1).toNat
  have e : (fs ++ List.replicate (1 + ks.getD (at' + 1).toNat 0).toNat (ks.getD at'.toNat 0)).length = fs.length + (1 + ks.getD (at' + 1).toNat 0).toNat := by simp
  have key : rdF ks count.toNat = (if (1 + ks.getD (at' + 1).toNat 0).toNat ≤ count.toNat - fs.length then (rdF (ks.drop (at'.toNat + 2)) (count.toNat - fs.length - (1 + ks.getD (at' + 1).toNat 0).toNat)).map fun p => (List.replicate (1 + ks.getD (at' + 1).toNat 0).toNat (ks.getD at'.toNat 0) ++ p.1, p.2 + 2) else none).map fun p => (fs ++ p.1, p.2 + at'.toNat) := by
    rw [h3 (by omega), drop_getD ks (by omega), drop_getD ks (i := at'.toNat + 1) (by omega)]
    obtain ⟨d, hd⟩ : ∃ d, count.toNat - fs.length = d + 1 := ⟨count.toNat - fs.length - 1, by omega⟩
    rw [hd, rdF_run _ _ hb, show at'.toNat + 1 = (at' + 1).toNat by omega, show (at' + 1).toNat + 1 = at'.toNat + 2 by omega]
  refine ⟨by omega, h2, by omega, fun hle => ?_, fun hlt => ?_⟩
  · rw [key, if_pos (by omega), Option.map_map, e, show (at' + 1 + 1).toNat = at'.toNat + 2 by omega, show count.toNat - fs.length - (1 + ks.getD (at' + 1).toNat 0).toNat = count.toNat - (fs.length + (1 + ks.getD (at' + 1).toNat 0).toNat) by omega]
    congr 1
    funext p
    show (fs ++ (_ ++ p.1), p.2 + 2 + at'.toNat) = (fs ++ _ ++ p.1, p.2 + (at'.toNat + 2))
    rw [List.append_assoc, show p.2 + 2 + at'.toNat = p.2 + (at'.toNat + 2) by omega]
  · rw [key, if_neg (by omega)]
    rfl
theorem rf_end {ks fs : List Int} {count at' : Int} (h : RfInv ks count at' fs) (h0 : 0 ≤ count) (hx : ¬ (fs.length : Int) < count) (h2 : ¬ count < (fs.length : Int)) : rdF ks count.toNat = some (fs, at'.toNat) := by
  obtain ⟨_, _, _, h3, _⟩ := h
  rw [h3 (by omega), show count.toNat - fs.length = 0 by omega, rdF_zero]
  simp
theorem rf_more {ks fs : List Int} {count at' : Int} (h : RfInv ks count at' fs) (h0 : 0 ≤ count) (h2 : count < (fs.length : Int)) : rdF ks count.toNat = none := h.2.2.2.2 (by omega)
theorem rf_lo {ks fs : List Int} {count at' : Int} (h : RfInv ks count at' fs) : 0 ≤ at' := h.1
theorem rf_hi {ks fs : List Int} {count at' : Int} (h : RfInv ks count at' fs) (hl : ks.length ≤ 5000) : at' ≤ 10000 := by have := h.2.1; omega
theorem rf_len {ks fs : List Int} {count at' : Int} (h : RfInv ks count at' fs) (hl : count ≤ 600) : fs.length ≤ 900 := by have := h.2.2.1; omega
end Mine

namespace Mine
section
variable {w : World} {pT : Program} {lT : List Str} {mean : ExcName → Option Value} {mg mb : Str → Option Value} {A A₀ : Around} {base h₀ : Heap} {outer : List Env} {env : Env} {L : Addr} {m : Str → Option Value} {s : Shared} {Q E : Value → Shared → Prop}
theorem getD_lo {ks : List Int} (hr : In8 ks) (i : Nat) : 0 ≤ ks.getD i 0 ∧ ks.getD i 0 < 256 := getD_in8 hr i _ (List.mem_singleton.mpr rfl)
theorem back2 {h₀ h h' : Heap} {L x dx : Addr} {o o' i : Obj} {news : List (Addr × Obj)} {g : Obj → List (Addr × Obj)} (U : UpdF dx o news g) (hm : (x, i) ∈ news) (N : News h₀ L h news) (N' : News h₀ L h' [(x, i), (dx, o')]) (K : Kept [x, dx] h h') : News h₀ L h' (g o') := by
  have hx := (N _ hm).1
  have old : ∀ p ∈ news, p.1 ≠ dx → h'.get? p.1 = some p.2 := fun p hp hd => by
    by_cases e : p.1 = x
    · have h1 := (N p hp).1
      rw [e, hx] at h1
      rw [e, ← Option.some.inj h1]
      exact (N' _ (.head _)).1
    · exact K _ _ (N p hp).1 (by simp [e, hd])
  obtain ⟨pre, post, rfl, hg, a, b⟩ := U.split
  rw [hg]
  intro p hp
  rcases List.mem_append.mp hp with hp | hp
  · have h1 := List.mem_append_left ((dx, o) :: post) hp
    exact ⟨old p h1 (a p hp), (N p h1).2⟩
  · rcases List.mem_cons.mp hp with rfl | hp
    · exact N' _ (.tail _ (.head _))
    · have h1 := List.mem_append_right pre (List.mem_cons_of_mem (dx, o) hp)
      exact ⟨old p h1 (b p hp), (N p h1).2⟩
theorem off2 {a b c : Addr} {o o' : Obj} (h : a ≠ b) (h' : a ≠ c) : a ∉ [(b, o), (c, o')].map (·.1) := fun q => by
  rcases List.mem_cons.mp q with e | e
  · exact h e
  · exact h' (List.mem_singleton.mp e)
theorem pair_of {h₀ h : Heap} {L x dx : Addr} {o i : Obj} {news : List (Addr × Obj)} {g : Obj → List (Addr × Obj)} (U : UpdF dx o news g) (hm : (x, i) ∈ news) (N : News h₀ L h news) : News h₀ L h [(x, i), (dx, o)] := fun p hp => by
  rcases List.mem_cons.mp hp with rfl | hp
  · exact N _ hm
  · exact of_upd U N p hp
theorem byte_x {x dx : Addr} {ks : List Int} {at' : Int} {k1 k2 t ta : Tok} {news : List (Addr × Obj)} {g : Obj → List (Addr × Obj)}
    (C : Cx w pT lT mean mg mb A A₀ 540 1700 base h₀ outer env L m s.heap) (N : News h₀ L s.heap news) (hm : (x, W.instObj 126 dx) ∈ news) (Up : UpdF dx (octD w k1 k2 ks t at' ta) news g) (hr : In8 ks) (hl : ks.length ≤ 5000) (h0 : 0 ≤ at') (h1 : at' ≤ 10000) (hd : @LT.lt Nat _ dx x)
    (k : at' + 1 ≤ (ks.length : Int) → ∀ ta' t' h' tk', Fr h₀ L h' m → News h₀ L h' (g (octD w k1 k2 ks t (at' + 1) ta')) → 0 ≤ ks.getD at'.toNat 0 → ks.getD at'.toNat 0 < 256 → Q (.int (ks.getD at'.toNat 0) t') { s with heap := h', toks := tk' })
    (ke : ¬ at' + 1 ≤ (ks.length : Int) → ∀ e h' tk', Flew s.heap [x, dx] (env :: outer) e h' → E (.ref e) { s with heap := h', toks := tk' }) :
    wpAny (model PySem.Challenge.rw_on0233_01.row.prog w) A (call (.ref 102) [.ref x]) Q E s :=
  byte_core C (pair_of Up hm N) hr hl h0 h1 hd (Nat.ne_of_gt hd) (fun hc ta' t' h' tk' F' N' K' => k hc ta' t' h' tk' F' (back2 Up hm N N' K') (getD_lo hr _).1 (getD_lo hr _).2) ke
theorem word_x {x dx : Addr} {ks : List Int} {at' : Int} {k1 k2 t ta : Tok} {news : List (Addr × Obj)} {g : Obj → List (Addr × Obj)}
    (C : Cx w pT lT mean mg mb A A₀ 540 1700 base h₀ outer env L m s.heap) (N : News h₀ L s.heap news) (hm : (x, W.instObj 126 dx) ∈ news) (Up : UpdF dx (octD w k1 k2 ks t at' ta) news g) (hr : In8 ks) (hl : ks.length ≤ 5000) (h0 : 0 ≤ at') (h1 : at' ≤ 10000) (hd : @LT.lt Nat _ dx x)
    (k : at' + 2 ≤ (ks.length : Int) → ∀ ta' t' h' tk', Fr h₀ L h' m → News h₀ L h' (g (octD w k1 k2 ks t (at' + 2) ta')) → Q (.int (u2 ks at'.toNat) t') { s with heap := h', toks := tk' })
    (ke : ¬ at' + 2 ≤ (ks.length : Int) → ∀ e h' tk', Flew s.heap [x, dx] (env :: outer) e h' → E (.ref e) { s with heap := h', toks := tk' }) :
    wpAny (model PySem.Challenge.rw_on0233_01.row.prog w) A (call (.ref 109) [.ref x]) Q E s :=
  word_core C (pair_of Up hm N) hr hl h0 h1 hd (Nat.ne_of_gt hd) (fun hc ta' t' h' tk' F' N' K' => k hc ta' t' h' tk' F' (back2 Up hm N N' K')) ke
theorem signed_x {x dx : Addr} {ks : List Int} {at' : Int} {k1 k2 t ta : Tok} {news : List (Addr × Obj)} {g : Obj → List (Addr × Obj)}
    (C : Cx w pT lT mean mg mb A A₀ 530 1650 base h₀ outer env L m s.heap) (N : News h₀ L s.heap news) (hm : (x, W.instObj 126 dx) ∈ news) (Up : UpdF dx (octD w k1 k2 ks t at' ta) news g) (hr : In8 ks) (hl : ks.length ≤ 5000) (h0 : 0 ≤ at') (h1 : at' ≤ 10000) (hd : @LT.lt Nat _ dx x)
    (k : at' + 2 ≤ (ks.length : Int) → ∀ ta' t' h' tk', Fr h₀ L h' m → News h₀ L h' (g (octD w k1 k2 ks t (at' + 2) ta')) → Q (.int (s2 ks at'.toNat) t') { s with heap := h', toks := tk' })
    (ke : ¬ at' + 2 ≤ (ks.length : Int) → ∀ e h' tk', Flew s.heap [x, dx] (env :: outer) e h' → E (.ref e) { s with heap := h', toks := tk' }) :
    wpAny (model PySem.Challenge.rw_on0233_01.row.prog w) A (call (.ref 116) [.ref x]) Q E s :=
  signed_core C (pair_of Up hm N) hr hl h0 h1 hd (Nat.ne_of_gt hd) (fun hc ta' t' h' tk' F' N' K' => k hc ta' t' h' tk' F' (back2 Up hm N N' K')) ke
theorem rep_x {l : Addr} {v x : Int} {tv u : Tok} {n : Nat} {news : List (Addr × Obj)} (F : Fr h₀ L s.heap m) (N : News h₀ L s.heap news) (hm : (l, W.listOf #[.int v tv] n) ∈ news) (h0 : 0 ≤ x) (h1 : x ≤ 257)
    (k : ∀ (l' : Addr) (h' : Heap), Fr h₀ L h' m → News h₀ L h' ((l', W.listOf (List.replicate x.toNat (Value.int v tv)).toArray 0) :: news) → IntsAre (List.replicate x.toNat (Value.int v tv)) (List.replicate x.toNat v) → (List.replicate x.toNat v).length ≤ 257 → (∀ p ∈ news, p.1 < l') → Q (.ref l') { s with heap := h' }) :
    wpAny (model PySem.Challenge.rw_on0233_01.row.prog w) A (binaryOp .Mult (.ref l) (.int x u)) Q E s := rep1 F N hm h0 h1 k
section

theorem rflags_core {x dx : Addr} {ks : List Int} {count : Int} {k1 k2 t ta tc : Tok}
    (C : Cx w pT lT mean mg mb A A₀ 520 1600 base h₀ outer env L m s.heap) (N : News h₀ L s.heap [(x, W.instObj 126 dx), (dx, octD w k1 k2 ks t 0 ta)]) (hr : In8 ks) (hl : ks.length ≤ 5000) (h0 : 0 ≤ count) (h1 : count ≤ 600) (hd : @LT.lt Nat _ dx x)
    (k : ∀ fs at', rdF ks count.toNat = some (fs, at'.toNat) → ∀ l vs n ta' h' tk', IntsAre vs fs → Fr h₀ L h' m → News h₀ L h' [(x, W.instObj 126 dx), (dx, octD w k1 k2 ks t at' ta'), (l, W.listOf vs.toArray n)] → 0 ≤ at' → fs.length ≤ 900 → Kept [x, dx] s.heap h' → s.heap.get? l = none → Q (.ref l) { s with heap := h', toks := tk' })
    (ke : rdF ks count.toNat = none → ∀ e h' tk', Flew s.heap [x, dx] (env :: outer) e h' → E (.ref e) { s with heap := h', toks := tk' }) :
    wpAny (model PySem.Challenge.rw_on0233_01.row.prog w) A (call (.ref 137) [.ref x, .int count tc]) Q E s := by
  k_with_none
  k_with "omega" => first | with_reducible assumption | decide | (with_reducible exact oN1 (by with_reducible assumption) (by decide)) | (with_reducible exact oN2 (by with_reducible assumption) (by decide)) | (with_reducible exact oN3 (by with_reducible assumption) (by decide)) | (with_reducible exact oN4 (by with_reducible assumption) (by decide)) | (with_reducible exact oN5 (by with_reducible assumption) (by decide)) | (with_reducible exact oN6 (by with_reducible assumption) (by decide)) | (with_reducible exact oN7 (by with_reducible assumption) (by decide)) | (with_reducible exact oN8 (by with_reducible assumption) (by decide)) | (with_reducible exact oI1 (by with_reducible assumption) (by decide)) | (with_reducible exact oI2 (by with_reducible assumption) (by decide)) | (with_reducible exact oI3 (by with_reducible assumption) (by decide)) | (with_reducible exact oI4 (by with_reducible assumption) (by decide)) | (with_reducible exact oI5 (by with_reducible assumption) (by decide)) | (with_reducible exact oI6 (by with_reducible assumption) (by decide)) | (with_reducible exact oI7 (by with_reducible assumption) (by decide)) | (with_reducible exact oI8 (by with_reducible assumption) (by decide)) | fail
  k_with "k_pk" => first | exact lA0 | exact lA1 | exact lA2 | exact lA3 | exact lA4 | exact lE1 | exact lE2 | exact lE3 | exact lE4 | exact lE5 | (refine cF ?_; k_extra "k_pk")
  k_with "k_pe" => first | exact eA0 | exact eA1 | exact eA2 | exact eA3 | exact eA4 | exact eE1 | exact eE2 | exact eE3 | exact eE4 | exact eE5 | (refine cF ?_; k_extra "k_pe")
  k_with "k_ltN" => with_reducible first | assumption | exact pL (by with_reducible assumption) (by k_extra "k_pk")
  k_with "k_ne" => (refine neN ?_; (try dsimp only); first | (with_reducible first | exact n01 | exact n02 | exact n03 | exact n04 | exact n05 | exact n01.symm | exact n02.symm | exact n03.symm | exact n04.symm | exact n05.symm | with_reducible assumption | exact Ne.symm (by with_reducible assumption) | exact Nat.ne_of_lt (by k_extra "k_ltN") | exact Nat.ne_of_gt (by k_extra "k_ltN") | exact nS1 (by k_extra "k_ltN") | exact Ne.symm (nS1 (by k_extra "k_ltN")) | exact nS2 (by k_extra "k_ltN") | exact Ne.symm (nS2 (by k_extra "k_ltN")) | exact nS3 (by k_extra "k_ltN") | exact Ne.symm (nS3 (by k_extra "k_ltN")) | exact nS4 (by k_extra "k_ltN") | exact Ne.symm (nS4 (by k_extra "k_ltN")) | exact nS5 (by k_extra "k_ltN") | exact Ne.symm (nS5 (by k_extra "k_ltN")) | exact nS6 (by k_extra "k_ltN") | exact Ne.symm (nS6 (by k_extra "k_ltN")) | exact nT (by with_reducible assumption) (by k_extra "k_ltN") | exact Ne.symm (nT (by with_reducible assumption) (by k_extra "k_ltN")) | exact pN (by with_reducible assumption) (by k_extra "k_pe") | exact Ne.symm (pN (by with_reducible assumption) (by k_extra "k_pe"))) | omega)
  k_with "cell_enter" => ((refine' enter_call ?qzC ?qzN ?qzk6 ?qzk7 ?qzk8 ?qzk9 ?qzkB ?_ ?qzc2 ?qzc3 ?qzc4 ?qzc5; (case qzC => assumption); (case qzN => assumption); (case qzk6 => k_is); (case qzk7 => k_is); (case qzk8 => decide); (case qzk9 => exact BindsTo.of_eq rfl); (case qzc5 => decide); (case qzkB => exact locs rfl); (case qzc2 => exact rfl); (case qzc3 => exact rfl); (case qzc4 => exact rfl); k_whole; intro g'z L'z h'z X0'z T0'z G'z nL'z F'z N'z B'z X'z T'z; (try dsimp only); (try k_fold)))
  k_with "exec Raise some none" => ((k_here; k_dflt (refine' raise_call ?qzhh ?_; (case qzhh => exact rfl); k_whole)))
  k_with "call ref" => ((k_here; k_dflt (refine' fault_make ?qzC ?_; (case qzC => exact ⟨⟨rfl, Nat.le_of_ble_eq_true rfl, rfl, rfl, Nat.le_of_ble_eq_true rfl⟩, rfl, rfl, by k_asm, by k_asm, by k_asm, by k_asm⟩); k_whole); intro e1'z t1'z d1'z h1'z tk1'z q1 q2 q3 q4 q5; refine' faultUp_of ?qzX ?qzhe ?_; (case qzX => exact in_kept (by k_asm) (by k_asm) (by assumption)); (case qzhe => assumption); k_whole))
  k_with "leaving ref" => ((k_here; refine' leave_one ?qzK ?qzF ?qzN ?qzG ?qzhL ?qze ?qzen ?qztn ?qzt ?qzkp ?_ ?qzhk; (case qzK => k_asm); (case qzF => k_asm); (case qzN => k_asm); (case qzG => k_asm); (case qzhL => assumption); (case qze => assumption); (case qzen => assumption); (case qztn => assumption); (case qzt => assumption); (case qzkp => assumption); (case qzhk => rfl); k_whole; intro hz'z fz'z))
  k_with "leaving ref" => ((k_here; refine' leave_two ?qzK ?qzF ?qzG ?qzhL ?qzR ?qzdi ?_; (case qzK => k_asm); (case qzF => k_asm); (case qzG => k_asm); (case qzhL => assumption); (case qzR => assumption); (case qzdi => simp); k_whole; intro hz'z fz'z))
  k_with "call ref" => ((k_here; k_dflt (refine' byte_x ?qzC ?qzN ?qzhm ?qzU ?qzhr ?qzhl ?qzh0 ?qzh1 ?qzhd (fun hc'z ta1'z t1'z h1'z tk1'z F1'z N1'z lo1'z hi1'z => ?_) (fun hc'z e1'z h1'z tk1'z R1'z => ?_); (case qzC => exact ⟨⟨rfl, Nat.le_of_ble_eq_true rfl, rfl, rfl, Nat.le_of_ble_eq_true rfl⟩, rfl, rfl, by k_asm, by k_asm, by k_asm, by k_asm⟩); (case qzN => k_asm); (case qzhm => k_mem); (case qzU => k_updF); (case qzhr => assumption); (case qzhl => assumption); (case qzh0 => omega); (case qzh1 => omega); (case qzhd => assumption); k_whole); (all_goals (try k_sweep))))
  k_with "ksw_same" => ((intro z h2 h3; (try simp only [List.forall_mem_cons, List.not_mem_nil, false_implies, implies_true, and_true, ne_eq] at h2); (try simp only [List.contains_cons, List.contains_nil, Bool.or_false, Bool.or_eq_false_iff, beq_eq_false_iff_ne, ne_eq] at h3); (simp [kstB, h2, h3]; done)))
  k_with "WhX" => ((refine WhX.intro (by assumption) (by assumption) ?_; first | assumption | exact Or.inl (by assumption) | exact Or.inr (Or.inl (by assumption)) | exact Or.inr (Or.inr (by assumption)) | omega))
  k_with "binaryOp Mult ref int" => ((k_here; k_dflt (refine' rep1 ?qzF ?qzN ?qzhm ?qzh0 ?qzh1 ?_; (case qzF => k_asm); (case qzN => k_asm); (case qzhm => k_mem); (case qzh0 => omega); (case qzh1 => omega); k_whole); intro l'z h'z F'z N'z hi'z hl'z l1; (try k_lt l1); (try k_sweep)))
  k_with "binaryOp Add ref ref" => ((k_here; k_dflt (refine' add2 ?qzF ?qzN ?qzh1 ?qzh2 ?qzhi ?qzhj ?qzha ?qzhc ?qzz ?_; (case qzF => k_asm); (case qzN => k_asm); (case qzh1 => k_mem); (case qzh2 => k_mem); (case qzhi => first | assumption | l_intsW); (case qzhj => first | assumption | l_intsW); (case qzha => first | assumption | exact Nat.le_refl _); (case qzhc => first | assumption | exact Nat.le_refl _); (case qzz => decide); k_whole); intro l'z h'z F'z N'z hi'z hl'z l1; (try k_lt l1); (try k_sweep)))
  k_dflt cell_enter
  clear C N
  k_with "exec While Compare cons nil" => (
    refine' while_x (σ := Int × Tok × Addr × List Value × Nat) (fun c => [(c.2.2.1, W.listOf c.2.2.2.1.toArray c.2.2.2.2), (x, W.instObj 126 dx), (dx, octD w k1 k2 ks t c.1 c.2.1)]) (fun c => [(Str.ofString "found", .ref c.2.2.1)]) [Str.ofString "flag", Str.ofString "many"]
      (fun c => ∃ fs, IntsAre c.2.2.2.1 fs ∧ RfInv ks count c.1 fs ∧ @LT.lt Nat _ x c.2.2.1 ∧ s.heap.get? c.2.2.1 = none) (fun c => ¬ (c.2.2.2.1.length : Int) < count) (fun c => (count - (c.2.2.2.1.length : Int)).toNat) (0, _, _, [], 0) ?kF ?kN ?kk ?kP ?kt ?kd
    case kF => assumption
    case kN => assumption
    case kk => kst_all
    case kP => exact ⟨[], .nil, rf_start ks count, by (try dsimp only); omega, Gr.fresh (by assumption) (by assumption) (by k_mem) (off2 (by k_ne) (by k_ne))⟩
    case' kt =>
      rintro ⟨at', t1, l1, vs, nn⟩ u hh tk ⟨fs, hIv, hInv, hxl, hfr⟩ F1 N1
      (try dsimp only at hIv hInv hxl hfr F1 N1 ⊢)
      have hat0 := rf_lo hInv
      have hat1 := rf_hi hInv hl
      have hlen := rf_len hInv h1
      have hvl := hIv.length
      (try k_fold)
    case' kd =>
      rintro ⟨at', t1, l1, vs, nn⟩ u hh tk ⟨fs, hIv, hInv, hxl, hfr⟩ hX F1 N1
      (try dsimp only at hIv hInv hxl hfr hX F1 N1 ⊢)
      have hat0 := rf_lo hInv
      have hlen := rf_len hInv h1
      have hvl := hIv.length
      (try k_fold))
  k_with "state" => first
    | exact ⟨_, by assumption, rf_one hInv (by omega) (by assumption) (by assumption), by (try dsimp only); omega, Gr.fresh (by assumption) (by assumption) (by k_mem) (off2 (by k_ne) (by k_ne))⟩
    | exact ⟨_, by assumption, rf_run (getD_lo hr) hInv (by omega) (by assumption) (by assumption) (by assumption), by (try dsimp only); omega, Gr.fresh (by assumption) (by assumption) (by k_mem) (off2 (by k_ne) (by k_ne))⟩
  k_with "measure" => (simp only [List.length_append, List.length_replicate]; omega)
  w_top off
  k_steps
  all_goals first
    | exact ke (rf_fail hInv (by omega) (by omega)) _ _ _ (by assumption)
    | exact ke (rf_fail2 hInv (by omega) (by omega) (by assumption) (by omega)) _ _ _ (by assumption)
    | exact ke (rf_more hInv h0 (by omega)) _ _ _ (by assumption)
    | exact k _ _ (rf_end hInv h0 (by omega) (by omega)) _ _ _ _ _ _ hIv (by assumption) (news_sub (by assumption) (List.forall_mem_cons.mpr ⟨by k_mem, List.forall_mem_cons.mpr ⟨by k_mem, List.forall_mem_cons.mpr ⟨by k_mem, List.forall_mem_nil _⟩⟩⟩)) hat0 hlen (kept_of (by assumption) (by assumption) (by rfl)) hfr
end
end
end Mine

namespace Mine
noncomputable def AllNeI (I : Addr) (l : List (Addr × Obj)) : Prop := AllNe I l
theorem allNe_of {I : Addr} : ∀ {l : List (Addr × Obj)}, (∀ p ∈ l, p.1 ≠ I) → AllNe I l
  | [], _ => trivial
  | p :: _, h => ⟨h p (.head _), allNe_of fun q hq => h q (.tail _ hq)⟩
section
variable {prog : Program} {w : World} {A : Around} {E : Value → Shared → Prop} {s : Shared} {env : Env} {h₀ : Heap} {target : Expr} {body : List Stmt} {Q : Flow → Shared → Prop}
theorem letGo_rangeiter {I : Addr} {x left step : Int} {v : Value} {Q' : Unit → Shared → Prop} {s' : Shared} (ho : IsRangeIter s'.heap I x left step) (h : Q' () s') :
    wpAny (model prog w) A (letOwnedTupleGo target (.ref I) v) Q' E s' := by
  unfold letOwnedTupleGo
  cases target <;> first
    | exact wpAny_pure h
    | (cases v <;> first
        | exact wpAny_pure h
        | (refine wpAny_bind (wpAny_load ho ?_)
           exact wpAny_pure h))
theorem turns_range {r : Addr} {a₀ b₀ : Int} {t₀ u₀ v₀ : Tok} {n : Nat} {m₀ : Str → Option Value} {news : List (Addr × Obj)} (J : Nat → (Str → Option Value) → List (Addr × Obj) → Prop)
    (hh : A.handled = none) (hr : IsRange s.heap r a₀ b₀ 1 t₀ u₀ v₀) (hsmall : Builtin.Range.small a₀ b₀ 1 = true) (hn : Builtin.Range.rangeSize a₀ b₀ 1 = (n : Int)) (F : Fr h₀ env.locals s.heap m₀) (N : News h₀ env.locals s.heap news) (hj : J 0 m₀ news)
    (turn : ∀ i t I io m₁ nx h tk, i < n → J i m₁ nx → (∀ p ∈ nx, p.1 ≠ I) → Fr h₀ env.locals h m₁ → News h₀ env.locals h ((I, io) :: nx) →
      wpAny (model prog w) A (assign target env (.int (a₀ + (i : Int)) t)) (fun _ s₃ => wpAny (model prog w) A (execs body env) (TnPost h₀ env.locals I io (J (i + 1)) { s with heap := h, toks := tk } Q) E s₃) E { s with heap := h, toks := tk })
    (done : ∀ m₁ nx h tk, J n m₁ nx → Fr h₀ env.locals h m₁ → News h₀ env.locals h nx → Q .next { s with heap := h, toks := tk }) :
    wpAny (model prog w) A (pyIter (.ref r)) (fun it s₂ => TurnsAt prog w A h₀ env target body Q E it s₂) E s := by
  refine wpAny_pyIter_range hr hsmall ?_
  have Wk := KTurns.ofWalks (target := target) (LCg.range_walks (prog := prog) (w := w) (I := s.heap.objs.size) hh a₀ n) fun i v s Q E st q => letGo_rangeiter st q
  refine ⟨_, _, _, n, _, _, _, m₀, news, J, rfl, Wk, ?_, ?_, ?_, (by show IsRangeIter _ _ _ _ _; rw [hn]; simpa using Heap.get?_push_size _ rfl), F.push _, (fun p hp => ⟨Heap.get?_push_of_some _ (N p hp).1, (N p hp).2⟩), hj, ?_, ?_⟩
  · intro hm
    exact absurd F.ns.lt ((List.mem_singleton.mp hm) ▸ Nat.lt_irrefl _)
  · intro b hb
    rw [List.mem_singleton.mp hb]
    exact next_is_new F
  · intro p hp hI
    exact absurd (Heap.lt_size (N p hp).1) ((List.mem_singleton.mp hI) ▸ Nat.lt_irrefl _)
  · intro i v m₁ nx h tk own hlt hP hJ hnw hown hgot hall hst F₁ N₁
    obtain ⟨t, rfl⟩ := hP
    have hIn : h₀.get? s.heap.objs.size = none := next_is_new F
    obtain ⟨io, hio⟩ : ∃ io, h.get? s.heap.objs.size = some io := ⟨_, hst⟩
    have hIo := hall _ (by simp) hIn _ hio
    refine wpAny_mono (turn i t s.heap.objs.size io m₁ nx h tk hlt hJ (fun p hp => by simpa using hnw p hp) F₁ (fun p hp => ?_)) (fun _ s₃ z => wpAny_mono z (fun f s₄ z => ?_) fun _ _ e => e) fun _ _ e => e
    · rcases List.mem_cons.mp hp with rfl | hp
      · exact N₁ _ (List.mem_append_left _ hIo)
      · exact N₁ _ (List.mem_append_right _ hp)
    · have fin : TnEnd h₀ env.locals s.heap.objs.size io (J (i + 1)) { s with heap := h, toks := tk } s₄ → LoopStepU h₀ env.locals [s.heap.objs.size] own (J (i + 1)) { s with heap := h, toks := tk } .next s₄ := by
        rintro ⟨h', tk', m', nx', rfl, F', N', hn', j'⟩
        refine LoopStepU.intro F' (fun p hp => ?_) (fun p hp => by simpa using hn' p hp) j'
        rcases List.mem_append.mp hp with hp | hp
        · have e := List.mem_singleton.mp (hown p hp)
          have h1 := hgot p hp
          rw [e, hio] at h1
          have : p = (s.heap.objs.size, io) := Prod.ext e (Option.some.inj h1).symm
          rw [this]
          exact N' _ (.head _)
        · exact N' _ (.tail _ hp)
      cases f with
      | ret v => exact .ret z
      | brk => exact .brk z
      | next => exact .next (fin z)
      | cont => exact .cont (fin z)
  · intro h' tk m' nx F' N' _ hJ
    exact done m' nx h' tk hJ F' N'
/-- a loop's turn, told by a state -/
noncomputable def TsJ {σ : Type} (Led : σ → List (Addr × Obj)) (ps : σ → List (Str × Value)) (stored : List Str) (m₀ : Str → Option Value) (P : Nat → σ → Prop) (i : Nat) (m : Str → Option Value) (nx : List (Addr × Obj)) : Prop :=
  ∃ c, nx = Led c ∧ (∀ p ∈ ps c, m p.1 = some p.2) ∧ (∀ z, (∀ p ∈ ps c, z ≠ p.1) → stored.contains z = false → m z = m₀ z) ∧ P i c
noncomputable def TsEnd {σ : Type} (h₀ : Heap) (L : Addr) (I : Addr) (io : Obj) (Led : σ → List (Addr × Obj)) (ps : σ → List (Str × Value)) (stored : List Str) (m₀ : Str → Option Value) (Pn : σ → Prop) (s₁ s₂ : Shared) : Prop :=
  ∃ c h' tk m', s₂ = { s₁ with heap := h', toks := tk } ∧ Fr h₀ L h' m' ∧ News h₀ L h' ((I, io) :: Led c) ∧ (∀ p ∈ Led c, p.1 ≠ I) ∧ (∀ p ∈ ps c, m' p.1 = some p.2) ∧ (∀ z, (∀ p ∈ ps c, z ≠ p.1) → stored.contains z = false → m' z = m₀ z) ∧ Pn c
theorem TsEnd.intro {σ : Type} {L : Addr} {I : Addr} {io : Obj} {Led : σ → List (Addr × Obj)} {ps : σ → List (Str × Value)} {stored : List Str} {m₀ : Str → Option Value} {Pn : σ → Prop} {s₁ : Shared} {h' : Heap} {tk : Nat} {m' : Str → Option Value} (c : σ) {news' : List (Addr × Obj)}
    (F : Fr h₀ L h' m') (N : News h₀ L h' news') (hs : ∀ p ∈ (I, io) :: Led c, p ∈ news') (hn : ∀ p ∈ Led c, p.1 ≠ I) (hk : ∀ p ∈ ps c, m' p.1 = some p.2) (hr : ∀ z, (∀ p ∈ ps c, z ≠ p.1) → stored.contains z = false → m' z = m₀ z) (hp : Pn c) :
    TsEnd h₀ L I io Led ps stored m₀ Pn s₁ { s₁ with heap := h', toks := tk } := ⟨c, h', tk, m', rfl, F, news_sub N hs, hn, hk, hr, hp⟩
noncomputable def TsPost {σ : Type} (h₀ : Heap) (L : Addr) (I : Addr) (io : Obj) (Led : σ → List (Addr × Obj)) (ps : σ → List (Str × Value)) (stored : List Str) (m₀ : Str → Option Value) (Pn : σ → Prop) (s₁ : Shared) (Q : Flow → Shared → Prop) (f : Flow) (s₂ : Shared) : Prop :=
  match f with
  | .ret v => Q (.ret v) s₂
  | .brk => Q .next s₂
  | _ => TsEnd h₀ L I io Led ps stored m₀ Pn s₁ s₂
theorem ts_post {σ : Type} {L : Addr} {I : Addr} {io : Obj} {Led : σ → List (Addr × Obj)} {ps : σ → List (Str × Value)} {stored : List Str} {m₀ : Str → Option Value} {P : Nat → σ → Prop} {i : Nat} {s₁ s₂ : Shared} {f : Flow} (h : TsPost h₀ L I io Led ps stored m₀ (P i) s₁ Q f s₂) :
    TnPost h₀ L I io (TsJ Led ps stored m₀ P i) s₁ Q f s₂ := by
  have go : TsEnd h₀ L I io Led ps stored m₀ (P i) s₁ s₂ → TnEnd h₀ L I io (TsJ Led ps stored m₀ P i) s₁ s₂ := by
    rintro ⟨c, h', tk, m', e, F, N, hn, hk, hr, hp⟩
    exact ⟨h', tk, m', _, e, F, N, hn, c, rfl, hk, hr, hp⟩
  cases f with
  | ret v => exact h
  | brk => exact h
  | next => exact go h
  | cont => exact go h
theorem ts_range {σ : Type} {r : Addr} {a₀ b₀ : Int} {t₀ u₀ v₀ : Tok} {m₀ : Str → Option Value} {news : List (Addr × Obj)} (Led : σ → List (Addr × Obj)) (ps : σ → List (Str × Value)) (stored : List Str) (P : Nat → σ → Prop) (c₀ : σ) (n : Nat)
    (hh : A.handled = none) (hr : IsRange s.heap r a₀ b₀ 1 t₀ u₀ v₀) (hsmall : Builtin.Range.small a₀ b₀ 1 = true) (hn : Builtin.Range.rangeSize a₀ b₀ 1 = (n : Int)) (F : Fr h₀ env.locals s.heap m₀) (N : News h₀ env.locals s.heap news) (hs : ∀ p ∈ Led c₀, p ∈ news) (hk : ∀ p ∈ ps c₀, m₀ p.1 = some p.2) (hp : P 0 c₀)
    (turn : ∀ i c t I io (u : Str → Option Value) h tk, i < n → P i c → AllNe I (Led c) → Fr h₀ env.locals h (kstB (fun z => if stored.contains z then u z else m₀ z) (ps c)) → News h₀ env.locals h ((I, io) :: Led c) →
      wpAny (model prog w) A (assign target env (.int (a₀ + (i : Int)) t)) (fun _ s₃ => wpAny (model prog w) A (execs body env) (TsPost h₀ env.locals I io Led ps stored m₀ (P (i + 1)) { s with heap := h, toks := tk } Q) E s₃) E { s with heap := h, toks := tk })
    (done : ∀ c (u : Str → Option Value) h tk, P n c → Fr h₀ env.locals h (kstB (fun z => if stored.contains z then u z else m₀ z) (ps c)) → News h₀ env.locals h (Led c) → Q .next { s with heap := h, toks := tk }) :
    wpAny (model prog w) A (pyIter (.ref r)) (fun it s₂ => TurnsAt prog w A h₀ env target body Q E it s₂) E s := by
  refine turns_range (TsJ Led ps stored m₀ P) hh hr hsmall hn F (news_sub N hs) ⟨c₀, rfl, hk, fun _ _ _ => rfl, hp⟩ ?_ ?_
  · rintro i t I io m₁ nx h tk hi ⟨c, rfl, h1, h2, hp'⟩ hne F₁ N₁
    exact wpAny_mono (turn i c t I io m₁ h tk hi hp' (allNe_of hne) (ksw_fr h1 h2 F₁) N₁) (fun _ _ z => wpAny_mono z (fun _ _ z => ts_post z) fun _ _ e => e) fun _ _ e => e
  · rintro m₁ nx h tk ⟨c, rfl, h1, h2, hp'⟩ F₁ N₁
    exact done c m₁ h tk hp' (ksw_fr h1 h2 F₁) N₁
theorem ts_list {σ : Type} {l : Addr} {vs : List Value} {nn : Nat} {m₀ : Str → Option Value} {news : List (Addr × Obj)} (Led : σ → List (Addr × Obj)) (ps : σ → List (Str × Value)) (stored : List Str) (P : Nat → σ → Prop) (c₀ : σ)
    (hh : A.handled = none) (hl : ∀ c, (l, W.listOf vs.toArray nn) ∈ Led c) (F : Fr h₀ env.locals s.heap m₀) (N : News h₀ env.locals s.heap news) (hs : ∀ p ∈ Led c₀, p ∈ news) (hk : ∀ p ∈ ps c₀, m₀ p.1 = some p.2) (hp : P 0 c₀)
    (turn : ∀ i v c I io (u : Str → Option Value) h tk, vs[i]? = some v → P i c → AllNe I (Led c) → Fr h₀ env.locals h (kstB (fun z => if stored.contains z then u z else m₀ z) (ps c)) → News h₀ env.locals h ((I, io) :: Led c) →
      wpAny (model prog w) A (assign target env v) (fun _ s₃ => wpAny (model prog w) A (execs body env) (TsPost h₀ env.locals I io Led ps stored m₀ (P (i + 1)) { s with heap := h, toks := tk } Q) E s₃) E { s with heap := h, toks := tk })
    (done : ∀ c (u : Str → Option Value) h tk, P vs.length c → Fr h₀ env.locals h (kstB (fun z => if stored.contains z then u z else m₀ z) (ps c)) → News h₀ env.locals h (Led c) → Q .next { s with heap := h, toks := tk }) :
    wpAny (model prog w) A (pyIter (.ref l)) (fun it s₂ => TurnsAt prog w A h₀ env target body Q E it s₂) E s := by
  refine turns_list (TsJ Led ps stored m₀ P) hh (hl c₀) F (news_sub N hs) ⟨c₀, rfl, hk, fun _ _ _ => rfl, hp⟩ (fun i m nx ⟨c, e, _⟩ => e ▸ hl c) ?_ ?_
  · rintro i v I io m₁ nx h tk hi ⟨c, rfl, h1, h2, hp'⟩ hne F₁ N₁
    exact wpAny_mono (turn i v c I io m₁ h tk hi hp' (allNe_of hne) (ksw_fr h1 h2 F₁) N₁) (fun _ _ z => wpAny_mono z (fun _ _ z => ts_post z) fun _ _ e => e) fun _ _ e => e
  · rintro m₁ nx h tk ⟨c, rfl, h1, h2, hp'⟩ F₁ N₁
    exact done c m₁ h tk hp' (ksw_fr h1 h2 F₁) N₁
end
end Mine

namespace Mine
/-- the last of those read, or minus one -/
noncomputable def lastOf (fs : List Int) : Int := if fs = [] then -1 else fs.getD (fs.length - 1) 0
noncomputable def rdE (ks : List Int) : Nat → Nat → Int → Option (List Int)
  | _, 0, _ => some []
  | i, n + 1, last => if 2 * i + 2 ≤ ks.length then (if u2 ks (2 * i) ≤ last then none else (rdE ks (i + 1) n (u2 ks (2 * i))).map (u2 ks (2 * i) :: ·)) else none
noncomputable def ReInv (ks : List Int) (n : Nat) (i : Nat) (fs : List Int) : Prop :=
  fs.length = i ∧ i ≤ n ∧ 2 * i ≤ ks.length ∧ rdE ks 0 n (-1) = (rdE ks i (n - i) (lastOf fs)).map (fs ++ ·)
theorem re_start (ks : List Int) (n : Nat) : ReInv ks n 0 [] := by
  refine ⟨rfl, Nat.zero_le _, Nat.zero_le _, ?_⟩
  show rdE ks 0 n (-1) = (rdE ks 0 (n - 0) (-1)).map ([] ++ ·)
  rw [Nat.sub_zero]
  cases rdE ks 0 n (-1) <;> simp
theorem lastOf_snoc (fs : List Int) (x : Int) : lastOf (fs ++ [x]) = x := by
  unfold lastOf
  rw [if_neg (by simp)]
  simp
theorem re_step {ks fs : List Int} {n i : Nat} (h : ReInv ks n i fs) (hi : i < n) (h1 : 2 * (i : Int) + 2 ≤ (ks.length : Int)) (h2 : ¬ u2 ks (2 * i) ≤ lastOf fs) : ReInv ks n (i + 1) (fs ++ [u2 ks (2 * i)]) := by
  obtain ⟨a, b, c, d⟩ := h
  refine ⟨by simp [a], hi, by omega, ?_⟩
  rw [d, show n - i = (n - (i + 1)) + 1 by omega, rdE, if_pos (by omega), if_neg h2, lastOf_snoc, Option.map_map]
  congr 1
  funext p
  simp
theorem re_low {ks fs : List Int} {n i : Nat} (h : ReInv ks n i fs) (hi : i < n) (h1 : 2 * (i : Int) + 2 ≤ (ks.length : Int)) (h2 : u2 ks (2 * i) ≤ lastOf fs) : rdE ks 0 n (-1) = none := by
  obtain ⟨a, b, c, d⟩ := h
  rw [d, show n - i = (n - (i + 1)) + 1 by omega, rdE, if_pos (by omega), if_pos h2]
  rfl
theorem re_short {ks fs : List Int} {n i : Nat} (h : ReInv ks n i fs) (hi : i < n) (h1 : ¬ 2 * (i : Int) + 2 ≤ (ks.length : Int)) : rdE ks 0 n (-1) = none := by
  obtain ⟨a, b, c, d⟩ := h
  rw [d, show n - i = (n - (i + 1)) + 1 by omega, rdE, if_neg (by omega)]
  rfl
theorem re_end {ks fs : List Int} {n : Nat} (h : ReInv ks n n fs) : rdE ks 0 n (-1) = some fs := by
  obtain ⟨a, b, c, d⟩ := h
  rw [d, Nat.sub_self, rdE]
  simp
theorem lastOf_nil : lastOf [] = -1 := rfl
theorem lastOf_ne {fs : List Int} (h : fs ≠ []) : lastOf fs = fs.getD (fs.length - 1) 0 := if_neg h
theorem re_step' {ks fs : List Int} {n i : Nat} (h : ReInv ks n i fs) (hi : i < n) (h1 : 2 * (i : Int) + 2 ≤ (ks.length : Int)) (h2 : ¬ u2 ks (2 * (i : Int)).toNat ≤ lastOf fs) : ReInv ks n (i + 1) (fs ++ [u2 ks (2 * (i : Int)).toNat]) := by
  rw [show (2 * (i : Int)).toNat = 2 * i by omega] at h2 ⊢
  exact re_step h hi h1 h2
theorem re_low' {ks fs : List Int} {n i : Nat} (h : ReInv ks n i fs) (hi : i < n) (h1 : 2 * (i : Int) + 2 ≤ (ks.length : Int)) (h2 : u2 ks (2 * (i : Int)).toNat ≤ lastOf fs) : rdE ks 0 n (-1) = none := by
  rw [show (2 * (i : Int)).toNat = 2 * i by omega] at h2
  exact re_low h hi h1 h2
end Mine

namespace Mine
section
variable {w : World} {pT : Program} {lT : List Str} {mean : ExcName → Option Value} {mg mb : Str → Option Value} {A A₀ : Around} {base h₀ : Heap} {outer : List Env} {env : Env} {L : Addr} {m : Str → Option Value} {s : Shared} {Q E : Value → Shared → Prop}
section


theorem last_any {l : Addr} {vs : List Value} {nn : Nat} {v : Value} {value slice : Expr} {u : Tok} {news : List (Addr × Obj)} (N : News h₀ L s.heap news) (hm : (l, W.listOf vs.toArray nn) ∈ news) (hx : vs[vs.length - 1]? = some v) (h : Q v s)
    (hs : subscripted slice false (.ref l) (.int (-1) u) = operate [.ref l, .int (-1) u] (getItem (.ref l) (.int (-1) u)) := by with_unfolding_all rfl) :
    wpAny (model PySem.Challenge.rw_on0233_01.row.prog w) A (subscriptTail value slice (.ref l) (.int (-1) u)) Q E s := by
  have hlt : 0 < vs.length := by
    cases vs with
    | nil => simp at hx
    | cons a r => simp
  refine kde_neg (j := vs.length - 1) (News.isList N hm) (by decide) (by decide) ?_ hx h hs
  simp only [seqIndex?]
  rw [if_pos (by decide : (-1 : Int) < 0), if_pos (by simp; omega)]
  congr 1
  omega
theorem last_int {l : Addr} {vs : List Value} {nn : Nat} {ns : List Int} {value slice : Expr} {u : Tok} {news : List (Addr × Obj)} (N : News h₀ L s.heap news) (hm : (l, W.listOf vs.toArray nn) ∈ news) (hi : IntsAre vs ns) (hne : ns ≠ []) (h : ∀ t, Q (.int (lastOf ns) t) s)
    (hs : subscripted slice false (.ref l) (.int (-1) u) = operate [.ref l, .int (-1) u] (getItem (.ref l) (.int (-1) u)) := by with_unfolding_all rfl) :
    wpAny (model PySem.Challenge.rw_on0233_01.row.prog w) A (subscriptTail value slice (.ref l) (.int (-1) u)) Q E s := by
  have hlt : 0 < ns.length := List.length_pos_iff.mpr hne
  have hg := ints_getD (ns := ns) (k := (ns.length : Int) - 1) (by omega) (by omega)
  rw [show ((ns.length : Int) - 1).toNat = ns.length - 1 by omega, ← hi.length] at hg
  obtain ⟨t, hx⟩ := hi.get (vs.length - 1) _ hg
  rw [lastOf_ne hne, ← hi.length] at h
  exact last_any N hm hx (h t) hs
section
theorem rends_core {x dx : Addr} {ks : List Int} {many : Int} {k1 k2 t ta tc : Tok}
    (C : Cx w pT lT mean mg mb A A₀ 520 1600 base h₀ outer env L m s.heap) (N : News h₀ L s.heap [(x, W.instObj 126 dx), (dx, octD w k1 k2 ks t 0 ta)]) (hr : In8 ks) (hl : ks.length ≤ 5000) (h0 : 0 ≤ many) (h1 : many ≤ 600) (hd : @LT.lt Nat _ dx x)
    (k : ∀ fs, rdE ks 0 many.toNat (-1) = some fs → ∀ l vs n at' ta' h' tk', IntsAre vs fs → Fr h₀ L h' m → News h₀ L h' [(x, W.instObj 126 dx), (dx, octD w k1 k2 ks t at' ta'), (l, W.listOf vs.toArray n)] → Kept [x, dx] s.heap h' → s.heap.get? l = none → Q (.ref l) { s with heap := h', toks := tk' })
    (ke : rdE ks 0 many.toNat (-1) = none → ∀ e h' tk', Flew s.heap [x, dx] (env :: outer) e h' → E (.ref e) { s with heap := h', toks := tk' }) :
    wpAny (model PySem.Challenge.rw_on0233_01.row.prog w) A (call (.ref 151) [.ref x, .int many tc]) Q E s := by
  k_with_none
  k_with "omega" => first | with_reducible assumption | decide | (with_reducible exact oN1 (by with_reducible assumption) (by decide)) | (with_reducible exact oN2 (by with_reducible assumption) (by decide)) | (with_reducible exact oN3 (by with_reducible assumption) (by decide)) | (with_reducible exact oN4 (by with_reducible assumption) (by decide)) | (with_reducible exact oN5 (by with_reducible assumption) (by decide)) | (with_reducible exact oN6 (by with_reducible assumption) (by decide)) | (with_reducible exact oN7 (by with_reducible assumption) (by decide)) | (with_reducible exact oN8 (by with_reducible assumption) (by decide)) | (with_reducible exact oI1 (by with_reducible assumption) (by decide)) | (with_reducible exact oI2 (by with_reducible assumption) (by decide)) | (with_reducible exact oI3 (by with_reducible assumption) (by decide)) | (with_reducible exact oI4 (by with_reducible assumption) (by decide)) | (with_reducible exact oI5 (by with_reducible assumption) (by decide)) | (with_reducible exact oI6 (by with_reducible assumption) (by decide)) | (with_reducible exact oI7 (by with_reducible assumption) (by decide)) | (with_reducible exact oI8 (by with_reducible assumption) (by decide)) | fail
  k_with "k_pk" => first | exact lA0 | exact lA1 | exact lA2 | exact lA3 | exact lA4 | exact lE1 | exact lE2 | exact lE3 | exact lE4 | exact lE5 | (refine cF ?_; k_extra "k_pk")
  k_with "k_pe" => first | exact eA0 | exact eA1 | exact eA2 | exact eA3 | exact eA4 | exact eE1 | exact eE2 | exact eE3 | exact eE4 | exact eE5 | (refine cF ?_; k_extra "k_pe")
  k_with "k_ltN" => with_reducible first | assumption | exact pL (by with_reducible assumption) (by k_extra "k_pk")
  k_with "k_ne" => (refine neN ?_; (try dsimp only); first | (with_reducible first | exact n01 | exact n02 | exact n03 | exact n04 | exact n05 | exact n01.symm | exact n02.symm | exact n03.symm | exact n04.symm | exact n05.symm | with_reducible assumption | exact Ne.symm (by with_reducible assumption) | exact Nat.ne_of_lt (by k_extra "k_ltN") | exact Nat.ne_of_gt (by k_extra "k_ltN") | exact nS1 (by k_extra "k_ltN") | exact Ne.symm (nS1 (by k_extra "k_ltN")) | exact nS2 (by k_extra "k_ltN") | exact Ne.symm (nS2 (by k_extra "k_ltN")) | exact nS3 (by k_extra "k_ltN") | exact Ne.symm (nS3 (by k_extra "k_ltN")) | exact nS4 (by k_extra "k_ltN") | exact Ne.symm (nS4 (by k_extra "k_ltN")) | exact nS5 (by k_extra "k_ltN") | exact Ne.symm (nS5 (by k_extra "k_ltN")) | exact nS6 (by k_extra "k_ltN") | exact Ne.symm (nS6 (by k_extra "k_ltN")) | exact nT (by with_reducible assumption) (by k_extra "k_ltN") | exact Ne.symm (nT (by with_reducible assumption) (by k_extra "k_ltN")) | exact pN (by with_reducible assumption) (by k_extra "k_pe") | exact Ne.symm (pN (by with_reducible assumption) (by k_extra "k_pe"))) | omega)
  k_with "cell_enter" => ((refine' enter_call ?qzC ?qzN ?qzk6 ?qzk7 ?qzk8 ?qzk9 ?qzkB ?_ ?qzc2 ?qzc3 ?qzc4 ?qzc5; (case qzC => assumption); (case qzN => assumption); (case qzk6 => k_is); (case qzk7 => k_is); (case qzk8 => decide); (case qzk9 => exact BindsTo.of_eq rfl); (case qzc5 => decide); (case qzkB => exact locs rfl); (case qzc2 => exact rfl); (case qzc3 => exact rfl); (case qzc4 => exact rfl); k_whole; intro g'z L'z h'z X0'z T0'z G'z nL'z F'z N'z B'z X'z T'z; (try dsimp only); (try k_fold)))
  k_with "exec Raise some none" => ((k_here; k_dflt (refine' raise_call ?qzhh ?_; (case qzhh => exact rfl); k_whole)))
  k_with "call ref" => ((k_here; k_dflt (refine' fault_make ?qzC ?_; (case qzC => exact ⟨⟨rfl, Nat.le_of_ble_eq_true rfl, rfl, rfl, Nat.le_of_ble_eq_true rfl⟩, rfl, rfl, by k_asm, by k_asm, by k_asm, by k_asm⟩); k_whole); intro e1'z t1'z d1'z h1'z tk1'z q1 q2 q3 q4 q5; refine' faultUp_of ?qzX ?qzhe ?_; (case qzX => exact in_kept (by k_asm) (by k_asm) (by assumption)); (case qzhe => assumption); k_whole))
  k_with "leaving ref" => ((k_here; refine' leave_one ?qzK ?qzF ?qzN ?qzG ?qzhL ?qze ?qzen ?qztn ?qzt ?qzkp ?_ ?qzhk; (case qzK => k_asm); (case qzF => k_asm); (case qzN => k_asm); (case qzG => k_asm); (case qzhL => assumption); (case qze => assumption); (case qzen => assumption); (case qztn => assumption); (case qzt => assumption); (case qzkp => assumption); (case qzhk => rfl); k_whole; intro hz'z fz'z))
  k_with "leaving ref" => ((k_here; refine' leave_two ?qzK ?qzF ?qzG ?qzhL ?qzR ?qzdi ?_; (case qzK => k_asm); (case qzF => k_asm); (case qzG => k_asm); (case qzhL => assumption); (case qzR => assumption); (case qzdi => simp); k_whole; intro hz'z fz'z))
  k_with "call ref" => ((k_here; k_dflt (refine' word_x ?qzC ?qzN ?qzhm ?qzU ?qzhr ?qzhl ?qzh0 ?qzh1 ?qzhd (fun hc'z ta1'z t1'z h1'z tk1'z F1'z N1'z => ?_) (fun hc'z e1'z h1'z tk1'z R1'z => ?_); (case qzC => exact ⟨⟨rfl, Nat.le_of_ble_eq_true rfl, rfl, rfl, Nat.le_of_ble_eq_true rfl⟩, rfl, rfl, by k_asm, by k_asm, by k_asm, by k_asm⟩); (case qzN => k_asm); (case qzhm => k_mem); (case qzU => k_updF); (case qzhr => assumption); (case qzhl => assumption); (case qzh0 => omega); (case qzh1 => omega); (case qzhd => assumption); k_whole); (all_goals (try k_sweep))))
  k_with "ksw_same" => ((intro z h2 h3; (try simp only [List.forall_mem_cons, List.not_mem_nil, false_implies, implies_true, and_true, ne_eq] at h2); (try simp only [List.contains_cons, List.contains_nil, Bool.or_false, Bool.or_eq_false_iff, beq_eq_false_iff_ne, ne_eq] at h3); (simp [kstB, h2, h3]; done)))
  k_with "WhX" => ((refine WhX.intro (by assumption) (by assumption) ?_; first | assumption | exact Or.inl (by assumption) | exact Or.inr (Or.inl (by assumption)) | exact Or.inr (Or.inr (by assumption)) | omega))
  k_with "TsPost" => (dsimp only [TsPost])
  k_with "subscriptTail" => ((k_here; k_dflt (refine' last_int ?qzN ?qzhm ?qzhi ?qzhne ?_ ?qzhs; (case qzN => k_asm); (case qzhm => k_mem); (case qzhi => assumption); (case qzhne => exact of_decide_eq_false (by assumption)); (case qzhs => with_unfolding_all rfl); k_whole); intro t'z))
  k_with "TsEnd" => (((rename News _ _ _ _ => nE'z); (try simp only [List.push_toArray] at nE'z); k_dflt (refine' TsEnd.intro ⟨_, _, _, _, _⟩ ?qzF nE'z ?qzhs ?qzhn ?qzhk ?qzhr ?qzhp; (case qzF => assumption); (case qzhk => refine' List.forall_mem_cons.mpr ⟨?qza, List.forall_mem_nil _⟩; (case qza => rfl)); (case qzhs => kst_in); (case qzhn => k_all); (case qzhr => ksw_same); (case qzhp => k_extra "state"))))
  k_dflt cell_enter
  clear C N
  k_with "exec For Name Call cons nil" => ((rename Fr _ _ _ _ => lF'); (with_unfolding_all refine' For_turns lF' ?_); k_whole)
  k_with "pyIter ref" => (
    refine' ts_range (σ := Addr × Int × Tok × List Value × Nat) (fun c => [(c.1, W.listOf c.2.2.2.1.toArray c.2.2.2.2), (x, W.instObj 126 dx), (dx, octD w k1 k2 ks t c.2.1 c.2.2.1)]) (fun c => [(Str.ofString "found", .ref c.1)]) [Str.ofString "number", Str.ofString "end"]
      (fun i c => ∃ fs, IntsAre c.2.2.2.1 fs ∧ ReInv ks many.toNat i fs ∧ c.2.1 = 2 * (i : Int) ∧ @LT.lt Nat _ x c.1 ∧ s.heap.get? c.1 = none) (_, 0, _, [], 0) many.toNat ?hh ?hr ?hs ?hn ?F ?N ?hsub ?hk ?hp ?turn ?done
    case hh => rfl
    case hr => assumption
    case hs => exact small_one (by omega) (by omega) (by omega) (by omega)
    case hn => exact (rangeSize_nat _ _).trans (by rw [Int.sub_zero])
    case F => assumption
    case N => assumption
    case hsub => kst_in
    case hk => kst_all
    case hp => exact ⟨[], .nil, re_start _ _, rfl, by (try dsimp only); omega, Gr.fresh (by assumption) (by assumption) (by k_mem) (off2 (by k_ne) (by k_ne))⟩
    case' turn =>
      rintro i ⟨l1, at', t1, vs, nn⟩ ti I io u hh tk hi ⟨fs, hIv, hInv, hat, hxl, hfr⟩ hne F1 N1
      (try dsimp only at hIv hInv hat hxl hfr F1 N1 ⊢)
      (try dsimp only [AllNe] at hne)
      subst hat
      have hvl := hIv.length
      have hfl := hInv.1
      have hkl := hInv.2.2.1
      (try k_fold)
    case' done =>
      rintro ⟨l1, at', t1, vs, nn⟩ u hh tk ⟨fs, hIv, hInv, hat, hxl, hfr⟩ F1 N1
      (try dsimp only at hIv hInv hat hxl hfr F1 N1 ⊢)
      (try k_fold))
  k_with "state" => first
    | exact ⟨_, IntsAre.append hIv (.cons _ _ .nil), re_step' hInv hi (by omega) (by assumption), by (try dsimp only); omega, hxl, hfr⟩
    | exact ⟨_, IntsAre.append hIv (.cons _ _ .nil), re_step' hInv hi (by omega) (by rw [of_decide_eq_true (by assumption : decide (fs = []) = true)]; assumption), by (try dsimp only); omega, hxl, hfr⟩
  w_top off
  k_steps
  all_goals first
    | exact ke (re_short hInv hi (by omega)) _ _ _ (by assumption)
    | exact ke (re_low' hInv hi (by omega) (by assumption)) _ _ _ (by assumption)
    | exact ke (re_low' hInv hi (by omega) (by rw [of_decide_eq_true (by assumption : decide (fs = []) = true)]; assumption)) _ _ _ (by assumption)
    | exact k _ (re_end hInv) _ _ _ _ _ _ _ hIv (by assumption) (news_sub (by assumption) (List.forall_mem_cons.mpr ⟨by k_mem, List.forall_mem_cons.mpr ⟨by k_mem, List.forall_mem_cons.mpr ⟨by k_mem, List.forall_mem_nil _⟩⟩⟩)) (kept_of (by assumption) (by assumption) (by rfl)) hfr
end
end
end
end Mine

namespace Mine
noncomputable def rdD (sh sm : Int) (ks : List Int) : List Int → Nat → Int → Option (List Int × Nat)
  | [], i, _ => some ([], i)
  | f :: r, i, a =>
    if Builtin.bitAnd f sh ≠ 0 then
      (if i + 1 ≤ ks.length then
        (if Builtin.bitAnd f sm ≠ 0 then (rdD sh sm ks r (i + 1) (a + ks.getD i 0)).map fun p => ((a + ks.getD i 0) :: p.1, p.2)
         else (rdD sh sm ks r (i + 1) (a - ks.getD i 0)).map fun p => ((a - ks.getD i 0) :: p.1, p.2))
       else none)
    else if Builtin.bitAnd f sm = 0 then
      (if i + 2 ≤ ks.length then (rdD sh sm ks r (i + 2) (a + s2 ks i)).map fun p => ((a + s2 ks i) :: p.1, p.2) else none)
    else (rdD sh sm ks r i a).map fun p => (a :: p.1, p.2)
noncomputable def RdInv (sh sm : Int) (ks fls : List Int) (j : Nat) (i : Int) (a : Int) (fs : List Int) : Prop :=
  fs.length = j ∧ j ≤ fls.length ∧ 0 ≤ i ∧ i ≤ (ks.length : Int) ∧ rdD sh sm ks fls 0 0 = (rdD sh sm ks (fls.drop j) i.toNat a).map fun p => (fs ++ p.1, p.2)
section
variable {sh sm : Int} {ks fls fs : List Int} {j : Nat} {i a : Int}
theorem rd_start (sh sm : Int) (ks fls : List Int) : RdInv sh sm ks fls 0 0 0 [] := by
  refine ⟨rfl, Nat.zero_le _, by omega, by omega, ?_⟩
  show rdD sh sm ks fls 0 0 = (rdD sh sm ks fls 0 0).map fun p => ([] ++ p.1, p.2)
  cases rdD sh sm ks fls 0 0 <;> simp
theorem map_snoc (fs : List Int) (x : Int) (o : Option (List Int × Nat)) : (o.map fun p => (x :: p.1, p.2)).map (fun p => (fs ++ p.1, p.2)) = o.map fun p => (fs ++ [x] ++ p.1, p.2) := by
  rw [Option.map_map]
  congr 1
  funext p
  simp
theorem drop_fl (fls : List Int) {j : Nat} (h : j < fls.length) : fls.drop j = fls.getD j 0 :: fls.drop (j + 1) := by
  rw [List.drop_eq_getElem_cons h]
  simp [List.getD, h]
theorem rd_add (h : RdInv sh sm ks fls j i a fs) (hj : j < fls.length) (h1 : Builtin.bitAnd (fls.getD j 0) sh ≠ 0) (h2 : i + 1 ≤ (ks.length : Int)) (h3 : Builtin.bitAnd (fls.getD j 0) sm ≠ 0) :
    RdInv sh sm ks fls (j + 1) (i + 1) (a + ks.getD i.toNat 0) (fs ++ [a + ks.getD i.toNat 0]) := by
  obtain ⟨x1, x2, x3, x4, x5⟩ := h
  refine ⟨by simp [x1], hj, by omega, by omega, ?_⟩
  rw [x5, drop_fl _ hj, rdD, if_pos h1, if_pos (by omega), if_pos h3, map_snoc, show (i + 1).toNat = i.toNat + 1 by omega]
theorem rd_sub (h : RdInv sh sm ks fls j i a fs) (hj : j < fls.length) (h1 : Builtin.bitAnd (fls.getD j 0) sh ≠ 0) (h2 : i + 1 ≤ (ks.length : Int)) (h3 : Builtin.bitAnd (fls.getD j 0) sm = 0) :
    RdInv sh sm ks fls (j + 1) (i + 1) (a - ks.getD i.toNat 0) (fs ++ [a - ks.getD i.toNat 0]) := by
  obtain ⟨x1, x2, x3, x4, x5⟩ := h
  refine ⟨by simp [x1], hj, by omega, by omega, ?_⟩
  rw [x5, drop_fl _ hj, rdD, if_pos h1, if_pos (by omega), if_neg (by omega), map_snoc, show (i + 1).toNat = i.toNat + 1 by omega]
theorem rd_word (h : RdInv sh sm ks fls j i a fs) (hj : j < fls.length) (h1 : Builtin.bitAnd (fls.getD j 0) sh = 0) (h2 : i + 2 ≤ (ks.length : Int)) (h3 : Builtin.bitAnd (fls.getD j 0) sm = 0) :
    RdInv sh sm ks fls (j + 1) (i + 2) (a + s2 ks i.toNat) (fs ++ [a + s2 ks i.toNat]) := by
  obtain ⟨x1, x2, x3, x4, x5⟩ := h
  refine ⟨by simp [x1], hj, by omega, by omega, ?_⟩
  rw [x5, drop_fl _ hj, rdD, if_neg (by omega), if_pos h3, if_pos (by omega), map_snoc, show (i + 2).toNat = i.toNat + 2 by omega]
theorem rd_same (h : RdInv sh sm ks fls j i a fs) (hj : j < fls.length) (h1 : Builtin.bitAnd (fls.getD j 0) sh = 0) (h3 : Builtin.bitAnd (fls.getD j 0) sm ≠ 0) :
    RdInv sh sm ks fls (j + 1) i a (fs ++ [a]) := by
  obtain ⟨x1, x2, x3, x4, x5⟩ := h
  refine ⟨by simp [x1], hj, by omega, by omega, ?_⟩
  rw [x5, drop_fl _ hj, rdD, if_neg (by omega), if_neg h3, map_snoc]
theorem rd_out1 (h : RdInv sh sm ks fls j i a fs) (hj : j < fls.length) (h1 : Builtin.bitAnd (fls.getD j 0) sh ≠ 0) (h2 : ¬ i + 1 ≤ (ks.length : Int)) : rdD sh sm ks fls 0 0 = none := by
  obtain ⟨x1, x2, x3, x4, x5⟩ := h
  rw [x5, drop_fl _ hj, rdD, if_pos h1, if_neg (by omega)]
  rfl
theorem rd_out2 (h : RdInv sh sm ks fls j i a fs) (hj : j < fls.length) (h1 : Builtin.bitAnd (fls.getD j 0) sh = 0) (h2 : ¬ i + 2 ≤ (ks.length : Int)) (h3 : Builtin.bitAnd (fls.getD j 0) sm = 0) : rdD sh sm ks fls 0 0 = none := by
  obtain ⟨x1, x2, x3, x4, x5⟩ := h
  rw [x5, drop_fl _ hj, rdD, if_neg (by omega), if_pos h3, if_neg (by omega)]
  rfl
theorem rd_end (h : RdInv sh sm ks fls fls.length i a fs) : rdD sh sm ks fls 0 0 = some (fs, i.toNat) := by
  obtain ⟨x1, x2, x3, x4, x5⟩ := h
  rw [x5, List.drop_length, rdD]
  simp
end
end Mine

namespace Mine
section
variable {M : Model} {A₀ : Around} {Q : Unit → Shared → Prop} {E : Value → Shared → Prop} {s' : Shared} {base g h hc : Heap} {outer : List Env} {env en : Env} {L' a e tt d : Addr} {m' : Str → Option Value} {news news' : List (Addr × Obj)} {D U : Nat} {dirty di : List Addr}
theorem frame_in {b : Addr} {l : List Env} (hf : en.frame = some L') (h : b ∈ framesOf (en :: l)) : b = L' ∨ b ∈ framesOf l := by
  obtain ⟨en', he, hfr⟩ := List.mem_filterMap.mp h
  rcases List.mem_cons.mp he with rfl | he
  · exact .inl (Option.some.inj (hfr.symm.trans hf))
  · exact .inr (List.mem_filterMap.mpr ⟨en', he, hfr⟩)
theorem frame_up {b : Addr} {l : List Env} (h : b ∈ framesOf l) : b ∈ framesOf (en :: l) := by
  obtain ⟨en', he, hfr⟩ := List.mem_filterMap.mp h
  exact List.mem_filterMap.mpr ⟨en', .tail _ he, hfr⟩
/-- leaving by an error of a callee: what is dirty is said -/
theorem leave_gen {A' : Around} (dirty : List Addr) (hA : A'.frames = some (en :: env :: outer)) (hf : en.frame = some L') (K : Below (AtD D U env outer) base (env :: outer) g) (F : Fr g L' h m') (N : News g L' h news') (G : Gr hc g news) (hL' : hc.get? L' = none)
    (R : Flew h di (en :: env :: outer) e s'.heap) (hdi : ∀ b ∈ di, b ∈ dirty ∨ hc.get? b = none) (hd : ∀ p ∈ news, p.1 ∈ dirty ∨ p ∈ news')
    (hQ : ∀ h'', Flew hc dirty (env :: outer) e h'' → Q () { s' with heap := h'' }) :
    wpAny M A' (leaving en (.ref e)) Q E s' := by
  obtain ⟨B, t, vs, hfl, hBt, ht, r1, r2⟩ := R
  have old : ∀ b o, hc.get? b = some o → b ∉ dirty → h.get? b = some o := fun b o e hb => old_own K F G (fun p hp => (N p hp).1) hd e hb
  refine wpAny_leaves_onW hA hf hfl fun h'' x1 x2 => hQ h'' ⟨B, t, vs, x1, hBt, ht.of_slots x2, fun b o hb hbd hbf => ?_, fun b o hb hbf => ?_⟩
  · refine r1 b o (old b o hb hbd) (fun q => ?_) fun hm => ?_
    · rcases hdi b q with z | z
      · exact hbd z
      · rw [z] at hb; cases hb
    · rcases frame_in hf hm with z | z
      · rw [z, hL'] at hb; cases hb
      · exact hbf z
  · obtain ⟨hg, hnf⟩ := frame_own K G hbf hb
    obtain ⟨sl, hs⟩ := r2 b o (F.keep _ _ hg) (frame_up hbf)
    obtain ⟨sl', hs'⟩ := x2 b _ hs hnf
    exact ⟨sl', hs'⟩
theorem leave_same {A' : Around} (R : Flew h dirty (en :: env :: outer) e s'.heap) (hA : A'.frames = some (en :: env :: outer)) (hf : en.frame = some L') (K : Below (AtD D U env outer) base (env :: outer) g) (F : Fr g L' h m') (N : News g L' h news') (G : Gr hc g news) (hL' : hc.get? L' = none)
    (hd : ∀ p ∈ news, p.1 ∈ dirty ∨ p ∈ news')
    (hQ : ∀ h'', Flew hc dirty (env :: outer) e h'' → Q () { s' with heap := h'' }) :
    wpAny M A' (leaving en (.ref e)) Q E s' := leave_gen dirty hA hf K F N G hL' R (fun _ hb => .inl hb) hd hQ
theorem leave_pure {A' : Around} (R : Flew h dirty (en :: env :: outer) e s'.heap) (hA : A'.frames = some (en :: env :: outer)) (hf : en.frame = some L') (K : Below (AtD D U env outer) base (env :: outer) g) (F : Fr g L' h m') (N : News g L' h news') (G : Gr hc g news) (hL' : hc.get? L' = none)
    (hdi : ∀ b ∈ dirty, hc.get? b = none) (hd : ∀ p ∈ news, p ∈ news')
    (hQ : ∀ h'', Flew hc [] (env :: outer) e h'' → Q () { s' with heap := h'' }) :
    wpAny M A' (leaving en (.ref e)) Q E s' := leave_gen [] hA hf K F N G hL' R (fun b hb => .inr (hdi b hb)) (fun p hp => .inr (hd p hp)) hQ
end
end Mine

namespace Mine
section
variable {w : World} {pT : Program} {lT : List Str} {mean : ExcName → Option Value} {mg mb : Str → Option Value} {A A₀ : Around} {base h₀ : Heap} {outer : List Env} {env : Env} {L : Addr} {m : Str → Option Value} {s : Shared} {Q E : Value → Shared → Prop}
theorem ints_at {vs : List Value} {ns : List Int} {i : Nat} {v : Value} (hi : IntsAre vs ns) (h : vs[i]? = some v) : i < ns.length ∧ ∃ t, v = .int (ns.getD i 0) t := by
  have hlt : i < vs.length := (List.getElem?_eq_some_iff.mp h).1
  rw [hi.length] at hlt
  have hg := ints_getD (ns := ns) (k := (i : Int)) (by omega) (by omega)
  obtain ⟨t, hx⟩ := hi.get i _ (by simpa using hg)
  rw [h] at hx
  exact ⟨hlt, t, Option.some.inj hx⟩
theorem off3 {a b c d : Addr} {o o' o'' : Obj} (h : a ≠ b) (h' : a ≠ c) (h'' : a ≠ d) : a ∉ [(b, o), (c, o'), (d, o'')].map (·.1) := fun q => by
  rcases List.mem_cons.mp q with e | e
  · exact h e
  · exact off2 h' h'' e
section


theorem rdeltas_core {x dx lf : Addr} {ks fls : List Int} {fvs : List Value} {fn : Nat} {sh sm : Int} {k1 k2 t ta tc td : Tok}
    (C : Cx w pT lT mean mg mb A A₀ 520 1600 base h₀ outer env L m s.heap) (N : News h₀ L s.heap [(x, W.instObj 126 dx), (dx, octD w k1 k2 ks t 0 ta), (lf, W.listOf fvs.toArray fn)]) (hr : In8 ks) (hl : ks.length ≤ 5000) (hif : IntsAre fvs fls) (hfl : fls.length ≤ 600) (hd : @LT.lt Nat _ dx x) (hd1 : @Ne Nat lf x) (hd2 : @Ne Nat lf dx)
    (k : ∀ fs at', rdD sh sm ks fls 0 0 = some (fs, at'.toNat) → ∀ l vs n ta' h' tk', IntsAre vs fs → 0 ≤ at' → Fr h₀ L h' m → News h₀ L h' [(x, W.instObj 126 dx), (dx, octD w k1 k2 ks t at' ta'), (lf, W.listOf fvs.toArray fn), (l, W.listOf vs.toArray n)] → Kept [x, dx, lf] s.heap h' → s.heap.get? l = none → Q (.ref l) { s with heap := h', toks := tk' })
    (ke : rdD sh sm ks fls 0 0 = none → ∀ e h' tk', Flew s.heap [x, dx] (env :: outer) e h' → E (.ref e) { s with heap := h', toks := tk' }) :
    wpAny (model PySem.Challenge.rw_on0233_01.row.prog w) A (call (.ref 144) [.ref x, .ref lf, .int sh tc, .int sm td]) Q E s := by
  k_with_none
  k_with "omega" => first | with_reducible assumption | decide | (with_reducible exact oN1 (by with_reducible assumption) (by decide)) | (with_reducible exact oN2 (by with_reducible assumption) (by decide)) | (with_reducible exact oN3 (by with_reducible assumption) (by decide)) | (with_reducible exact oN4 (by with_reducible assumption) (by decide)) | (with_reducible exact oN5 (by with_reducible assumption) (by decide)) | (with_reducible exact oN6 (by with_reducible assumption) (by decide)) | (with_reducible exact oN7 (by with_reducible assumption) (by decide)) | (with_reducible exact oN8 (by with_reducible assumption) (by decide)) | (with_reducible exact oI1 (by with_reducible assumption) (by decide)) | (with_reducible exact oI2 (by with_reducible assumption) (by decide)) | (with_reducible exact oI3 (by with_reducible assumption) (by decide)) | (with_reducible exact oI4 (by with_reducible assumption) (by decide)) | (with_reducible exact oI5 (by with_reducible assumption) (by decide)) | (with_reducible exact oI6 (by with_reducible assumption) (by decide)) | (with_reducible exact oI7 (by with_reducible assumption) (by decide)) | (with_reducible exact oI8 (by with_reducible assumption) (by decide)) | fail
  k_with "k_pk" => first | exact lA0 | exact lA1 | exact lA2 | exact lA3 | exact lA4 | exact lE1 | exact lE2 | exact lE3 | exact lE4 | exact lE5 | (refine cF ?_; k_extra "k_pk")
  k_with "k_pe" => first | exact eA0 | exact eA1 | exact eA2 | exact eA3 | exact eA4 | exact eE1 | exact eE2 | exact eE3 | exact eE4 | exact eE5 | (refine cF ?_; k_extra "k_pe")
  k_with "k_ltN" => with_reducible first | assumption | exact pL (by with_reducible assumption) (by k_extra "k_pk")
  k_with "k_ne" => (refine neN ?_; (try dsimp only); first | (with_reducible first | exact n01 | exact n02 | exact n03 | exact n04 | exact n05 | exact n01.symm | exact n02.symm | exact n03.symm | exact n04.symm | exact n05.symm | with_reducible assumption | exact Ne.symm (by with_reducible assumption) | exact Nat.ne_of_lt (by k_extra "k_ltN") | exact Nat.ne_of_gt (by k_extra "k_ltN") | exact nS1 (by k_extra "k_ltN") | exact Ne.symm (nS1 (by k_extra "k_ltN")) | exact nS2 (by k_extra "k_ltN") | exact Ne.symm (nS2 (by k_extra "k_ltN")) | exact nS3 (by k_extra "k_ltN") | exact Ne.symm (nS3 (by k_extra "k_ltN")) | exact nS4 (by k_extra "k_ltN") | exact Ne.symm (nS4 (by k_extra "k_ltN")) | exact nS5 (by k_extra "k_ltN") | exact Ne.symm (nS5 (by k_extra "k_ltN")) | exact nS6 (by k_extra "k_ltN") | exact Ne.symm (nS6 (by k_extra "k_ltN")) | exact nT (by with_reducible assumption) (by k_extra "k_ltN") | exact Ne.symm (nT (by with_reducible assumption) (by k_extra "k_ltN")) | exact pN (by with_reducible assumption) (by k_extra "k_pe") | exact Ne.symm (pN (by with_reducible assumption) (by k_extra "k_pe"))) | omega)
  k_with "cell_enter" => ((refine' enter_call ?qzC ?qzN ?qzk6 ?qzk7 ?qzk8 ?qzk9 ?qzkB ?_ ?qzc2 ?qzc3 ?qzc4 ?qzc5; (case qzC => assumption); (case qzN => assumption); (case qzk6 => k_is); (case qzk7 => k_is); (case qzk8 => decide); (case qzk9 => exact BindsTo.of_eq rfl); (case qzc5 => decide); (case qzkB => exact locs rfl); (case qzc2 => exact rfl); (case qzc3 => exact rfl); (case qzc4 => exact rfl); k_whole; intro g'z L'z h'z X0'z T0'z G'z nL'z F'z N'z B'z X'z T'z; (try dsimp only); (try k_fold)))
  k_with "exec Raise some none" => ((k_here; k_dflt (refine' raise_call ?qzhh ?_; (case qzhh => exact rfl); k_whole)))
  k_with "call ref" => ((k_here; k_dflt (refine' fault_make ?qzC ?_; (case qzC => exact ⟨⟨rfl, Nat.le_of_ble_eq_true rfl, rfl, rfl, Nat.le_of_ble_eq_true rfl⟩, rfl, rfl, by k_asm, by k_asm, by k_asm, by k_asm⟩); k_whole); intro e1'z t1'z d1'z h1'z tk1'z q1 q2 q3 q4 q5; refine' faultUp_of ?qzX ?qzhe ?_; (case qzX => exact in_kept (by k_asm) (by k_asm) (by assumption)); (case qzhe => assumption); k_whole))
  k_with "leaving ref" => ((k_here; refine' leave_one ?qzK ?qzF ?qzN ?qzG ?qzhL ?qze ?qzen ?qztn ?qzt ?qzkp ?_ ?qzhk; (case qzK => k_asm); (case qzF => k_asm); (case qzN => k_asm); (case qzG => k_asm); (case qzhL => assumption); (case qze => assumption); (case qzen => assumption); (case qztn => assumption); (case qzt => assumption); (case qzkp => assumption); (case qzhk => rfl); k_whole; intro hz'z fz'z))
  k_with "leaving ref" => ((k_here; refine' leave_same ?qzR ?qzhA ?qzhf ?qzK ?qzF ?qzN ?qzG ?qzhL ?qzhd ?_; (case qzR => assumption); (case qzhA => exact rfl); (case qzhf => exact rfl); (case qzK => k_asm); (case qzF => k_asm); (case qzN => k_asm); (case qzG => k_asm); (case qzhL => assumption); (case qzhd => exact List.forall_mem_cons.mpr ⟨.inl (.head _), List.forall_mem_cons.mpr ⟨.inl (.tail _ (.head _)), List.forall_mem_cons.mpr ⟨.inr (by k_mem), List.forall_mem_nil _⟩⟩⟩); k_whole; intro hz'z fz'z))
  k_with "call ref" => ((k_here; k_dflt (refine' byte_x ?qzC ?qzN ?qzhm ?qzU ?qzhr ?qzhl ?qzh0 ?qzh1 ?qzhd (fun hc'z ta1'z t1'z h1'z tk1'z F1'z N1'z lo1'z hi1'z => ?_) (fun hc'z e1'z h1'z tk1'z R1'z => ?_); (case qzC => exact ⟨⟨rfl, Nat.le_of_ble_eq_true rfl, rfl, rfl, Nat.le_of_ble_eq_true rfl⟩, rfl, rfl, by k_asm, by k_asm, by k_asm, by k_asm⟩); (case qzN => k_asm); (case qzhm => k_mem); (case qzU => k_updF); (case qzhr => assumption); (case qzhl => assumption); (case qzh0 => omega); (case qzh1 => omega); (case qzhd => assumption); k_whole); (all_goals (try k_sweep))))
  k_with "call ref" => ((k_here; k_dflt (refine' signed_x ?qzC ?qzN ?qzhm ?qzU ?qzhr ?qzhl ?qzh0 ?qzh1 ?qzhd (fun hc'z ta1'z t1'z h1'z tk1'z F1'z N1'z => ?_) (fun hc'z e1'z h1'z tk1'z R1'z => ?_); (case qzC => exact ⟨⟨rfl, Nat.le_of_ble_eq_true rfl, rfl, rfl, Nat.le_of_ble_eq_true rfl⟩, rfl, rfl, by k_asm, by k_asm, by k_asm, by k_asm⟩); (case qzN => k_asm); (case qzhm => k_mem); (case qzU => k_updF); (case qzhr => assumption); (case qzhl => assumption); (case qzh0 => omega); (case qzh1 => omega); (case qzhd => assumption); k_whole); (all_goals (try k_sweep))))
  k_with "ksw_same" => ((intro z h2 h3; (try simp only [List.forall_mem_cons, List.not_mem_nil, false_implies, implies_true, and_true, ne_eq] at h2); (try simp only [List.contains_cons, List.contains_nil, Bool.or_false, Bool.or_eq_false_iff, beq_eq_false_iff_ne, ne_eq] at h3); (simp [kstB, h2, h3]; done)))
  k_with "WhX" => ((refine WhX.intro (by assumption) (by assumption) ?_; first | assumption | exact Or.inl (by assumption) | exact Or.inr (Or.inl (by assumption)) | exact Or.inr (Or.inr (by assumption)) | omega))
  k_with "TsPost" => (dsimp only [TsPost])
  k_with "exec For Name Name cons nil" => ((k_here; (rename Fr _ _ _ _ => lF'z); (with_unfolding_all refine' For_turns lF'z ?_); k_whole))
  k_with "TsEnd" => (((rename News _ _ _ _ => nE'z); (try simp only [List.push_toArray] at nE'z); k_dflt (refine' TsEnd.intro ⟨_, _, _, _, _, _, _⟩ ?qzF nE'z ?qzhs ?qzhn ?qzhk ?qzhr ?qzhp; (case qzF => assumption); (case qzhk => refine' List.forall_mem_cons.mpr ⟨?qza, List.forall_mem_cons.mpr ⟨?qzb, List.forall_mem_nil _⟩⟩; (case qza => rfl); (case qzb => rfl)); (case qzhs => kst_in); (case qzhn => k_all); (case qzhr => ksw_same); (case qzhp => k_extra "state"))))
  k_dflt cell_enter
  clear C N
  k_with "pyIter ref" => (
    refine' ts_list (σ := Addr × Int × Tok × List Value × Nat × Int × Tok) (fun c => [(c.1, W.listOf c.2.2.2.1.toArray c.2.2.2.2.1), (x, W.instObj 126 dx), (dx, octD w k1 k2 ks t c.2.1 c.2.2.1), (lf, W.listOf fvs.toArray fn)]) (fun c => [(Str.ofString "found", .ref c.1), (Str.ofString "at", .int c.2.2.2.2.2.1 c.2.2.2.2.2.2)]) [Str.ofString "flag", Str.ofString "step"]
      (fun j c => ∃ fs, IntsAre c.2.2.2.1 fs ∧ RdInv sh sm ks fls j c.2.1 c.2.2.2.2.2.1 fs ∧ (@LT.lt Nat _ x c.1 ∧ @LT.lt Nat _ lf c.1) ∧ s.heap.get? c.1 = none) (_, 0, _, [], 0, 0, _) ?hh ?hL ?F ?N ?hsub ?hk ?hp ?turn ?done
    case hh => rfl
    case hL => exact fun c => List.mem_of_getElem? (i := 3) rfl
    case F => assumption
    case N => assumption
    case hk => refine' List.forall_mem_cons.mpr ⟨?a, List.forall_mem_cons.mpr ⟨?b, List.forall_mem_nil _⟩⟩; (case a => rfl); (case b => rfl)
    case hsub => kst_in
    case hp => exact ⟨[], .nil, rd_start _ _ _ _, by (try dsimp only); omega, Gr.fresh (by assumption) (by assumption) (by k_mem) (off3 (by k_ne) (by k_ne) (by k_ne))⟩
    case' turn =>
      rintro i v ⟨l1, at', t1, vs, nn, av, t2⟩ I io u hh tk hi ⟨fs, hIv, hInv, hxl, hfr⟩ hne F1 N1
      obtain ⟨hj, tv, rfl⟩ := ints_at hif hi
      (try dsimp only at hIv hInv hxl hfr F1 N1 ⊢)
      (try dsimp only [AllNe] at hne)
      have hvl := hIv.length
      have hfl := hInv.1
      have hat0 := hInv.2.2.1
      have hat1 := hInv.2.2.2.1
      (try k_fold)
    case' done =>
      rintro ⟨l1, at', t1, vs, nn, av, t2⟩ u hh tk ⟨fs, hIv, hInv, hxl, hfr⟩ F1 N1
      rw [hif.length] at hInv
      (try dsimp only at hIv hInv hxl hfr F1 N1 ⊢)
      (try k_fold))
  k_with "state" => exact ⟨_, IntsAre.append hIv (.cons _ _ .nil), by first | exact rd_add hInv hj (by assumption) (by assumption) (by assumption) | exact rd_sub hInv hj (by assumption) (by assumption) (by assumption) | exact rd_word hInv hj (by assumption) (by assumption) (by assumption) | exact rd_same hInv hj (by assumption) (by assumption), hxl, hfr⟩
  w_top off
  k_steps
  all_goals first
    | exact ke (rd_out1 hInv hj (by assumption) (by assumption)) _ _ _ (by assumption)
    | exact ke (rd_out2 hInv hj (by assumption) (by assumption) (by assumption)) _ _ _ (by assumption)
    | exact k _ _ (rd_end hInv) _ _ _ _ _ _ hIv hInv.2.2.1 (by assumption) (news_sub (by assumption) (List.forall_mem_cons.mpr ⟨by k_mem, List.forall_mem_cons.mpr ⟨by k_mem, List.forall_mem_cons.mpr ⟨by k_mem, List.forall_mem_cons.mpr ⟨by k_mem, List.forall_mem_nil _⟩⟩⟩⟩)) (kept_of (by assumption) (by assumption) (by rfl)) hfr
end
end
end Mine

namespace Mine
section
variable {w : World} {pT : Program} {lT : List Str} {mean : ExcName → Option Value} {mg mb : Str → Option Value} {A A₀ : Around} {base h₀ : Heap} {outer : List Env} {env : Env} {L : Addr} {m : Str → Option Value} {s : Shared} {Q E : Value → Shared → Prop}
theorem in8_put (n : Int) : In8 [(n.fdiv 256).fmod 256, n.fmod 256] := by
  intro y hy
  have h1 := fmod_in (n.fdiv 256) (n := 256) (by decide)
  have h2 := fmod_in n (n := 256) (by decide)
  rcases List.mem_cons.mp hy with rfl | hy
  · exact h1
  · rw [List.mem_singleton.mp hy]; exact h2
theorem in8_x {x : Int} (h0 : 0 ≤ x) (h1 : x < 256) : In8 [x] := fun y hy => by rw [List.mem_singleton.mp hy]; exact ⟨h0, h1⟩
noncomputable abbrev putL16 (n : Int) : List Int := [(n.fdiv 256).fmod 256, n.fmod 256]
noncomputable def axF (step short same : Int) : Option (Int × List Int) :=
  if step = 0 then some (same, []) else if 0 < step ∧ step < 256 then some (short + same, [step]) else if -256 < step ∧ step < 0 then some (short, [0 - step])
  else if step < -32768 ∨ 32767 < step then none else some (0, putL16 step)
theorem ax_0 {step short same : Int} (h : step = 0) : axF step short same = some (same, []) := if_pos h
theorem ax_pos {step short same : Int} (h : 0 < step) (h' : step < 256) : axF step short same = some (short + same, [step]) := by rw [axF, if_neg (by omega), if_pos ⟨h, h'⟩]
theorem ax_neg {step short same : Int} (h : -256 < step) (h' : step < 0) : axF step short same = some (short, [0 - step]) := by rw [axF, if_neg (by omega), if_neg (by omega), if_pos ⟨h, h'⟩]
theorem ax_far {step short same : Int} (h : step < -32768 ∨ 32767 < step) : axF step short same = none := by rw [axF, if_neg (by omega), if_neg (by omega), if_neg (by omega), if_pos h]
theorem ax_mid {step short same : Int} (h : 256 ≤ step ∨ step ≤ -256) (h' : ¬ (step < -32768 ∨ 32767 < step)) : axF step short same = some (0, putL16 step) := by rw [axF, if_neg (by omega), if_neg (by omega), if_neg (by omega), if_neg h']
noncomputable def ShSm (sh sm : Int) : Prop := (sh = 2 ∧ sm = 16) ∨ (sh = 4 ∧ sm = 32)
theorem or_shsm {sh sm : Int} (h : ShSm sh sm) : Builtin.bitOr sh sm = sh + sm := by
  rcases h with ⟨rfl, rfl⟩ | ⟨rfl, rfl⟩ <;> decide +kernel
theorem or_ss {sh sm : Int} {t u : Tok} (hx : ShSm sh sm) (h : Q (.int (sh + sm) s.toks) { s with toks := s.toks + 1 }) :
    wpAny (model PySem.Challenge.rw_on0233_01.row.prog w) A (binaryOp .BitOr (.int sh t) (.int sm u)) Q E s := or_int (by rw [or_shsm hx]; exact h)
section
theorem put_core {n : Int} {t : Tok}
    (C : Cx w pT lT mean mg mb A A₀ 560 1800 base h₀ outer env L m s.heap) (N : News h₀ L s.heap [])
    (k : ∀ t' h' tk', Fr h₀ L h' m → Kept [] s.heap h' → Q (.bytes (byteArr (putL16 n)) t') { s with heap := h', toks := tk' }) :
    wpAny (model PySem.Challenge.rw_on0233_01.row.prog w) A (call (.ref 74) [.int n t]) Q E s := by
  k_with_none
  k_with "omega" => first | with_reducible assumption | decide | (with_reducible exact oN1 (by with_reducible assumption) (by decide)) | (with_reducible exact oN2 (by with_reducible assumption) (by decide)) | (with_reducible exact oN3 (by with_reducible assumption) (by decide)) | (with_reducible exact oN4 (by with_reducible assumption) (by decide)) | (with_reducible exact oN5 (by with_reducible assumption) (by decide)) | (with_reducible exact oN6 (by with_reducible assumption) (by decide)) | (with_reducible exact oN7 (by with_reducible assumption) (by decide)) | (with_reducible exact oN8 (by with_reducible assumption) (by decide)) | (with_reducible exact oI1 (by with_reducible assumption) (by decide)) | (with_reducible exact oI2 (by with_reducible assumption) (by decide)) | (with_reducible exact oI3 (by with_reducible assumption) (by decide)) | (with_reducible exact oI4 (by with_reducible assumption) (by decide)) | (with_reducible exact oI5 (by with_reducible assumption) (by decide)) | (with_reducible exact oI6 (by with_reducible assumption) (by decide)) | (with_reducible exact oI7 (by with_reducible assumption) (by decide)) | (with_reducible exact oI8 (by with_reducible assumption) (by decide)) | fail
  k_with "k_pk" => first | exact lA0 | exact lA1 | exact lA2 | exact lA3 | exact lA4 | exact lE1 | exact lE2 | exact lE3 | exact lE4 | exact lE5 | (refine cF ?_; k_extra "k_pk")
  k_with "k_pe" => first | exact eA0 | exact eA1 | exact eA2 | exact eA3 | exact eA4 | exact eE1 | exact eE2 | exact eE3 | exact eE4 | exact eE5 | (refine cF ?_; k_extra "k_pe")
  k_with "k_ltN" => with_reducible first | assumption | exact pL (by with_reducible assumption) (by k_extra "k_pk")
  k_with "k_ne" => (refine neN ?_; (try dsimp only); first | (with_reducible first | exact n01 | exact n02 | exact n03 | exact n04 | exact n05 | exact n01.symm | exact n02.symm | exact n03.symm | exact n04.symm | exact n05.symm | with_reducible assumption | exact Ne.symm (by with_reducible assumption) | exact Nat.ne_of_lt (by k_extra "k_ltN") | exact Nat.ne_of_gt (by k_extra "k_ltN") | exact nS1 (by k_extra "k_ltN") | exact Ne.symm (nS1 (by k_extra "k_ltN")) | exact nS2 (by k_extra "k_ltN") | exact Ne.symm (nS2 (by k_extra "k_ltN")) | exact nS3 (by k_extra "k_ltN") | exact Ne.symm (nS3 (by k_extra "k_ltN")) | exact nS4 (by k_extra "k_ltN") | exact Ne.symm (nS4 (by k_extra "k_ltN")) | exact nS5 (by k_extra "k_ltN") | exact Ne.symm (nS5 (by k_extra "k_ltN")) | exact nS6 (by k_extra "k_ltN") | exact Ne.symm (nS6 (by k_extra "k_ltN")) | exact nT (by with_reducible assumption) (by k_extra "k_ltN") | exact Ne.symm (nT (by with_reducible assumption) (by k_extra "k_ltN")) | exact pN (by with_reducible assumption) (by k_extra "k_pe") | exact Ne.symm (pN (by with_reducible assumption) (by k_extra "k_pe"))) | omega)
  k_with "cell_enter" => ((refine' enter_call ?qzC ?qzN ?qzk6 ?qzk7 ?qzk8 ?qzk9 ?qzkB ?_ ?qzc2 ?qzc3 ?qzc4 ?qzc5; (case qzC => assumption); (case qzN => assumption); (case qzk6 => k_is); (case qzk7 => k_is); (case qzk8 => decide); (case qzk9 => exact BindsTo.of_eq rfl); (case qzc5 => decide); (case qzkB => exact locs rfl); (case qzc2 => exact rfl); (case qzc3 => exact rfl); (case qzc4 => exact rfl); k_whole; intro g'z L'z h'z X0'z T0'z G'z nL'z F'z N'z B'z X'z T'z; (try dsimp only); (try k_fold)))
  k_with "call type:bytes" => ((k_here; k_dflt (refine' by_make ?qzF ?qzN ?qzhh ?qzhm ?qzhi ?qzhr ?qzhn ?_; (case qzF => k_asm); (case qzN => k_asm); (case qzhh => exact rfl); (case qzhm => k_mem); (case qzhi => first | assumption | l_intsW); (case qzhr => first | exact in8_put _ | exact in8_x (by omega) (by omega)); (case qzhn => exact Nat.le_of_ble_eq_true rfl); k_whole); intro h'z t'z k'z F'z N'z z'z; (try k_sweep)))
  k_dflt cell_enter
  clear C N
  w_top off
  k_steps
  exact k _ _ _ (by assumption) (kept_of (by assumption) (by assumption) (by rfl))
end
theorem put_x {n : Int} {t : Tok} {news : List (Addr × Obj)}
    (C : Cx w pT lT mean mg mb A A₀ 560 1800 base h₀ outer env L m s.heap) (N : News h₀ L s.heap news)
    (k : ∀ t' h' tk', Fr h₀ L h' m → News h₀ L h' news → Q (.bytes (byteArr (putL16 n)) t') { s with heap := h', toks := tk' }) :
    wpAny (model PySem.Challenge.rw_on0233_01.row.prog w) A (call (.ref 74) [.int n t]) Q E s :=
  put_core C (fun p hp => absurd hp (by simp)) fun t' h' tk' F' K' => k t' h' tk' F' fun p hp => ⟨K' _ _ (N p hp).1 (by simp), (N p hp).2⟩
noncomputable abbrev pairO (f : Int) (t : Tok) (b : List Int) (u : Tok) : Obj := { cls := .type "tuple", data := .seq #[.int f t, .bytes (byteArr b) u] }
section
theorem axis_core {step sh sm : Int} {t ta tb : Tok}
    (C : Cx w pT lT mean mg mb A A₀ 540 1700 base h₀ outer env L m s.heap) (N : News h₀ L s.heap []) (hs : ShSm sh sm)
    (k : ∀ f b, axF step sh sm = some (f, b) → ∀ l tf tb h' tk', Fr h₀ L h' m → News h₀ L h' [(l, pairO f tf b tb)] → Kept [] s.heap h' → s.heap.get? l = none → Q (.ref l) { s with heap := h', toks := tk' })
    (ke : axF step sh sm = none → ∀ e h' tk', Flew s.heap [] (env :: outer) e h' → E (.ref e) { s with heap := h', toks := tk' }) :
    wpAny (model PySem.Challenge.rw_on0233_01.row.prog w) A (call (.ref 158) [.int step t, .int sh ta, .int sm tb]) Q E s := by
  k_with_none
  k_with "omega" => first | with_reducible assumption | decide | (with_reducible exact oN1 (by with_reducible assumption) (by decide)) | (with_reducible exact oN2 (by with_reducible assumption) (by decide)) | (with_reducible exact oN3 (by with_reducible assumption) (by decide)) | (with_reducible exact oN4 (by with_reducible assumption) (by decide)) | (with_reducible exact oN5 (by with_reducible assumption) (by decide)) | (with_reducible exact oN6 (by with_reducible assumption) (by decide)) | (with_reducible exact oN7 (by with_reducible assumption) (by decide)) | (with_reducible exact oN8 (by with_reducible assumption) (by decide)) | (with_reducible exact oI1 (by with_reducible assumption) (by decide)) | (with_reducible exact oI2 (by with_reducible assumption) (by decide)) | (with_reducible exact oI3 (by with_reducible assumption) (by decide)) | (with_reducible exact oI4 (by with_reducible assumption) (by decide)) | (with_reducible exact oI5 (by with_reducible assumption) (by decide)) | (with_reducible exact oI6 (by with_reducible assumption) (by decide)) | (with_reducible exact oI7 (by with_reducible assumption) (by decide)) | (with_reducible exact oI8 (by with_reducible assumption) (by decide)) | fail
  k_with "k_pk" => first | exact lA0 | exact lA1 | exact lA2 | exact lA3 | exact lA4 | exact lE1 | exact lE2 | exact lE3 | exact lE4 | exact lE5 | (refine cF ?_; k_extra "k_pk")
  k_with "k_pe" => first | exact eA0 | exact eA1 | exact eA2 | exact eA3 | exact eA4 | exact eE1 | exact eE2 | exact eE3 | exact eE4 | exact eE5 | (refine cF ?_; k_extra "k_pe")
  k_with "k_ltN" => with_reducible first | assumption | exact pL (by with_reducible assumption) (by k_extra "k_pk")
  k_with "k_ne" => (refine neN ?_; (try dsimp only); first | (with_reducible first | exact n01 | exact n02 | exact n03 | exact n04 | exact n05 | exact n01.symm | exact n02.symm | exact n03.symm | exact n04.symm | exact n05.symm | with_reducible assumption | exact Ne.symm (by with_reducible assumption) | exact Nat.ne_of_lt (by k_extra "k_ltN") | exact Nat.ne_of_gt (by k_extra "k_ltN") | exact nS1 (by k_extra "k_ltN") | exact Ne.symm (nS1 (by k_extra "k_ltN")) | exact nS2 (by k_extra "k_ltN") | exact Ne.symm (nS2 (by k_extra "k_ltN")) | exact nS3 (by k_extra "k_ltN") | exact Ne.symm (nS3 (by k_extra "k_ltN")) | exact nS4 (by k_extra "k_ltN") | exact Ne.symm (nS4 (by k_extra "k_ltN")) | exact nS5 (by k_extra "k_ltN") | exact Ne.symm (nS5 (by k_extra "k_ltN")) | exact nS6 (by k_extra "k_ltN") | exact Ne.symm (nS6 (by k_extra "k_ltN")) | exact nT (by with_reducible assumption) (by k_extra "k_ltN") | exact Ne.symm (nT (by with_reducible assumption) (by k_extra "k_ltN")) | exact pN (by with_reducible assumption) (by k_extra "k_pe") | exact Ne.symm (pN (by with_reducible assumption) (by k_extra "k_pe"))) | omega)
  k_with "cell_enter" => ((refine' enter_call ?qzC ?qzN ?qzk6 ?qzk7 ?qzk8 ?qzk9 ?qzkB ?_ ?qzc2 ?qzc3 ?qzc4 ?qzc5; (case qzC => assumption); (case qzN => assumption); (case qzk6 => k_is); (case qzk7 => k_is); (case qzk8 => decide); (case qzk9 => exact BindsTo.of_eq rfl); (case qzc5 => decide); (case qzkB => exact locs rfl); (case qzc2 => exact rfl); (case qzc3 => exact rfl); (case qzc4 => exact rfl); k_whole; intro g'z L'z h'z X0'z T0'z G'z nL'z F'z N'z B'z X'z T'z; (try dsimp only); (try k_fold)))
  k_with "exec Raise some none" => ((k_here; k_dflt (refine' raise_call ?qzhh ?_; (case qzhh => exact rfl); k_whole)))
  k_with "call ref" => ((k_here; k_dflt (refine' fault_make ?qzC ?_; (case qzC => exact ⟨⟨rfl, Nat.le_of_ble_eq_true rfl, rfl, rfl, Nat.le_of_ble_eq_true rfl⟩, rfl, rfl, by k_asm, by k_asm, by k_asm, by k_asm⟩); k_whole); intro e1'z t1'z d1'z h1'z tk1'z q1 q2 q3 q4 q5; refine' faultUp_of ?qzX ?qzhe ?_; (case qzX => exact in_kept (by k_asm) (by k_asm) (by assumption)); (case qzhe => assumption); k_whole))
  k_with "leaving ref" => ((k_here; refine' leave_one ?qzK ?qzF ?qzN ?qzG ?qzhL ?qze ?qzen ?qztn ?qzt ?qzkp ?_ ?qzhk; (case qzK => k_asm); (case qzF => k_asm); (case qzN => k_asm); (case qzG => k_asm); (case qzhL => assumption); (case qze => assumption); (case qzen => assumption); (case qztn => assumption); (case qzt => assumption); (case qzkp => assumption); (case qzhk => rfl); k_whole; intro hz'z fz'z))
  k_with "leaving ref" => ((k_here; refine' leave_two ?qzK ?qzF ?qzG ?qzhL ?qzR ?qzdi ?_; (case qzK => k_asm); (case qzF => k_asm); (case qzG => k_asm); (case qzhL => assumption); (case qzR => assumption); (case qzdi => simp); k_whole; intro hz'z fz'z))
  k_with "call type:bytes" => ((k_here; k_dflt (refine' by_make ?qzF ?qzN ?qzhh ?qzhm ?qzhi ?qzhr ?qzhn ?_; (case qzF => k_asm); (case qzN => k_asm); (case qzhh => exact rfl); (case qzhm => k_mem); (case qzhi => first | assumption | l_intsW); (case qzhr => first | exact in8_put _ | exact in8_x (by omega) (by omega)); (case qzhn => exact Nat.le_of_ble_eq_true rfl); k_whole); intro h'z t'z k'z F'z N'z z'z; (try k_sweep)))
  k_with "call ref" => ((k_here; k_dflt (refine' put_x ?qzC ?qzN (fun t1'z h1'z tk1'z F1'z N1'z => ?_); (case qzC => exact ⟨⟨rfl, Nat.le_of_ble_eq_true rfl, rfl, rfl, Nat.le_of_ble_eq_true rfl⟩, rfl, rfl, by k_asm, by k_asm, by k_asm, by k_asm⟩); (case qzN => k_asm); k_whole); (try k_sweep)))
  k_with "binaryOp BitOr int int" => ((k_here; k_dflt (refine' or_ss ?qzh ?_; (case qzh => assumption); k_whole)))
  k_dflt cell_enter
  clear C N
  w_top off
  k_steps
  all_goals first
    | exact ke (ax_far (by omega)) _ _ _ (by assumption)
    | refine k _ _ (ax_0 (by omega)) _ _ _ _ _ (by assumption) (news_sub (by assumption) (List.forall_mem_cons.mpr ⟨by k_mem, List.forall_mem_nil _⟩)) (kept_of (by assumption) (by assumption) (by rfl)) (Gr.fresh (by assumption) (by assumption) (by k_mem) (by simp))
    | refine k _ _ (ax_pos (by omega) (by omega)) _ _ _ _ _ (by assumption) (news_sub (by assumption) (List.forall_mem_cons.mpr ⟨by k_mem, List.forall_mem_nil _⟩)) (kept_of (by assumption) (by assumption) (by rfl)) (Gr.fresh (by assumption) (by assumption) (by k_mem) (by simp))
    | refine k _ _ (ax_neg (by omega) (by omega)) _ _ _ _ _ (by assumption) (news_sub (by assumption) (List.forall_mem_cons.mpr ⟨by k_mem, List.forall_mem_nil _⟩)) (kept_of (by assumption) (by assumption) (by rfl)) (Gr.fresh (by assumption) (by assumption) (by k_mem) (by simp))
    | refine k _ _ (ax_mid (by omega) (by omega)) _ _ _ _ _ (by assumption) (news_sub (by assumption) (List.forall_mem_cons.mpr ⟨by k_mem, List.forall_mem_nil _⟩)) (kept_of (by assumption) (by assumption) (by rfl)) (Gr.fresh (by assumption) (by assumption) (by k_mem) (by simp))
end
end
end Mine

namespace Mine
section
variable {M : Model} {A₀ : Around} {Q : Unit → Shared → Prop} {E : Value → Shared → Prop} {s' : Shared} {base g h hc : Heap} {outer : List Env} {env en : Env} {L' a e tt d : Addr} {m' : Str → Option Value} {news news' : List (Addr × Obj)} {D U : Nat} {dirty di : List Addr}
/-- leave_next, whatever the frame is made of -/
theorem leave_en {A' : Around} (hA : A'.frames = some (en :: env :: outer)) (hf : en.frame = some L') (K : Below (AtD D U env outer) base (env :: outer) g) (F : Fr g L' h m') (G : Gr hc g news) (hL' : hc.get? L' = none)
    (R : Flew h di (en :: env :: outer) e s'.heap) (hdi : ∀ b ∈ di, b ∈ news.map (·.1) ∨ g.get? b = none)
    (hQ : ∀ h'', Flew hc (news.map (·.1)) (env :: outer) e h'' → Q () { s' with heap := h'' }) :
    wpAny M A' (leaving en (.ref e)) Q E s' := by
  obtain ⟨B, t, vs, hfl, hBt, ht, r1, r2⟩ := R
  have hd0 : ∀ b o, hc.get? b = some o → b ∉ news.map (·.1) → g.get? b = some o := G.keep
  refine wpAny_leaves_onW hA hf hfl fun h'' x1 x2 => hQ h'' ⟨B, t, vs, x1, hBt, ht.of_slots x2, fun b o hb hbd hbf => ?_, fun b o hb hbf => ?_⟩
  · have hg := hd0 b o hb hbd
    refine r1 b o (F.keep _ _ hg) (fun q => ?_) fun hm => ?_
    · rcases hdi b q with z | z
      · exact hbd z
      · rw [z] at hg; cases hg
    · rcases frame_in hf hm with z | z
      · rw [z, hL'] at hb; cases hb
      · exact hbf z
  · obtain ⟨hg, hnf⟩ := frame_own K G hbf hb
    obtain ⟨sl, hs⟩ := r2 b o (F.keep _ _ hg) (frame_up hbf)
    obtain ⟨sl', hs'⟩ := x2 b _ hs hnf
    exact ⟨sl', hs'⟩
end
/-- leaving a call behind which the frames of the callers are turned -/
noncomputable def LeaveT (w : World) (pT : Program) (lT : List Str) (mean : ExcName → Option Value) (mg mb : Str → Option Value) (A₀ : Around) (base : Heap) (fs : List Addr) (outer : List Env) (h₀ : Heap) (L : Addr) (m : Str → Option Value) (g : Heap) (R : Result → Shared → Prop) (v : Value) (s' : Shared) : Prop :=
  ∃ g' L' m' news', KtsTurn fs g g' ∧ Fr g' L' s'.heap m' ∧ News g' L' s'.heap news' ∧ ∀ h₀', KtsTurn (framesOf outer) h₀ h₀' → Fr h₀' L s'.heap m → News h₀' L s'.heap news' → Below A₀ base outer h₀' → (theHeap w.params).In h₀' → Top pT lT mean mg mb h₀' → KtsDicts (framesOf outer) h₀' → R (.ok (.ret v)) s'
theorem LeaveT.intro {w : World} {pT : Program} {lT : List Str} {mean : ExcName → Option Value} {mg mb : Str → Option Value} {A₀ : Around} {base : Heap} {fs : List Addr} {outer : List Env} {h₀ : Heap} {L : Addr} {m : Str → Option Value} {g : Heap} {R : Result → Shared → Prop} {v : Value} {s' : Shared}
    {g' : Heap} {L' : Addr} {m' : Str → Option Value} {news' : List (Addr × Obj)} (T : KtsTurn fs g g') (F : Fr g' L' s'.heap m') (N : News g' L' s'.heap news')
    (k : ∀ h₀', KtsTurn (framesOf outer) h₀ h₀' → Fr h₀' L s'.heap m → News h₀' L s'.heap news' → Below A₀ base outer h₀' → (theHeap w.params).In h₀' → Top pT lT mean mg mb h₀' → KtsDicts (framesOf outer) h₀' → R (.ok (.ret v)) s') :
    LeaveT w pT lT mean mg mb A₀ base fs outer h₀ L m g R v s' := ⟨g', L', m', news', T, F, N, k⟩
section
variable {w : World} {pT : Program} {lT : List Str} {mean : ExcName → Option Value} {mg mb : Str → Option Value} {A A₀ : Around} {D U : Nat} {base h₀ : Heap} {outer : List Env} {env : Env} {L : Addr} {m : Str → Option Value} {s : Shared} {news : List (Addr × Obj)} {R : Result → Shared → Prop}
theorem groundT {A₁ : Around} {h : Heap} (B : Below A₀ base outer h₀) (F : Fr h₀ L h m) (N : News h₀ L h news) (XB : (theHeap w.params).In base) (TB : Top pT lT mean mg mb base) (Dk : KtsDicts (framesOf outer) h₀) (hA : A₁.frames = some (env :: outer)) (hf : env.frame = some L) (hke : env.scope.kind = .function) :
    h₀.StaysIn (hideAll h (news.map (·.1))) ∧ Below A₁ base (env :: outer) (hideAll h (news.map (·.1))) ∧ KtsDicts (framesOf (env :: outer)) (hideAll h (news.map (·.1))) ∧
      ∀ v s', LeaveT w pT lT mean mg mb A₀ base (framesOf (env :: outer)) outer h₀ L m (hideAll h (news.map (·.1))) R v s' → R (.ok (.ret v)) s' := by
  have nm : ∀ b o, h₀.get? b = some o → b ∉ news.map (·.1) := fun b o e q => by
    obtain ⟨p, hp, rfl⟩ := List.mem_map.mp q
    rw [(N p hp).2.2] at e; cases e
  have st : h₀.StaysIn (hideAll h (news.map (·.1))) := fun b o e => hideAll_get _ (F.keep b o e) (nm b o e)
  obtain ⟨oL, es, ep, hL, hLd, hLk, hLf⟩ := F.ns
  have nL : L ∉ news.map (·.1) := fun q => by
    obtain ⟨p, hp, e⟩ := List.mem_map.mp q
    exact (N p hp).2.1 e
  have hLg := hideAll_get (news.map (·.1)) hL nL
  have B₁ := pushX B F hf hke
  have nL₀ : h₀.get? L = none := kts_self F
  refine ⟨st, ⟨hA, fun b o e => st b o (B.stays b o e), funFrames_hideAll B₁.frames fun env' he b hb hf' => ?_⟩, fun b hb => ?_, fun v s' hl => ?_⟩
  · cases he with
    | head => exact nL ((Option.some.inj (hf.symm.trans hf') : L = b) ▸ hb)
    | tail _ he =>
      obtain ⟨L₁, o₁, hf₁, ho₁⟩ := funFrames_in B.frames env' he
      rw [hf₁] at hf'
      exact nm L₁ o₁ ho₁ ((Option.some.inj hf' : L₁ = b) ▸ hb)
  · rcases frame_in hf hb with rfl | hb
    · exact ⟨oL, es, ep, hLg, hLd⟩
    · obtain ⟨o, es', n', ho', hd'⟩ := Dk b hb
      exact ⟨o, es', n', st b o ho', hd'⟩
  · obtain ⟨g', L', m', news', T', F', N', k⟩ := hl
    obtain ⟨sl, hs⟩ := T'.up hLg
    obtain ⟨T₁, S₁⟩ := kts_turn_at (h := s'.heap) (fs := framesOf outer) (g := h₀)
      (fun b hb => by
        obtain ⟨_, o, ho', _⟩ := B.frames.mem hb
        exact ⟨o, ho'⟩)
      (fun b o e nmem => F'.keep b o (T'.other b o (st b o e) (fun q => by
        rcases frame_in hf q with z | z
        · rw [z, nL₀] at e
          cases e
        · exact nmem z)))
      (fun b o e hm => by
        obtain ⟨sl', hs'⟩ := T'.up (st b o e)
        exact ⟨sl', F'.keep _ _ hs'⟩)
    have B₃ : Below A₀ base outer (ktsHeap s'.heap (framesOf outer) h₀) := ⟨B.stack, fun b o e => T₁.other b o (B.stays b o e) (fun hm => by
      rw [(B.frames.mem hm).1] at e
      cases e), B.frames.of_keeps fun b o e _ => by
      obtain ⟨sl', hs'⟩ := T₁.up e
      exact ⟨_, hs', rfl⟩⟩
    refine k _ T₁ ⟨⟨_, es, ep, F'.keep _ _ hs, hLd, hLk, hLf⟩, S₁, by rw [T₁.size]; exact F.above⟩ (fun p hp => ⟨(N' p hp).1, fun q => ?_, ?_⟩) B₃ (XB.keeps B₃.stays) (TB.keeps B₃.stays) (Dk.turn T₁)
    · have := (N' p hp).2.2; rw [q, hs] at this; cases this
    · refine T₁.none_ _ ?_
      cases q : h₀.get? p.1 with
      | none => rfl
      | some o =>
        obtain ⟨sl', hs'⟩ := T'.up (st _ _ q)
        have := (N' p hp).2.2
        rw [hs'] at this
        cases this
theorem gr_of {h : Heap} (N : News h₀ L h news) : Gr h (hideAll h (news.map (·.1))) news :=
  ⟨fun b o e n => hideAll_get _ e n, fun b o e => of_hideAll _ e, hideAll_size _ _, fun p hp => hideAll_none _ (List.mem_map_of_mem hp), fun p hp => (N p hp).1⟩
variable {Q E : Value → Shared → Prop} {name qual : Str} {params : Arguments} {body : List Stmt} {scope : Scope} {dV kV doc pm cdv ct oc : Value} {an od : Option Addr} {osl : Array (Option Value)} {f : Addr} {pos : List Value} {kw : List (Str × Value)} {binds : List (Str × Value)} {prog : Program}
theorem enter_turn (C : Cx w pT lT mean mg mb A A₀ D U base h₀ outer env L m s.heap) (XB : (theHeap w.params).In base) (TB : Top pT lT mean mg mb base) (Dk : KtsDicts (framesOf outer) h₀) (N : News h₀ L s.heap news)
    (ho : (theHeap w.params).lookup f = some ⟨oc, od, .func (fnOf name qual params body scope dV kV doc pm an cdv ct), osl⟩) (hcd : codeIn (theHeap w.params) cdv qual = true) (hroom : D < recursionLimit)
    (hbind : BindsTo s (fnOf name qual params body scope dV kV doc pm an cdv ct) ⟨pos, kw⟩ binds) (hloc : ∀ y ∈ binds, scope.names.lookup y.1 = some .local)
    (h : ∀ g L' h₁, (theHeap w.params).In h₀ → Top pT lT mean mg mb h₀ → Gr s.heap g news → s.heap.get? L' = none → Fr g L' h₁ (fun y => binds.reverse.lookup y) → News g L' h₁ news → Below (AtD D U env outer) base (env :: outer) g → (theHeap w.params).In g → Top pT lT mean mg mb g → KtsDicts (framesOf (env :: outer)) g →
      wpAny (model prog w) ((AtD D U env outer).deeper (envOf qual scope L' f cdv)) (execs body (envOf qual scope L' f cdv))
        (fun fl s' => LeaveT w pT lT mean mg mb A₀ base (framesOf (env :: outer)) outer h₀ L m g (fun r s' => match r with | .ok (.ret v) => Q v s' | .ok _ => False | .error e => E e s') (match fl with | .ret v => v | _ => .none) s')
        (fun e s' => wpAny (model prog w) ((AtD D U env outer).deeper (envOf qual scope L' f cdv)) (leaving (envOf qual scope L' f cdv) e) (fun _ s'' => E e s'') (fun e' s'' => E e' s'') s')
        { s with heap := h₁, toks := s.toks + binds.length })
    (hco : scope.isCoroutine = false := by exact rfl) (hgen : scope.isGenerator = false := by exact rfl) (hk : scope.kind = .function := by exact rfl)
    (hcell : ∀ x ∈ scope.names, x.2 ≠ .cell := by decide) : wpAny (model prog w) A (call (.ref f) pos kw) Q E s := by
  obtain ⟨lo, hf, hke, B, F, X₀, T⟩ := C
  refine lo.wp (wpAny_call ?_)
  have X := X₀.keeps F.keep
  refine codeAny_call_def (fd := fnOf name qual params body scope dV kV doc pm an cdv ct) (body := body) (binds := binds) hroom (X _ _ ho) rfl (T.nolimit.keeps F.keep) (codeRec_of X hcd) rfl hbind hcell hloc (fun h₁ hns hk₁ => ?_) hco hgen hk
  obtain ⟨st, B₂, D₂, lv⟩ := groundT (A₁ := AtD D U env outer) (env := env) (R := fun r s' => match r with | .ok (.ret v) => Q v s' | .ok _ => False | .error e => E e s') B F N XB TB Dk rfl hf hke
  exact wpAny_mono (h _ s.heap.objs.size h₁ X₀ T (gr_of N) (Heap.get?_none_of_le (Nat.le_refl _)) ⟨hns, fun b o e => hk₁ b o (of_hideAll _ e), Nat.le_of_eq (hideAll_size _ _)⟩
    (fun p hp => ⟨hk₁ _ _ (N p hp).1, Nat.ne_of_lt (Heap.lt_size (N p hp).1), hideAll_none _ (List.mem_map_of_mem hp)⟩) B₂ (X₀.keeps st) (T.keeps st) D₂) (fun fl s' hl => lv _ _ hl) fun _ _ y => y
theorem enter_turnC (C : Cx w pT lT mean mg mb A A₀ D U base h₀ outer env L m s.heap) (XB : (theHeap w.params).In base) (TB : Top pT lT mean mg mb base) (Dk : KtsDicts (framesOf outer) h₀) (N : News h₀ L s.heap news)
    (ho : (theHeap w.params).lookup f = some ⟨oc, od, .func (fnOf name qual params body scope dV kV doc pm an cdv ct), osl⟩) (hcd : codeIn (theHeap w.params) cdv qual = true) (hroom : D < recursionLimit)
    (hbind : BindsTo s (fnOf name qual params body scope dV kV doc pm an cdv ct) ⟨pos, kw⟩ binds) (hkind : (binds.all fun y => scope.names.lookup y.1 == some .local || scope.names.lookup y.1 == some .cell) = true)
    (hnd : ((cellsFrom 0 scope.names []).map (·.1)).Nodup)
    (h : ∀ g L' h₁ tk cells, (theHeap w.params).In h₀ → Top pT lT mean mg mb h₀ → Gr s.heap g news → s.heap.get? L' = none → Fr g L' h₁ (bindL (envOfC qual scope L' f cdv).kindOf binds fun _ => none) → News g L' h₁ (cells ++ news) →
      CellsAre (bindC (envOfC qual scope L' f cdv).kindOf binds fun _ => none) (cellsFrom (L' + 1) scope.names []) cells → Below (AtD D U env outer) base (env :: outer) g → (theHeap w.params).In g → Top pT lT mean mg mb g → KtsDicts (framesOf (env :: outer)) g → (∀ p ∈ news, p.1 < L') →
      wpAny (model prog w) ((AtD D U env outer).deeper (envOfC qual scope L' f cdv)) (execs body (envOfC qual scope L' f cdv))
        (fun fl s' => LeaveT w pT lT mean mg mb A₀ base (framesOf (env :: outer)) outer h₀ L m g (fun r s' => match r with | .ok (.ret v) => Q v s' | .ok _ => False | .error e => E e s') (match fl with | .ret v => v | _ => .none) s')
        (fun e s' => wpAny (model prog w) ((AtD D U env outer).deeper (envOfC qual scope L' f cdv)) (leaving (envOfC qual scope L' f cdv) e) (fun _ s'' => E e s'') (fun e' s'' => E e' s'') s')
        { s with heap := h₁, toks := tk })
    (hco : scope.isCoroutine = false := by exact rfl) (hgen : scope.isGenerator = false := by exact rfl) (hk : scope.kind = .function := by exact rfl) : wpAny (model prog w) A (call (.ref f) pos kw) Q E s := by
  obtain ⟨lo, hf, hke, B, F, X₀, T⟩ := C
  refine lo.wp (wpAny_call ?_)
  have X := X₀.keeps F.keep
  obtain ⟨st, B₂, D₂, lv⟩ := groundT (A₁ := AtD D U env outer) (env := env) (R := fun r s' => match r with | .ok (.ret v) => Q v s' | .ok _ => False | .error e => E e s') B F N XB TB Dk rfl hf hke
  refine codeAny_call_function (fd := fnOf name qual params body scope dV kV doc pm an cdv ct) hroom (X _ _ ho) rfl hco hgen rfl (codeRec_of X hcd) (hbind _ _ _ _ ?_)
  refine wpAny_newFunctionEnv_cells hk (kindsX hkind _) fun env' he s' x => ?_
  subst he
  refine ⟨(T.nolimit.keeps F.keep).keeps x.toInCall.keep, codeAny_func ?_⟩
  obtain ⟨h₁, tk, rfl, _⟩ := x.done
  have hk₁ := x.toInCall.keep
  obtain ⟨cells, NC, Y⟩ := Cl.news (h₀ := s.heap) (Nat.le_refl _) fun n c hm => ⟨x.cell n c (lookup_of_mem_nodup (cellsFrom_names scope.names 0 (s.heap.objs.size + 1) [] [] rfl ▸ hnd) hm), x.above n c hm⟩
  refine wpAny_mono (h _ s.heap.objs.size h₁ tk cells X₀ T (gr_of N) (Heap.get?_none_of_le (Nat.le_refl _)) ⟨x.toInCall.ns, fun b o e => hk₁ b o (of_hideAll _ e), Nat.le_of_eq (hideAll_size _ _)⟩ (fun p hp => ?_) Y B₂ (X₀.keeps st) (T.keeps st) D₂ (fun p hp => Heap.lt_size (N p hp).1)) (fun fl s' hl => lv _ _ hl) fun _ _ y => y
  rcases List.mem_append.mp hp with hp | hp
  · refine ⟨(NC p hp).1, (NC p hp).2.1, ?_⟩
    cases q : (hideAll s.heap (news.map (·.1))).get? p.1 with
    | none => rfl
    | some o => have := of_hideAll _ q; rw [(NC p hp).2.2] at this; cases this
  · exact ⟨hk₁ _ _ (N p hp).1, Nat.ne_of_lt (Heap.lt_size (N p hp).1), hideAll_none _ (List.mem_map_of_mem hp)⟩
end
end Mine

namespace Mine
/-- what the lambda does: it flies -/
noncomputable def Flies (w : World) (pT : Program) (lT : List Str) (mean : ExcName → Option Value) (mg mb : Str → Option Value) (base : Heap) (lam : Addr) (A₀ : Around) (outer : List Env) (news : List (Addr × Obj)) : Prop :=
  ∀ {A₁ : Around} {g : Heap} {en : Env} {L : Addr} {m : Str → Option Value} {s : Shared} {Q E : Value → Shared → Prop}, Cx w pT lT mean mg mb A₁ A₀ 430 1150 base g outer en L m s.heap → News g L s.heap news →
    (∀ e h' tk', Flew s.heap [] (en :: outer) e h' → E (.ref e) { s with heap := h', toks := tk' }) → wpAny (model PySem.Challenge.rw_on0233_01.row.prog w) A₁ (call (.ref lam) []) Q E s
theorem flew_raised {A : Around} {base g h h' : Heap} {outer : List Env} {en : Env} {L e : Addr} {m : Str → Option Value} {news : List (Addr × Obj)} (K : Below A base outer g) (F : Fr g L h m) (N : News g L h news) (hf : en.frame = some L) (R : Flew h [] (en :: outer) e h') :
    ∃ t vs, RaisedS base (hideAll h (news.map (·.1))) (en :: outer) e (.ref 51) t vs news h' ∧ Fr g L (hideAll h (news.map (·.1))) m ∧ (hideAll h (news.map (·.1))).UpToSlots h' := by
  obtain ⟨B, t, vs, hfl, hBt, ht, r1, r2⟩ := R
  have nm : ∀ b o, g.get? b = some o → b ∉ news.map (·.1) := fun b o e q => by
    obtain ⟨p, hp, rfl⟩ := List.mem_map.mp q
    rw [(N p hp).2.2] at e; cases e
  have nL : L ∉ news.map (·.1) := fun q => by
    obtain ⟨p, hp, e⟩ := List.mem_map.mp q
    exact (N p hp).2.1 e
  have nf : ∀ b o, base.get? b = some o → b ∉ framesOf (en :: outer) := fun b o hb hm => by
    rcases frame_in hf hm with z | z
    · have := K.stays b o hb
      rw [z, kts_self F] at this; cases this
    · rw [(K.frames.mem z).1] at hb; cases hb
  refine ⟨t, vs, ⟨⟨B, fun b o hb => r1 b o (F.keep _ _ (K.stays b o hb)) (by simp) (nf b o hb), fun b o hb hbf => r1 b o (of_hideAll _ hb) (by simp) hbf, fun q hq => ⟨r1 _ _ (N q hq).1 (by simp) (fun hm => ?_), hideAll_none _ (List.mem_map_of_mem hq), ?_⟩, hfl, hBt⟩, ht⟩, ?_, fun b o hb hnf => ?_⟩
  · rcases frame_in hf hm with z | z
    · exact (N q hq).2.1 z
    · obtain ⟨_, o', ho', _⟩ := K.frames.mem z
      have := (N q hq).2.2
      rw [ho'] at this; cases this
  · cases x : base.get? q.1 with
    | none => rfl
    | some o =>
      have := (N q hq).2.2
      rw [K.stays _ _ x] at this; cases this
  · obtain ⟨oL, es, ep, hL, r⟩ := F.ns
    exact ⟨⟨oL, es, ep, hideAll_get _ hL nL, r⟩, fun b o hb => hideAll_get _ (F.keep b o hb) (nm b o hb), F.above⟩
  · by_cases hm : b ∈ framesOf (en :: outer)
    · exact r2 b o (of_hideAll _ hb) hm
    · exact ⟨o.slots, hfl.1 _ _ (r1 b o (of_hideAll _ hb) (by simp) hm)⟩
section
variable {w : World} {pT : Program} {lT : List Str} {mean : ExcName → Option Value} {mg mb : Str → Option Value} {A A₀ : Around} {base h₀ : Heap} {outer : List Env} {env : Env} {L : Addr} {m : Str → Option Value} {s : Shared} {Q E : Value → Shared → Prop} {news : List (Addr × Obj)}
section
theorem refused_core {lam : Addr} {oc : Value} {od : Option Addr} {fd : FuncData} {sl : Array (Option Value)}
    (C : Cx w pT lT mean mg mb A A₀ 420 1100 base h₀ outer env L m s.heap) (XB : (theHeap w.params).In base) (TB : Top pT lT mean mg mb base) (Dk : KtsDicts (framesOf outer) h₀) (N : News h₀ L s.heap news)
    (hlm : (lam, (⟨oc, od, .func fd, sl⟩ : Obj)) ∈ news) (fl' : Flies w pT lT mean mg mb base lam (AtD 420 1100 env outer) (env :: outer) news)
    (k : ∀ h₀' h' tk', KtsTurn (framesOf outer) h₀ h₀' → Fr h₀' L h' m → News h₀' L h' news → Below A₀ base outer h₀' → (theHeap w.params).In h₀' → Top pT lT mean mg mb h₀' → KtsDicts (framesOf outer) h₀' → Q (.bool true) { s with heap := h', toks := tk' }) :
    wpAny (model PySem.Challenge.rw_on0233_01.row.prog w) A (call (.ref 207) [.ref lam]) Q E s := by
  k_with_none
  k_with "omega" => first | with_reducible assumption | decide | (with_reducible exact oN1 (by with_reducible assumption) (by decide)) | (with_reducible exact oN2 (by with_reducible assumption) (by decide)) | (with_reducible exact oN3 (by with_reducible assumption) (by decide)) | (with_reducible exact oN4 (by with_reducible assumption) (by decide)) | (with_reducible exact oN5 (by with_reducible assumption) (by decide)) | (with_reducible exact oN6 (by with_reducible assumption) (by decide)) | (with_reducible exact oN7 (by with_reducible assumption) (by decide)) | (with_reducible exact oN8 (by with_reducible assumption) (by decide)) | (with_reducible exact oI1 (by with_reducible assumption) (by decide)) | (with_reducible exact oI2 (by with_reducible assumption) (by decide)) | (with_reducible exact oI3 (by with_reducible assumption) (by decide)) | (with_reducible exact oI4 (by with_reducible assumption) (by decide)) | (with_reducible exact oI5 (by with_reducible assumption) (by decide)) | (with_reducible exact oI6 (by with_reducible assumption) (by decide)) | (with_reducible exact oI7 (by with_reducible assumption) (by decide)) | (with_reducible exact oI8 (by with_reducible assumption) (by decide)) | fail
  k_with "k_pk" => first | exact lA0 | exact lA1 | exact lA2 | exact lA3 | exact lA4 | exact lE1 | exact lE2 | exact lE3 | exact lE4 | exact lE5 | (refine cF ?_; k_extra "k_pk")
  k_with "k_pe" => first | exact eA0 | exact eA1 | exact eA2 | exact eA3 | exact eA4 | exact eE1 | exact eE2 | exact eE3 | exact eE4 | exact eE5 | (refine cF ?_; k_extra "k_pe")
  k_with "k_ltN" => with_reducible first | assumption | exact pL (by with_reducible assumption) (by k_extra "k_pk")
  k_with "k_ne" => (refine neN ?_; (try dsimp only); first | (with_reducible first | exact n01 | exact n02 | exact n03 | exact n04 | exact n05 | exact n01.symm | exact n02.symm | exact n03.symm | exact n04.symm | exact n05.symm | with_reducible assumption | exact Ne.symm (by with_reducible assumption) | exact Nat.ne_of_lt (by k_extra "k_ltN") | exact Nat.ne_of_gt (by k_extra "k_ltN") | exact nS1 (by k_extra "k_ltN") | exact Ne.symm (nS1 (by k_extra "k_ltN")) | exact nS2 (by k_extra "k_ltN") | exact Ne.symm (nS2 (by k_extra "k_ltN")) | exact nS3 (by k_extra "k_ltN") | exact Ne.symm (nS3 (by k_extra "k_ltN")) | exact nS4 (by k_extra "k_ltN") | exact Ne.symm (nS4 (by k_extra "k_ltN")) | exact nS5 (by k_extra "k_ltN") | exact Ne.symm (nS5 (by k_extra "k_ltN")) | exact nS6 (by k_extra "k_ltN") | exact Ne.symm (nS6 (by k_extra "k_ltN")) | exact nT (by with_reducible assumption) (by k_extra "k_ltN") | exact Ne.symm (nT (by with_reducible assumption) (by k_extra "k_ltN")) | exact pN (by with_reducible assumption) (by k_extra "k_pe") | exact Ne.symm (pN (by with_reducible assumption) (by k_extra "k_pe"))) | omega)
  k_with "cell_enter" => ((refine' enter_turn ?qzC ?qzXB ?qzTB ?qzDk ?qzN ?qzk6 ?qzk7 ?qzk8 ?qzk9 ?qzkB ?_ ?qzc2 ?qzc3 ?qzc4 ?qzc5; (case qzC => assumption); (case qzXB => assumption); (case qzTB => assumption); (case qzDk => assumption); (case qzN => assumption); (case qzk6 => k_is); (case qzk7 => k_is); (case qzk8 => decide); (case qzk9 => exact BindsTo.of_eq rfl); (case qzc5 => decide); (case qzkB => exact locs rfl); (case qzc2 => exact rfl); (case qzc3 => exact rfl); (case qzc4 => exact rfl); k_whole; intro g'z L'z h'z X0'z T0'z G'z nL'z F'z N'z B'z X'z T'z D'z; (try dsimp only); (try k_fold)))
  k_with "call ref" => ((k_here; (rename Flies _ _ _ _ _ _ _ _ _ _ _ => fl'z); k_dflt (refine' fl'z ?qzC ?qzN (fun e1'z h1'z tk1'z R1'z => ?_); (case qzC => exact ⟨⟨rfl, Nat.le_of_ble_eq_true rfl, rfl, rfl, Nat.le_of_ble_eq_true rfl⟩, rfl, rfl, by k_asm, by k_asm, by k_asm, by k_asm⟩); (case qzN => k_asm); k_whole)))
  k_with "noteFrame ref" => ((k_here; (rename Flew _ _ _ _ _ => R'z); k_dflt (rcases flew_raised (by k_asm) (by k_asm) (by k_asm) rfl R'z with ⟨t'z, vs'z, Rs'z, Fs'z, hs'z⟩); k_dflt (refine' caught_SO0 Rs'z Fs'z ?qzK hs'z ?qzXB ?qzTB ?qzD KtsTurn.refl ?qzex ?qzq ?_; (case qzK => k_asm); (case qzXB => assumption); (case qzTB => assumption); (case qzD => assumption); (case qzex => k_is); (case qzq => kts_isx); k_whole); intro h'z g'z news₂'z Tu'z F'z N2'z Got'z N'z B'z X'z T'z D'z))
  k_with "LeaveT" => ((k_dflt (refine' LeaveT.intro ?qzT ?qzF ?qzN ?_; (case qzF => k_asm); (case qzN => k_asm); (case qzT => first | assumption | exact KtsTurn.refl); k_whole); intro h0'z Tt'z Ft'z Nt'z Bt'z Xt'z Pt'z Dt'z))
  k_with "callWith ref" => ((k_here; k_dflt (refine' callWith_F0 ?qzk1 ?_; (case qzk1 => exact FnAt.of (by k_asm) (by assumption)); k_whole; try dsimp only [List.nil_append, List.cons_append])))
  k_dflt cell_enter
  clear C N
  w_top off
  k_steps
  exact k _ _ _ (by assumption) (by assumption) (by assumption) (by assumption) (by assumption) (by assumption) (by assumption)
end
end
end Mine

namespace Mine
noncomputable def stepR : List (Int × Int) → Int → List (Int × Int)
  | [], x => [(x, 1)]
  | (f, c) :: r, x => if f = x ∧ c < 256 then (f, c + 1) :: r else (x, 1) :: (f, c) :: r
noncomputable def runsOf : List Int → List (Int × Int)
  | [] => []
  | x :: r => (x, (lead x r 255 : Int) + 1) :: runsOf (r.drop (lead x r 255))
  termination_by l => l.length
  decreasing_by simp only [List.length_drop, List.length_cons]; omega
noncomputable def octR (p : Int × Int) : List Int := if 2 < p.2 then [p.1 + 8, p.2 - 1] else List.replicate p.2.toNat p.1
noncomputable def dueR (p : Int × Int) : List Int := List.replicate p.2.toNat (p.1 + 8 * (if 2 < p.2 then 1 else 0))
theorem runs_fold : ∀ (r : List Int) (x : Int) (c : Nat) (acc : List (Int × Int)), 1 ≤ c → c ≤ 256 →
    (r.foldl stepR ((x, (c : Int)) :: acc)).reverse = acc.reverse ++ (x, (c : Int) + lead x r (256 - c)) :: runsOf (r.drop (lead x r (256 - c)))
  | [], x, c, acc, _, _ => by rw [lead_nil]; simp [runsOf]
  | y :: r, x, c, acc, h1, h2 => by
    rw [List.foldl_cons]
    by_cases h : x = y ∧ (c : Int) < 256
    · have e : stepR ((x, (c : Int)) :: acc) y = (x, ((c + 1 : Nat) : Int)) :: acc := by rw [stepR, if_pos h]; rfl
      rw [e, runs_fold r x (c + 1) acc (by omega) (by omega)]
      obtain ⟨k, hk⟩ : ∃ k, 256 - c = k + 1 := ⟨256 - c - 1, by omega⟩
      have h3 : 256 - (c + 1) = k := by omega
      rw [hk, h3]
      have h4 : lead x (y :: r) (k + 1) = lead x r k + 1 := by rw [lead, if_pos h.1.symm]
      rw [h4, List.drop_succ_cons]
      congr 3
      omega
    · have e : stepR ((x, (c : Int)) :: acc) y = (y, ((1 : Nat) : Int)) :: (x, (c : Int)) :: acc := by rw [stepR, if_neg h]; rfl
      have h4 : lead x (y :: r) (256 - c) = 0 := by
        by_cases q : 256 - c = 0
        · rw [q, lead_zero]
        · obtain ⟨k, hk⟩ : ∃ k, 256 - c = k + 1 := ⟨256 - c - 1, by omega⟩
          rw [hk, lead, if_neg (fun z => h ⟨z.symm, by omega⟩)]
      rw [e, runs_fold r y 1 _ (by omega) (by omega), h4, List.drop_zero, runsOf]
      simp only [List.reverse_cons, List.append_assoc, List.singleton_append]
      have h5 : (256 - 1 : Nat) = 255 := rfl
      have e1 : (c : Int) + ((0 : Nat) : Int) = c := by omega
      have e2 : ((1 : Nat) : Int) + (lead y r 255 : Int) = (lead y r 255 : Int) + 1 := by omega
      rw [h5, e1, e2]
theorem runs_eq (ns : List Int) : (ns.foldl stepR []).reverse = runsOf ns := by
  cases ns with
  | nil => simp [runsOf]
  | cons x r =>
    rw [List.foldl_cons]
    show (r.foldl stepR ((x, ((1 : Nat) : Int)) :: [])).reverse = _
    rw [runs_fold r x 1 [] (by omega) (by omega), runsOf]
    simp only [List.reverse_nil, List.nil_append]
    have h5 : (256 - 1 : Nat) = 255 := rfl
    rw [h5]
    congr 2
    omega
theorem oct_enc (ns : List Int) : (runsOf ns).flatMap octR = enc ns := by
  induction ns using runsOf.induct with
  | case1 => simp [runsOf, enc_nil]
  | case2 x r ih =>
    rw [runsOf, enc_cons, List.flatMap_cons, ih]
    congr 1
    unfold octR run1
    show (if 2 < (lead x r 255 : Int) + 1 then [x + 8, (lead x r 255 : Int) + 1 - 1] else List.replicate ((lead x r 255 : Int) + 1).toNat x) = _
    by_cases h : 2 < lead x r 255 + 1
    · rw [if_pos (by omega), if_pos h]
      congr 2
      omega
    · rw [if_neg (by omega), if_neg h, show ((lead x r 255 : Int) + 1).toNat = lead x r 255 + 1 by omega]
/-- a run that the law draws -/
noncomputable def RunOk (p : Int × Int) : Prop := p.1 ∈ [(0 : Int), 1, 5, 49, 55, 16, 247] ∧ 1 ≤ p.2 ∧ p.2 ≤ 256
theorem runs_ok (ns : List Int) (h : ∀ x ∈ ns, x ∈ [(0 : Int), 1, 5, 49, 55, 16, 247]) : ∀ p ∈ runsOf ns, RunOk p := by
  induction ns using runsOf.induct with
  | case1 => intro p hp; simp [runsOf] at hp
  | case2 x r ih =>
    intro p hp
    rw [runsOf] at hp
    rcases List.mem_cons.mp hp with rfl | hp
    · have := lead_cap x r 255
      exact ⟨h x (.head _), by omega, by omega⟩
    · exact ih (fun y hy => h y (.tail _ (List.mem_of_mem_drop hy))) p hp
theorem flag_and {x : Int} (h : x ∈ [(0 : Int), 1, 5, 49, 55, 16, 247]) : Builtin.bitAnd x 8 = 0 ∧ Builtin.bitAnd (x + 8) 8 ≠ 0 := by
  simp only [List.mem_cons, List.not_mem_nil, or_false] at h
  rcases h with rfl | rfl | rfl | rfl | rfl | rfl | rfl <;> decide +kernel
theorem rdF_rep {x : Int} (h : Builtin.bitAnd x 8 = 0) (t : List Int) (n : Nat) : ∀ k : Nat, rdF (List.replicate k x ++ t) (k + n) = (rdF t n).map fun p => (List.replicate k x ++ p.1, p.2 + k)
  | 0 => by simp
  | k + 1 => by
    rw [List.replicate_succ, List.cons_append, show k + 1 + n = (k + n) + 1 by omega, rdF_one _ _ h, rdF_rep h t n k, Option.map_map]
    congr 1
theorem octR_len {p : Int × Int} (h : RunOk p) : (dueR p).length = p.2.toNat := by simp [dueR]
theorem rdF_piece {p : Int × Int} (h : RunOk p) (t : List Int) (n : Nat) : rdF (octR p ++ t) (p.2.toNat + n) = (rdF t n).map fun q => (dueR p ++ q.1, q.2 + (octR p).length) := by
  obtain ⟨f, c⟩ := p
  obtain ⟨h1, h2, h3⟩ := h
  obtain ⟨a1, a2⟩ := flag_and h1
  simp only [octR, dueR] at *
  by_cases hc : 2 < c
  · rw [if_pos hc, if_pos hc]
    have e1 : (1 + (c - 1)).toNat = c.toNat := by congr 1; omega
    show rdF ((f + 8) :: (c - 1) :: t) (c.toNat + n) = _
    obtain ⟨d, hd⟩ : ∃ d, c.toNat + n = d + 1 := ⟨c.toNat + n - 1, by omega⟩
    rw [hd, rdF_run _ _ a2, e1, if_pos (by omega), show d + 1 - c.toNat = n by omega]
    congr 1
  · rw [if_neg hc, if_neg hc, rdF_rep a1]
    congr 1
    funext q
    simp
theorem rdF_runs : ∀ (rs : List (Int × Int)) (t : List Int) (n : Nat), (∀ p ∈ rs, RunOk p) → rdF (rs.flatMap octR ++ t) ((rs.flatMap dueR).length + n) = (rdF t n).map fun q => (rs.flatMap dueR ++ q.1, q.2 + (rs.flatMap octR).length)
  | [], t, n, _ => by simp
  | p :: rs, t, n, h => by
    have hp := h p (.head _)
    rw [List.flatMap_cons, List.flatMap_cons, List.append_assoc, List.length_append, Nat.add_assoc, octR_len hp, rdF_piece hp, rdF_runs rs t n (fun q hq => h q (.tail _ hq)), Option.map_map]
    congr 1
    funext q
    simp only [Function.comp, List.length_append, List.append_assoc]
    congr 1
    omega
noncomputable def dueOf (ns : List Int) : List Int := (runsOf ns).flatMap dueR
theorem due_len (ns : List Int) : (dueOf ns).length = ns.length := by
  unfold dueOf
  induction ns using runsOf.induct with
  | case1 => simp [runsOf]
  | case2 x r ih =>
    rw [runsOf, List.flatMap_cons, List.length_append, ih]
    have := lead_le x r 255
    simp only [dueR, List.length_replicate, List.length_drop, List.length_cons]
    omega
theorem read_back (ns : List Int) (h : ∀ x ∈ ns, x ∈ [(0 : Int), 1, 5, 49, 55, 16, 247]) (t : List Int) : rdF (enc ns ++ t) ns.length = some (dueOf ns, (enc ns).length) := by
  have := rdF_runs (runsOf ns) t 0 (runs_ok ns h)
  rw [oct_enc, show ((runsOf ns).flatMap dueR).length = ns.length from due_len ns] at this
  rw [Nat.add_zero] at this
  rw [this, rdF_zero]
  simp [dueOf]
theorem octR_ne {p : Int × Int} (h : RunOk p) : octR p ≠ [] := by
  unfold octR
  split
  · simp
  · intro e
    have := congrArg List.length e
    have := h.2.1
    simp at *
    omega
theorem rdF_cut1 {p : Int × Int} (h : RunOk p) : rdF (octR p).dropLast p.2.toNat = none := by
  obtain ⟨f, c⟩ := p
  obtain ⟨h1, h2, h3⟩ := h
  obtain ⟨a1, a2⟩ := flag_and h1
  simp only [octR] at *
  obtain ⟨d, hd⟩ : ∃ d, c.toNat = d + 1 := ⟨c.toNat - 1, by omega⟩
  by_cases hc : 2 < c
  · rw [if_pos hc, hd]
    show rdF [f + 8] (d + 1) = none
    exact rdF_last _ a2
  · rw [if_neg hc, hd, List.replicate_succ', List.dropLast_concat]
    have := rdF_rep a1 [] 1 d
    rw [List.append_nil] at this
    rw [this, rdF_nil]
    rfl
theorem cut_runs : ∀ (rs : List (Int × Int)), rs ≠ [] → (∀ p ∈ rs, RunOk p) → rdF (rs.flatMap octR).dropLast (rs.flatMap dueR).length = none
  | [], h, _ => absurd rfl h
  | [p], _, h => by
    have hp := h p (.head _)
    simp only [List.flatMap_cons, List.flatMap_nil, List.append_nil]
    rw [octR_len hp]
    exact rdF_cut1 hp
  | p :: q :: rs, _, h => by
    have hp := h p (.head _)
    have hne : (q :: rs).flatMap octR ≠ [] := by
      rw [List.flatMap_cons]
      intro e
      exact octR_ne (h q (.tail _ (.head _))) (List.append_eq_nil_iff.mp e).1
    show rdF (octR p ++ (q :: rs).flatMap octR).dropLast (dueR p ++ (q :: rs).flatMap dueR).length = none
    rw [List.dropLast_append_of_ne_nil hne, List.length_append, octR_len hp, rdF_piece hp, cut_runs (q :: rs) (by simp) (fun z hz => h z (.tail _ hz))]
    rfl
theorem read_cut (ns : List Int) (hne : ns ≠ []) (h : ∀ x ∈ ns, x ∈ [(0 : Int), 1, 5, 49, 55, 16, 247]) : rdF (enc ns).dropLast ns.length = none := by
  have := cut_runs (runsOf ns) (by cases ns with | nil => exact absurd rfl hne | cons x r => rw [runsOf]; simp) (runs_ok ns h)
  rw [oct_enc, show ((runsOf ns).flatMap dueR).length = ns.length from due_len ns] at this
  exact this
end Mine

namespace Mine
noncomputable def axP (sh sm : Int) (s : Int) : Int × List Int := (axF s sh sm).getD (0, [])
noncomputable abbrev axFl (sh sm : Int) (steps : List Int) : List Int := steps.map fun s => (axP sh sm s).1
noncomputable abbrev axOc (sh sm : Int) (steps : List Int) : List Int := steps.flatMap fun s => (axP sh sm s).2
noncomputable def Near (s : Int) : Prop := -32767 ≤ s ∧ s ≤ 32767
theorem ax_some {s sh sm : Int} (h : Near s) : axF s sh sm = some (axP sh sm s) := by
  unfold axP
  unfold Near at h
  by_cases h1 : s = 0
  · rw [ax_0 h1]; rfl
  by_cases h2 : 0 < s ∧ s < 256
  · rw [ax_pos h2.1 h2.2]; rfl
  by_cases h3 : -256 < s ∧ s < 0
  · rw [ax_neg h3.1 h3.2]; rfl
  · rw [ax_mid (by omega) (by omega)]; rfl
structure AxB (sh sm : Int) : Prop where
  a1 : Builtin.bitAnd sm sh = 0
  a2 : Builtin.bitAnd sm sm ≠ 0
  a3 : Builtin.bitAnd (sh + sm) sh ≠ 0
  a4 : Builtin.bitAnd (sh + sm) sm ≠ 0
  a5 : Builtin.bitAnd sh sh ≠ 0
  a6 : Builtin.bitAnd sh sm = 0
  a7 : Builtin.bitAnd 0 sh = 0
  a8 : Builtin.bitAnd 0 sm = 0
theorem axB {sh sm : Int} (h : ShSm sh sm) : AxB sh sm := by
  rcases h with ⟨rfl, rfl⟩ | ⟨rfl, rfl⟩ <;> constructor <;> decide +kernel
/-- the four kinds of step -/
theorem axP_0 {sh sm : Int} : axP sh sm 0 = (sm, []) := by unfold axP; rw [ax_0 rfl]; rfl
theorem axP_pos {s sh sm : Int} (h : 0 < s) (h' : s < 256) : axP sh sm s = (sh + sm, [s]) := by unfold axP; rw [ax_pos h h']; rfl
theorem axP_neg {s sh sm : Int} (h : -256 < s) (h' : s < 0) : axP sh sm s = (sh, [0 - s]) := by unfold axP; rw [ax_neg h h']; rfl
theorem axP_mid {s sh sm : Int} (h : Near s) (h1 : 256 ≤ s ∨ s ≤ -256) : axP sh sm s = (0, putL16 s) := by unfold Near at h; unfold axP; rw [ax_mid h1 (by omega)]; rfl
noncomputable def sums : Int → List Int → List Int
  | _, [] => []
  | a, s :: r => (a + s) :: sums (a + s) r
theorem getD_pre (pre : List Int) (x : Int) (t : List Int) : (pre ++ x :: t).getD pre.length 0 = x := by simp [List.getD]
theorem getD_pre1 (pre : List Int) (x y : Int) (t : List Int) : (pre ++ x :: y :: t).getD (pre.length + 1) 0 = y := by simp [List.getD]
theorem put_u2 (s : Int) (pre t : List Int) : u2 (pre ++ putL16 s ++ t) pre.length = (s.fdiv 256).fmod 256 * 256 + s.fmod 256 := by
  unfold u2 putL16
  rw [List.append_assoc, List.cons_append, List.cons_append, List.nil_append, getD_pre, getD_pre1]
theorem u2_pos {s : Int} (h0 : 0 ≤ s) (h1 : s ≤ 65535) : (s.fdiv 256).fmod 256 * 256 + s.fmod 256 = s := by
  rw [Int.fdiv_eq_ediv_of_nonneg _ (by omega), Int.fmod_eq_emod_of_nonneg _ (by omega), Int.fmod_eq_emod_of_nonneg _ (by omega)]
  omega
theorem put_s2 {s : Int} (h : Near s) (pre t : List Int) : s2 (pre ++ putL16 s ++ t) pre.length = s := by
  unfold s2
  rw [put_u2]
  unfold Near at h
  rw [Int.fdiv_eq_ediv_of_nonneg _ (by omega), Int.fmod_eq_emod_of_nonneg _ (by omega), Int.fmod_eq_emod_of_nonneg _ (by omega)]
  split <;> omega
theorem rd_sums {sh sm : Int} (hs : ShSm sh sm) (t : List Int) : ∀ (steps pre : List Int) (a : Int), (∀ s ∈ steps, Near s) →
    rdD sh sm (pre ++ axOc sh sm steps ++ t) (axFl sh sm steps) pre.length a = some (sums a steps, pre.length + (axOc sh sm steps).length)
  | [], pre, a, _ => by simp [rdD, sums]
  | s :: r, pre, a, h => by
    have B := axB hs
    have hn := h s (.head _)
    have ih := rd_sums hs t r (pre ++ (axP sh sm s).2) (a + s) fun x hx => h x (.tail _ hx)
    have e : pre ++ axOc sh sm (s :: r) ++ t = (pre ++ (axP sh sm s).2) ++ axOc sh sm r ++ t := by simp [axOc]
    rw [e]
    have fin : ∀ p : List Int × Nat, p = (sums (a + s) r, (pre ++ (axP sh sm s).2).length + (axOc sh sm r).length) → ((a + s) :: p.1, p.2) = (sums a (s :: r), pre.length + (axOc sh sm (s :: r)).length) := by
      rintro _ rfl
      simp [sums, axOc, Nat.add_assoc]
    show rdD sh sm _ ((axP sh sm s).1 :: axFl sh sm r) _ _ = _
    rw [rdD]
    by_cases h1 : s = 0
    · subst h1
      simp only [axP_0] at ih fin ⊢
      simp only [Int.add_zero, List.append_nil] at ih fin ⊢
      rw [if_neg (by simp [B.a1]), if_neg B.a2, ih]
      exact congrArg some (fin (_, _) rfl)
    by_cases h2 : 0 < s ∧ s < 256
    · simp only [axP_pos h2.1 h2.2] at ih fin ⊢
      rw [if_pos B.a3, if_pos (by simp), if_pos B.a4]
      have g : (pre ++ [s] ++ axOc sh sm r ++ t).getD pre.length 0 = s := by
        rw [List.append_assoc, List.append_assoc]; exact getD_pre _ _ _
      rw [g]
      rw [List.length_append] at ih
      rw [show pre.length + 1 = pre.length + [s].length from rfl, ih]
      exact congrArg some (fin (_, _) (by simp))
    by_cases h3 : -256 < s ∧ s < 0
    · simp only [axP_neg h3.1 h3.2] at ih fin ⊢
      rw [if_pos B.a5, if_pos (by simp), if_neg (by simp [B.a6])]
      have g : (pre ++ [0 - s] ++ axOc sh sm r ++ t).getD pre.length 0 = 0 - s := by
        rw [List.append_assoc, List.append_assoc]; exact getD_pre _ _ _
      rw [g, show a - (0 - s) = a + s by omega]
      rw [List.length_append] at ih
      rw [show pre.length + 1 = pre.length + [0 - s].length from rfl, ih]
      exact congrArg some (fin (_, _) (by simp))
    · have h4 : 256 ≤ s ∨ s ≤ -256 := by omega
      simp only [axP_mid hn h4] at ih fin ⊢
      rw [if_neg (by simp [B.a7]), if_pos B.a8, if_pos (by simp)]
      have g : s2 (pre ++ putL16 s ++ axOc sh sm r ++ t) pre.length = s := by
        rw [List.append_assoc]; exact put_s2 hn _ _
      rw [g]
      rw [List.length_append] at ih
      rw [show pre.length + 2 = pre.length + (putL16 s).length from rfl, ih]
      exact congrArg some (fin (_, _) (by simp))
noncomputable def need (sh sm : Int) : List Int → Nat
  | [] => 0
  | f :: r => (if Builtin.bitAnd f sh ≠ 0 then 1 else if Builtin.bitAnd f sm = 0 then 2 else 0) + need sh sm r
theorem rdD_short {sh sm : Int} {ks : List Int} : ∀ (fl : List Int) (i : Nat) (a : Int), i ≤ ks.length → ks.length < i + need sh sm fl → rdD sh sm ks fl i a = none
  | [], i, a, h0, h => by rw [need] at h; omega
  | f :: r, i, a, h0, h => by
    rw [need] at h
    rw [rdD]
    by_cases h1 : Builtin.bitAnd f sh ≠ 0
    · rw [if_pos h1] at h ⊢
      by_cases h2 : i + 1 ≤ ks.length
      · rw [if_pos h2, rdD_short r _ _ h2 (by omega), rdD_short r _ _ h2 (by omega)]
        split <;> rfl
      · rw [if_neg h2]
    · rw [if_neg h1] at h ⊢
      by_cases h3 : Builtin.bitAnd f sm = 0
      · rw [if_pos h3] at h ⊢
        by_cases h2 : i + 2 ≤ ks.length
        · rw [if_pos h2, rdD_short r _ _ h2 (by omega)]; rfl
        · rw [if_neg h2]
      · rw [if_neg h3] at h ⊢
        rw [rdD_short r _ _ h0 (by omega)]; rfl
theorem need_ax {sh sm : Int} (hs : ShSm sh sm) : ∀ steps : List Int, (∀ s ∈ steps, Near s) → need sh sm (axFl sh sm steps) = (axOc sh sm steps).length
  | [], _ => rfl
  | s :: r, h => by
    have B := axB hs
    have hn := h s (.head _)
    have ih := need_ax hs r fun x hx => h x (.tail _ hx)
    show need sh sm ((axP sh sm s).1 :: axFl sh sm r) = ((axP sh sm s).2 ++ axOc sh sm r).length
    rw [need, ih, List.length_append]
    congr 1
    by_cases h1 : s = 0
    · subst h1; simp [axP_0, B.a1, B.a2]
    by_cases h2 : 0 < s ∧ s < 256
    · simp [axP_pos h2.1 h2.2, B.a3]
    by_cases h3 : -256 < s ∧ s < 0
    · simp [axP_neg h3.1 h3.2, B.a5]
    · simp [axP_mid hn (show 256 ≤ s ∨ s ≤ -256 by omega), B.a7, B.a8]
theorem deltas_back {sh sm : Int} (hs : ShSm sh sm) {steps : List Int} (h : ∀ s ∈ steps, Near s) (t : List Int) : rdD sh sm (axOc sh sm steps ++ t) (axFl sh sm steps) 0 0 = some (sums 0 steps, (axOc sh sm steps).length) := by
  have := rd_sums hs t steps [] 0 h
  simpa using this
theorem deltas_cut {sh sm : Int} (hs : ShSm sh sm) {steps : List Int} (h : ∀ s ∈ steps, Near s) (hne : axOc sh sm steps ≠ []) : rdD sh sm (axOc sh sm steps).dropLast (axFl sh sm steps) 0 0 = none := by
  refine rdD_short _ _ _ (Nat.zero_le _) ?_
  rw [need_ax hs _ h, List.length_dropLast]
  have := List.length_pos_iff.mpr hne
  omega
theorem sums_len : ∀ (a : Int) (l : List Int), (sums a l).length = l.length
  | _, [] => rfl
  | a, s :: r => by rw [sums, List.length_cons, sums_len, List.length_cons]
theorem ax_len {sh sm : Int} : ∀ {steps : List Int}, (∀ s ∈ steps, Near s) → (axOc sh sm steps).length ≤ 2 * steps.length
  | [], _ => by simp
  | s :: r, h => by
    have hn := h s (.head _)
    have ih := ax_len (sh := sh) (sm := sm) (steps := r) fun x hx => h x (.tail _ hx)
    show ((axP sh sm s).2 ++ axOc sh sm r).length ≤ _
    rw [List.length_append, List.length_cons]
    have : (axP sh sm s).2.length ≤ 2 := by
      by_cases h1 : s = 0
      · subst h1; simp [axP_0]
      by_cases h2 : 0 < s ∧ s < 256
      · simp [axP_pos h2.1 h2.2]
      by_cases h3 : -256 < s ∧ s < 0
      · simp [axP_neg h3.1 h3.2]
      · simp [axP_mid hn (show 256 ≤ s ∨ s ≤ -256 by omega)]
    omega
theorem ax_in8 {sh sm : Int} {steps : List Int} (h : ∀ s ∈ steps, Near s) : In8 (axOc sh sm steps) := by
  intro y hy
  obtain ⟨s, hs, hy⟩ := List.mem_flatMap.mp hy
  have hn := h s hs
  by_cases h1 : s = 0
  · subst h1; simp [axP_0] at hy
  by_cases h2 : 0 < s ∧ s < 256
  · rw [axP_pos h2.1 h2.2] at hy; rw [List.mem_singleton.mp hy]; omega
  by_cases h3 : -256 < s ∧ s < 0
  · rw [axP_neg h3.1 h3.2] at hy; rw [List.mem_singleton.mp hy]; omega
  · rw [axP_mid hn (by omega)] at hy; exact in8_put s y hy
/-- ends -/
noncomputable abbrev enOc (ls : List Int) : List Int := ls.flatMap fun x => putL16 x
noncomputable def Rising : Int → List Int → Prop
  | _, [] => True
  | a, x :: r => a < x ∧ x ≤ 65535 ∧ Rising x r
theorem en_len : ∀ ls : List Int, (enOc ls).length = 2 * ls.length
  | [] => rfl
  | x :: r => by
    show (putL16 x ++ enOc r).length = _
    rw [List.length_append, en_len r, List.length_cons]
    simp; omega
theorem en_in8 (ls : List Int) : In8 (enOc ls) := by
  intro y hy
  obtain ⟨s, hs, hy⟩ := List.mem_flatMap.mp hy
  exact in8_put s y hy
theorem ends_gen : ∀ (ls pre t : List Int) (i : Nat) (a : Int) (k : Nat), pre.length = 2 * i → -1 ≤ a → Rising a ls →
    rdE (pre ++ enOc ls ++ t) i (ls.length + k) a = (rdE (pre ++ enOc ls ++ t) (i + ls.length) k (if ls = [] then a else ls.getD (ls.length - 1) 0)).map (ls ++ ·)
  | [], pre, t, i, a, k, _, _, _ => by simp
  | x :: r, pre, t, i, a, k, hp, ha, hR => by
    obtain ⟨h1, h2, h3⟩ := hR
    have e : pre ++ enOc (x :: r) ++ t = (pre ++ putL16 x) ++ enOc r ++ t := by simp [enOc]
    have ih := ends_gen r (pre ++ putL16 x) t (i + 1) x k (by rw [List.length_append, hp]; simp; omega) (by omega) h3
    have u : u2 ((pre ++ putL16 x) ++ enOc r ++ t) (2 * i) = x := by
      rw [List.append_assoc, ← hp, put_u2, u2_pos (by omega) h2]
    rw [e, show (x :: r).length + k = (r.length + k) + 1 by simp; omega, rdE, if_pos (by simp; omega), u, if_neg (by omega), ih, Option.map_map]
    have hl : (if x :: r = [] then a else (x :: r).getD ((x :: r).length - 1) 0) = if r = [] then x else r.getD (r.length - 1) 0 := by
      rw [if_neg (by simp)]
      cases r with
      | nil => simp
      | cons y r => simp
    rw [hl, show i + (x :: r).length = i + 1 + r.length by simp; omega]
    congr 1
theorem ends_back {ls : List Int} (h : Rising (-1) ls) (t : List Int) : rdE (enOc ls ++ t) 0 ls.length (-1) = some ls := by
  have := ends_gen ls [] t 0 (-1) 0 rfl (by omega) h
  rw [List.nil_append, Nat.add_zero] at this
  rw [this, rdE]
  simp
theorem ends_more {ls : List Int} (h : Rising (-1) ls) : rdE (enOc ls) 0 (ls.length + 1) (-1) = none := by
  have := ends_gen ls [] [] 0 (-1) 1 rfl (by omega) h
  rw [List.nil_append, List.append_nil, Nat.zero_add] at this
  rw [this, rdE, if_neg (by rw [en_len]; omega)]
  rfl
theorem ends_again {ls : List Int} (h : Rising (-1) ls) (hne : ls ≠ []) : rdE (enOc ls ++ putL16 (ls.getD (ls.length - 1) 0)) 0 (ls.length + 1) (-1) = none := by
  have := ends_gen ls [] (putL16 (ls.getD (ls.length - 1) 0)) 0 (-1) 1 rfl (by omega) h
  rw [List.nil_append, Nat.zero_add, if_neg hne] at this
  have hb : -1 ≤ ls.getD (ls.length - 1) 0 ∧ 0 ≤ ls.getD (ls.length - 1) 0 ∧ ls.getD (ls.length - 1) 0 ≤ 65535 := by
    have key : ∀ (l : List Int) (a : Int), -1 ≤ a → Rising a l → l ≠ [] → 0 ≤ l.getD (l.length - 1) 0 ∧ l.getD (l.length - 1) 0 ≤ 65535 := by
      intro l
      induction l with
      | nil => intro _ _ _ h; exact absurd rfl h
      | cons x r ih =>
        rintro a ha ⟨h1, h2, h3⟩ _
        cases r with
        | nil => simp; omega
        | cons y r =>
          have := ih x (by omega) h3 (by simp)
          simpa using this
    have := key ls (-1) (by omega) h hne
    omega
  rw [this, rdE]
  have u := put_u2 (ls.getD (ls.length - 1) 0) (enOc ls) []
  rw [List.append_nil, en_len, u2_pos hb.2.1 hb.2.2] at u
  rw [u, if_pos (by rw [List.length_append, en_len]; simp), if_pos (Int.le_refl _)]
  rfl
theorem ends_none3 : rdE [0, 3, 0, 3] 0 2 (-1) = none := by decide
theorem ends_one : rdE [255, 255] 0 1 (-1) = some [65535] := by decide
theorem flags_93 : rdF [9, 3] 3 = none := by
  rw [rdF_run _ _ (by decide +kernel), if_neg (by decide)]
theorem flags_94 : rdF [9, 3] 4 = some ([9, 9, 9, 9], 2) := by
  rw [rdF_run _ _ (by decide +kernel), if_pos (by decide)]
  rw [show 3 + 1 - ((1 : Int) + 3).toNat = 0 from rfl, rdF_zero]; rfl
theorem flags_5 : enc (List.replicate 257 5) = [13, 255, 5] := by
  rw [show List.replicate 257 (5 : Int) = 5 :: List.replicate 256 5 from rfl, enc_cons]
  have : lead (5 : Int) (List.replicate 256 5) 255 = 255 := by decide +kernel
  rw [this]
  rw [show (List.replicate 256 (5 : Int)).drop 255 = [5] by decide +kernel, enc_cons, lead_nil]
  show run1 5 255 ++ (run1 5 0 ++ enc []) = _
  rw [enc_nil]
  decide +kernel
theorem due_5 (ns : List Int) (h : ns = []) : dueOf ns = [] := by subst h; simp [dueOf, runsOf]
end Mine

namespace Mine
theorem octR_le {p : Int × Int} (h : RunOk p) : (octR p).length ≤ (dueR p).length := by
  rw [octR_len h]
  unfold octR
  split
  · simp; omega
  · simp
theorem oct_le : ∀ (rs : List (Int × Int)), (∀ p ∈ rs, RunOk p) → (rs.flatMap octR).length ≤ (rs.flatMap dueR).length
  | [], _ => by simp
  | p :: r, h => by
    rw [List.flatMap_cons, List.flatMap_cons, List.length_append, List.length_append]
    have h1 := octR_le (h p (.head _))
    have h2 := oct_le r fun q hq => h q (.tail _ hq)
    omega
theorem enc_len {ns : List Int} (h : ∀ x ∈ ns, x ∈ [(0 : Int), 1, 5, 49, 55, 16, 247]) : (enc ns).length ≤ ns.length := by
  rw [← oct_enc ns, ← due_len ns]
  exact oct_le _ (runs_ok ns h)
theorem octR_in8 {p : Int × Int} (h : RunOk p) : In8 (octR p) := by
  obtain ⟨f, c⟩ := p
  obtain ⟨h1, h2, h3⟩ := h
  dsimp only at h1 h2 h3
  have hf : 0 ≤ f ∧ f ≤ 247 := by
    simp only [List.mem_cons, List.not_mem_nil, or_false] at h1
    omega
  intro y hy
  unfold octR at hy
  dsimp only at hy
  split at hy
  · rcases List.mem_cons.mp hy with rfl | hy
    · omega
    · rw [List.mem_singleton.mp hy]; omega
  · rw [List.eq_of_mem_replicate hy]; omega
theorem enc_in8 {ns : List Int} (h : ∀ x ∈ ns, x ∈ [(0 : Int), 1, 5, 49, 55, 16, 247]) : In8 (enc ns) := by
  rw [← oct_enc ns]
  intro y hy
  obtain ⟨p, hp, hy⟩ := List.mem_flatMap.mp hy
  exact octR_in8 (runs_ok ns h p hp) y hy
theorem take_flat {α : Type} {l : List α} {i : Nat} {p : α} (h : l[i]? = some p) (f : α → List Int) : (l.take (i + 1)).flatMap f = (l.take i).flatMap f ++ f p := by
  rw [List.take_add_one, h, List.flatMap_append]
  simp
theorem flat_take_le {α : Type} (l : List α) (i : Nat) (f : α → List Int) : ((l.take i).flatMap f).length ≤ (l.flatMap f).length := by
  have h : l.flatMap f = (l.take i).flatMap f ++ (l.drop i).flatMap f := by rw [← List.flatMap_append, List.take_append_drop]
  rw [h, List.length_append]; omega
theorem oct_take {ns : List Int} (hf : Flag ns) (i : Nat) : (((runsOf ns).take i).flatMap octR).length ≤ 600 ∧ (((runsOf ns).take i).flatMap dueR).length ≤ 600 := by
  have h1 := flat_take_le (runsOf ns) i octR
  have h2 := flat_take_le (runsOf ns) i dueR
  have h3 := enc_len hf.2
  have h4 := due_len ns
  have h5 := hf.1
  rw [← oct_enc ns] at h3
  unfold dueOf at h4
  omega
theorem oct_long {f c : Int} (h : 2 < c) : octR (f, c) = [f + 8, c - 1] := if_pos h
theorem oct_short {f c : Int} (h : ¬ 2 < c) : octR (f, c) = List.replicate c.toNat f := if_neg h
theorem due_long {f c : Int} (h : 2 < c) : dueR (f, c) = List.replicate c.toNat (f + 8 * 1) := by unfold dueR; rw [if_pos h]
theorem due_short {f c : Int} (h : ¬ 2 < c) : dueR (f, c) = List.replicate c.toNat (f + 8 * 0) := by unfold dueR; rw [if_neg h]
theorem due_any {f c : Int} : dueR (f, c) = List.replicate c.toNat (f + 8 * if decide (2 < c) = true then 1 else 0) := by unfold dueR; simp only [decide_eq_true_eq]
end Mine

namespace Mine
section
variable {w : World} {pT : Program} {lT : List Str} {mean : ExcName → Option Value} {mg mb : Str → Option Value} {A A₀ : Around} {base h₀ : Heap} {outer : List Env} {env : Env} {L : Addr} {m : Str → Option Value} {s : Shared} {Q E : Value → Shared → Prop}
noncomputable abbrev RunO := Addr × Int × Tok × Int × Tok × Nat
noncomputable abbrev rObj (r : RunO) : Addr × Obj := (r.1, W.listOf #[.int r.2.1 r.2.2.1, .int r.2.2.2.1 r.2.2.2.2.1] r.2.2.2.2.2)
noncomputable abbrev rRef (r : RunO) : Value := .ref r.1
noncomputable abbrev rPair (r : RunO) : Int × Int := (r.2.1, r.2.2.2.1)
noncomputable def Dis : List RunO → Prop
  | [] => True
  | r :: rest => (∀ q ∈ rest.map rObj, q.1 ≠ r.1) ∧ Dis rest
theorem item2_0 {l : Addr} {a b : Int} {ta tb u : Tok} {n : Nat} {value slice : Expr} {news : List (Addr × Obj)} (N : News h₀ L s.heap news) (hm : (l, W.listOf #[.int a ta, .int b tb] n) ∈ news) (h : ∀ t, Q (.int a t) s)
    (hs : subscripted slice false (.ref l) (.int 0 u) = operate [.ref l, .int 0 u] (getItem (.ref l) (.int 0 u)) := by with_unfolding_all rfl) :
    wpAny (model PySem.Challenge.rw_on0233_01.row.prog w) A (subscriptTail value slice (.ref l) (.int 0 u)) Q E s :=
  item_anyK (vs := [.int a ta, .int b tb]) (ns := [a, b]) (News.isList N hm) (.cons _ _ (.cons _ _ .nil)) (by decide) (by simp) (by decide) h hs
theorem item2_1 {l : Addr} {a b : Int} {ta tb u : Tok} {n : Nat} {value slice : Expr} {news : List (Addr × Obj)} (N : News h₀ L s.heap news) (hm : (l, W.listOf #[.int a ta, .int b tb] n) ∈ news) (h : ∀ t, Q (.int b t) s)
    (hs : subscripted slice false (.ref l) (.int 1 u) = operate [.ref l, .int 1 u] (getItem (.ref l) (.int 1 u)) := by with_unfolding_all rfl) :
    wpAny (model PySem.Challenge.rw_on0233_01.row.prog w) A (subscriptTail value slice (.ref l) (.int 1 u)) Q E s :=
  item_anyK (vs := [.int a ta, .int b tb]) (ns := [a, b]) (News.isList N hm) (.cons _ _ (.cons _ _ .nil)) (by decide) (by simp) (by decide) h hs
theorem allNe_mem {I : Addr} : ∀ {l : List (Addr × Obj)}, AllNe I l → ∀ p ∈ l, p.1 ≠ I
  | [], _, _, hp => absurd hp (List.not_mem_nil)
  | _ :: _, h, p, hp => by
    rcases List.mem_cons.mp hp with rfl | hp
    · exact h.1
    · exact allNe_mem h.2 p hp
theorem allLt_ne {I : Addr} : ∀ {l : List (Addr × Obj)}, AllLt I l → ∀ p ∈ l, p.1 ≠ I
  | [], _, _, hp => absurd hp (List.not_mem_nil)
  | _ :: _, h, p, hp => by
    rcases List.mem_cons.mp hp with rfl | hp
    · exact Nat.ne_of_lt h.1
    · exact allLt_ne h.2 p hp
theorem stepR_len : ∀ (l : List Int) (acc : List (Int × Int)), (l.foldl stepR acc).length ≤ acc.length + l.length
  | [], acc => by simp
  | x :: r, acc => by
    have h1 : (stepR acc x).length ≤ acc.length + 1 := by
      rcases acc with _ | ⟨⟨f, c⟩, q⟩
      · simp [stepR]
      · rw [stepR]; split <;> simp
    have := stepR_len r (stepR acc x)
    rw [List.foldl_cons, List.length_cons]; omega
theorem runs_small {rv : List RunO} {vs : List Value} {ns : List Int} {i : Nat} (hR : rv.map rPair = (ns.take i).foldl stepR []) (hV : vs = (rv.map rRef).reverse) (hf : Flag ns) : vs.length ≤ 600 := by
  have h1 := congrArg List.length hR
  have h2 := stepR_len (ns.take i) []
  have h3 := hf.1
  rw [List.length_map] at h1
  rw [List.length_take] at h2
  rw [hV, List.length_reverse, List.length_map, h1]
  simp at h2
  omega
theorem run_at {rv : List RunO} {vs : List Value} {ns : List Int} {i : Nat} {v : Value} (hR : rv.map rPair = ns.foldl stepR []) (hV : vs = (rv.map rRef).reverse) (hi : vs[i]? = some v) : ∃ r ∈ rv, v = .ref r.1 ∧ (runsOf ns)[i]? = some (rPair r) := by
  rw [hV, ← List.map_reverse, List.getElem?_map] at hi
  cases hr : rv.reverse[i]? with
  | none => rw [hr] at hi; cases hi
  | some r =>
    rw [hr] at hi
    refine ⟨r, List.mem_reverse.mp (List.mem_of_getElem? hr), (Option.some.inj hi).symm, ?_⟩
    rw [← runs_eq, ← hR, ← List.map_reverse, List.getElem?_map, hr]
    rfl
theorem run_len {rv : List RunO} {vs : List Value} {ns : List Int} (hR : rv.map rPair = ns.foldl stepR []) (hV : vs = (rv.map rRef).reverse) : vs.length = (runsOf ns).length := by
  rw [hV, List.length_reverse, List.length_map, ← runs_eq, ← hR, List.length_reverse, List.length_map]
theorem fold_snoc {ns : List Int} {i : Nat} (hj : i < ns.length) : (ns.take (i + 1)).foldl stepR [] = stepR ((ns.take i).foldl stepR []) (ns.getD i 0) := by
  rw [List.take_succ, List.foldl_append]
  simp [List.getElem?_eq_getElem hj, List.getD]
theorem wr_new0 {ns : List Int} {i : Nat} {l' : Addr} {t1 t2 : Tok} {n : Nat} (hR : ([] : List RunO).map rPair = (ns.take i).foldl stepR []) (hj : i < ns.length) :
    ([(l', ns.getD i 0, t1, 1, t2, n)] : List RunO).map rPair = (ns.take (i + 1)).foldl stepR [] := by
  rw [fold_snoc hj, ← hR]; rfl
theorem wr_new {r : RunO} {rest : List RunO} {ns : List Int} {i : Nat} {l' : Addr} {t1 t2 : Tok} {n : Nat} (hR : (r :: rest).map rPair = (ns.take i).foldl stepR []) (hj : i < ns.length) (h : ¬ (r.2.1 = ns.getD i 0 ∧ r.2.2.2.1 < 256)) :
    (((l', ns.getD i 0, t1, 1, t2, n) : RunO) :: r :: rest).map rPair = (ns.take (i + 1)).foldl stepR [] := by
  rw [fold_snoc hj, ← hR]
  show _ = stepR ((r.2.1, r.2.2.2.1) :: _) _
  rw [stepR, if_neg h]; rfl
theorem wr_inc {ra : Addr} {rf rc : Int} {a b t : Tok} {rn n : Nat} {rest : List RunO} {ns : List Int} {i : Nat} (hR : (((ra, rf, a, rc, b, rn) : RunO) :: rest).map rPair = (ns.take i).foldl stepR []) (hj : i < ns.length) (h : rf = ns.getD i 0) (h2 : rc < 256) :
    (((ra, rf, a, rc + 1, t, n) : RunO) :: rest).map rPair = (ns.take (i + 1)).foldl stepR [] := by
  rw [fold_snoc hj, ← hR]
  show _ = stepR ((rf, rc) :: _) _
  rw [stepR, if_pos ⟨h, h2⟩]; rfl
theorem ne_nil_f {lr le : Addr} {n n0 : Nat} {news : List (Addr × Obj)} (N : News h₀ L s.heap news) (h1 : (lr, W.listOf #[] n) ∈ news) (h2 : (le, W.listOf #[] n0) ∈ news) (hu : A.units < cLine) (h : Q (.bool false) s) :
    wpAny (model PySem.Challenge.rw_on0233_01.row.prog w) A (compareOp .NotEq (.ref lr) (.ref le)) Q E s :=
  cmp_ofNotEq (PySem.SeqAt.RcNeAt.lists (e := fun _ => true) (News.isList N h1) (News.isList N h2) rfl hu (fun j h _ => absurd h (Nat.not_lt_zero _)) _ _ _ _ h)
theorem ne_nil_t {lr le : Addr} {vs : List Value} {n n0 : Nat} {news : List (Addr × Obj)} (N : News h₀ L s.heap news) (h1 : (lr, W.listOf vs.toArray n) ∈ news) (h2 : (le, W.listOf #[] n0) ∈ news) (hv : 0 < vs.length) (hu : A.units < cLine) (h : Q (.bool true) s) :
    wpAny (model PySem.Challenge.rw_on0233_01.row.prog w) A (compareOp .NotEq (.ref lr) (.ref le)) Q E s :=
  cmp_ofNotEq (PySem.SeqAt.RcNeAt.lists_lengths (News.isList N h1) (News.isList N h2) (by simp only [bne_iff_ne, List.size_toArray]; exact fun e => by simp at e; rw [e] at hv; simp at hv) hu _ _ _ _ h)
section
theorem written_core {lf : Addr} {fvs : List Value} {ns : List Int} {fn : Nat}
    (C : Cx w pT lT mean mg mb A A₀ 480 1400 base h₀ outer env L m s.heap) (N : News h₀ L s.heap [(lf, W.listOf fvs.toArray fn)]) (hif : IntsAre fvs ns) (hf : Flag ns)
    (k : ∀ l d vs n tb h' tk', IntsAre vs (dueOf ns) → Fr h₀ L h' m → News h₀ L h' [(lf, W.listOf fvs.toArray fn), (l, { cls := .type "tuple", data := .seq #[.bytes (byteArr (enc ns)) tb, .ref d] }), (d, W.listOf vs.toArray n)] → Kept [lf] s.heap h' → s.heap.get? l = none → s.heap.get? d = none → Q (.ref l) { s with heap := h', toks := tk' }) :
    wpAny (model PySem.Challenge.rw_on0233_01.row.prog w) A (call (.ref 200) [.ref lf]) Q E s := by
  k_with_none
  k_with "omega" => first | with_reducible assumption | decide | (with_reducible exact oN1 (by with_reducible assumption) (by decide)) | (with_reducible exact oN2 (by with_reducible assumption) (by decide)) | (with_reducible exact oN3 (by with_reducible assumption) (by decide)) | (with_reducible exact oN4 (by with_reducible assumption) (by decide)) | (with_reducible exact oN5 (by with_reducible assumption) (by decide)) | (with_reducible exact oN6 (by with_reducible assumption) (by decide)) | (with_reducible exact oN7 (by with_reducible assumption) (by decide)) | (with_reducible exact oN8 (by with_reducible assumption) (by decide)) | (with_reducible exact oI1 (by with_reducible assumption) (by decide)) | (with_reducible exact oI2 (by with_reducible assumption) (by decide)) | (with_reducible exact oI3 (by with_reducible assumption) (by decide)) | (with_reducible exact oI4 (by with_reducible assumption) (by decide)) | (with_reducible exact oI5 (by with_reducible assumption) (by decide)) | (with_reducible exact oI6 (by with_reducible assumption) (by decide)) | (with_reducible exact oI7 (by with_reducible assumption) (by decide)) | (with_reducible exact oI8 (by with_reducible assumption) (by decide)) | fail
  k_with "k_pk" => first | exact lA0 | exact lA1 | exact lA2 | exact lA3 | exact lA4 | exact lE1 | exact lE2 | exact lE3 | exact lE4 | exact lE5 | (refine cF ?_; k_extra "k_pk")
  k_with "k_pe" => first | exact eA0 | exact eA1 | exact eA2 | exact eA3 | exact eA4 | exact eE1 | exact eE2 | exact eE3 | exact eE4 | exact eE5 | (refine cF ?_; k_extra "k_pe")
  k_with "k_ltN" => with_reducible first | assumption | exact pL (by with_reducible assumption) (by k_extra "k_pk")
  k_with "k_ne" => (refine neN ?_; (try dsimp only); first | (with_reducible first | exact n01 | exact n02 | exact n03 | exact n04 | exact n05 | exact n01.symm | exact n02.symm | exact n03.symm | exact n04.symm | exact n05.symm | with_reducible assumption | exact Ne.symm (by with_reducible assumption) | exact Nat.ne_of_lt (by k_extra "k_ltN") | exact Nat.ne_of_gt (by k_extra "k_ltN") | exact nS1 (by k_extra "k_ltN") | exact Ne.symm (nS1 (by k_extra "k_ltN")) | exact nS2 (by k_extra "k_ltN") | exact Ne.symm (nS2 (by k_extra "k_ltN")) | exact nS3 (by k_extra "k_ltN") | exact Ne.symm (nS3 (by k_extra "k_ltN")) | exact nS4 (by k_extra "k_ltN") | exact Ne.symm (nS4 (by k_extra "k_ltN")) | exact nS5 (by k_extra "k_ltN") | exact Ne.symm (nS5 (by k_extra "k_ltN")) | exact nS6 (by k_extra "k_ltN") | exact Ne.symm (nS6 (by k_extra "k_ltN")) | exact nT (by with_reducible assumption) (by k_extra "k_ltN") | exact Ne.symm (nT (by with_reducible assumption) (by k_extra "k_ltN")) | exact pN (by with_reducible assumption) (by k_extra "k_pe") | exact Ne.symm (pN (by with_reducible assumption) (by k_extra "k_pe"))) | omega)
  k_with "cell_enter" => ((refine' enter_call ?qzC ?qzN ?qzk6 ?qzk7 ?qzk8 ?qzk9 ?qzkB ?_ ?qzc2 ?qzc3 ?qzc4 ?qzc5; (case qzC => assumption); (case qzN => assumption); (case qzk6 => k_is); (case qzk7 => k_is); (case qzk8 => decide); (case qzk9 => exact BindsTo.of_eq rfl); (case qzc5 => decide); (case qzkB => exact locs rfl); (case qzc2 => exact rfl); (case qzc3 => exact rfl); (case qzc4 => exact rfl); k_whole; intro g'z L'z h'z X0'z T0'z G'z nL'z F'z N'z B'z X'z T'z; (try dsimp only); (try k_fold)))
  k_with "exec For Name Name cons nil" => ((k_here; (rename Fr _ _ _ _ => lF'z); (with_unfolding_all refine' For_turns lF'z ?_); k_whole))
  k_with "exec For Tuple Name cons nil" => ((k_here; (rename Fr _ _ _ _ => lF'z); (with_unfolding_all refine' For_turns lF'z ?_); k_whole))
  k_with "ksw_same" => ((intro z h2 h3; (try simp only [List.forall_mem_cons, List.not_mem_nil, false_implies, implies_true, and_true, ne_eq] at h2); (try simp only [List.contains_cons, List.contains_nil, Bool.or_false, Bool.or_eq_false_iff, beq_eq_false_iff_ne, ne_eq] at h3); (simp [kstB, h2, h3]; done)))
  k_with "TsEnd" => (((rename News _ _ _ _ => nE'z); (try simp only [List.push_toArray] at nE'z); k_dflt (k_extra "state")))
  k_with "pyIter" => ((k_here; (show wpAny _ _ (pyIter (Value.ref _)) _ _ _)))
  k_with "TsPost" => (dsimp only [TsPost])
  k_with "k_all" => (assumption)
  k_with "compareOp NotEq ref ref" => ((k_here; k_dflt (refine' ne_nil_t ?qzN ?qzh1 ?qzh2 ?qzhv ?qzhu ?_; (case qzN => k_asm); (case qzh1 => k_mem); (case qzh2 => k_mem); (case qzhv => assumption); (case qzhu => exact Nat.le_of_ble_eq_true rfl); k_whole)))
  k_with "compareOp NotEq ref ref" => ((k_here; k_dflt (refine' ne_nil_f ?qzN ?qzh1 ?qzh2 ?qzhu ?_; (case qzN => k_asm); (case qzh1 => k_mem); (case qzh2 => k_mem); (case qzhu => exact Nat.le_of_ble_eq_true rfl); k_whole)))
  k_with "subscriptTail Name" => ((k_here; k_dflt (refine' last_any ?qzN ?qzhm ?qzhx ?_ ?qzhs; (case qzN => k_asm); (case qzhm => k_mem); (case qzhx => assumption); (case qzhs => with_unfolding_all rfl); k_whole)))
  k_with "subscriptTail Name UnaryOp" => ((k_here; k_dflt (refine' last_any ?qzN ?qzhm ?qzhx ?_ ?qzhs; (case qzN => k_asm); (case qzhm => k_mem); (case qzhx => assumption); (case qzhs => with_unfolding_all rfl); k_whole)))
  k_with "subscriptTail Name UnaryOp ref" => ((k_here; k_dflt (refine' last_any ?qzN ?qzhm ?qzhx ?_ ?qzhs; (case qzN => k_asm); (case qzhm => k_mem); (case qzhx => assumption); (case qzhs => with_unfolding_all rfl); k_whole)))
  k_with "subscriptTail Name UnaryOp ref int" => ((k_here; k_dflt (refine' last_any ?qzN ?qzhm ?qzhx ?_ ?qzhs; (case qzN => k_asm); (case qzhm => k_mem); (case qzhx => assumption); (case qzhs => with_unfolding_all rfl); k_whole)))
  k_with "subscriptTail Subscript" => ((k_here; (with_reducible show wpAny _ _ (subscriptTail _ _ _ (Value.int 0 _)) _ _ _); k_dflt (refine' item2_0 ?qzN ?qzhm (fun t'z => ?_) ?qzhs; (case qzN => k_asm); (case qzhm => k_mem); (case qzhs => with_unfolding_all rfl); k_whole)))
  k_with "subscriptTail Subscript" => ((k_here; (with_reducible show wpAny _ _ (subscriptTail _ _ _ (Value.int 1 _)) _ _ _); k_dflt (refine' item2_1 ?qzN ?qzhm (fun t'z => ?_) ?qzhs; (case qzN => k_asm); (case qzhm => k_mem); (case qzhs => with_unfolding_all rfl); k_whole)))
  k_with "subscriptTail Subscript Constant" => ((k_here; (with_reducible show wpAny _ _ (subscriptTail _ _ _ (Value.int 0 _)) _ _ _); k_dflt (refine' item2_0 ?qzN ?qzhm (fun t'z => ?_) ?qzhs; (case qzN => k_asm); (case qzhm => k_mem); (case qzhs => with_unfolding_all rfl); k_whole)))
  k_with "subscriptTail Subscript Constant" => ((k_here; (with_reducible show wpAny _ _ (subscriptTail _ _ _ (Value.int 1 _)) _ _ _); k_dflt (refine' item2_1 ?qzN ?qzhm (fun t'z => ?_) ?qzhs; (case qzN => k_asm); (case qzhm => k_mem); (case qzhs => with_unfolding_all rfl); k_whole)))
  k_with "subscriptTail Subscript Constant ref" => ((k_here; (with_reducible show wpAny _ _ (subscriptTail _ _ _ (Value.int 0 _)) _ _ _); k_dflt (refine' item2_0 ?qzN ?qzhm (fun t'z => ?_) ?qzhs; (case qzN => k_asm); (case qzhm => k_mem); (case qzhs => with_unfolding_all rfl); k_whole)))
  k_with "subscriptTail Subscript Constant ref" => ((k_here; (with_reducible show wpAny _ _ (subscriptTail _ _ _ (Value.int 1 _)) _ _ _); k_dflt (refine' item2_1 ?qzN ?qzhm (fun t'z => ?_) ?qzhs; (case qzN => k_asm); (case qzhm => k_mem); (case qzhs => with_unfolding_all rfl); k_whole)))
  k_with "subscriptTail Subscript Constant ref int" => ((k_here; (with_reducible show wpAny _ _ (subscriptTail _ _ _ (Value.int 0 _)) _ _ _); k_dflt (refine' item2_0 ?qzN ?qzhm (fun t'z => ?_) ?qzhs; (case qzN => k_asm); (case qzhm => k_mem); (case qzhs => with_unfolding_all rfl); k_whole)))
  k_with "subscriptTail Subscript Constant ref int" => ((k_here; (with_reducible show wpAny _ _ (subscriptTail _ _ _ (Value.int 1 _)) _ _ _); k_dflt (refine' item2_1 ?qzN ?qzhm (fun t'z => ?_) ?qzhs; (case qzN => k_asm); (case qzhm => k_mem); (case qzhs => with_unfolding_all rfl); k_whole)))
  k_with "binaryOp Mult ref int" => ((k_here; k_dflt (refine' rep1 ?qzF ?qzN ?qzhm ?qzh0 ?qzh1 ?_; (case qzF => k_asm); (case qzN => k_asm); (case qzhm => k_mem); (case qzh0 => omega); (case qzh1 => omega); k_whole); intro l'z h'z F'z N'z hi'z hl'z l1; (try k_lt l1); (try k_sweep)))
  k_with "binaryOp Add ref ref" => ((k_here; k_dflt (refine' add2 ?qzF ?qzN ?qzh1 ?qzh2 ?qzhi ?qzhj ?qzha ?qzhc ?qzz ?_; (case qzF => k_asm); (case qzN => k_asm); (case qzh1 => k_mem); (case qzh2 => k_mem); (case qzhi => first | assumption | l_intsW); (case qzhj => first | assumption | l_intsW); (case qzha => first | assumption | exact Nat.le_refl _); (case qzhc => first | assumption | exact Nat.le_refl _); (case qzz => decide); k_whole); intro l'z h'z F'z N'z hi'z hl'z l1; (try k_lt l1); (try k_sweep)))
  k_with "call type:bytes" => ((k_here; k_dflt (refine' by_make ?qzF ?qzN ?qzhh ?qzhm ?qzhi ?qzhr ?qzhn ?_; (case qzF => k_asm); (case qzN => k_asm); (case qzhh => exact rfl); (case qzhm => k_mem); (case qzhi => assumption); (case qzhr => assumption); (case qzhn => omega); k_whole); intro h'z t'z k'z F'z N'z z'z; (try k_sweep)))
  k_dflt cell_enter
  clear C N
  k_with "pyIter ref" => first
    | ((with_reducible show wpAny _ _ (pyIter (Value.ref lr)) _ _ _)
       refine' ts_list (l := lr) (vs := vs) (nn := nn) (σ := Addr × List Value × Nat × Addr × List Value × Nat) (fun c => [(c.1, W.listOf c.2.1.toArray c.2.2.1), (c.2.2.2.1, W.listOf c.2.2.2.2.1.toArray c.2.2.2.2.2), (lr, W.listOf vs.toArray nn), (lf, W.listOf fvs.toArray fn)] ++ rv.map rObj) (fun c => [(Str.ofString "found", .ref c.1), (Str.ofString "due", .ref c.2.2.2.1)]) [Str.ofString "flag", Str.ofString "many"]
         (fun i c => IntsAre c.2.1 (((runsOf ns).take i).flatMap octR) ∧ IntsAre c.2.2.2.2.1 (((runsOf ns).take i).flatMap dueR) ∧ @LT.lt Nat _ lf c.2.2.2.1 ∧ s.heap.get? c.2.2.2.1 = none) (l1, [], 0, l2, [], 0) ?hh ?hL ?F ?N ?hsub ?hk ?hp ?turn2 ?done2
       case hh => rfl
       case hL => exact fun c => List.mem_of_getElem? (i := 2) rfl
       case F => assumption
       case N => assumption
       case hk => exact List.forall_mem_cons.mpr ⟨by rfl, List.forall_mem_cons.mpr ⟨by rfl, List.forall_mem_nil _⟩⟩
       case hsub => exact List.forall_mem_cons.mpr ⟨by k_mem, List.forall_mem_cons.mpr ⟨by k_mem, List.forall_mem_cons.mpr ⟨by k_mem, List.forall_mem_cons.mpr ⟨by k_mem, fun p hp => by (repeat (first | exact hp | apply List.Mem.tail))⟩⟩⟩⟩
       case hp => exact ⟨.nil, .nil, hap.2.2.1, Gr.fresh (by assumption) (by assumption) (by k_mem) (off1 (by k_ne))⟩
       case' turn2 =>
         rintro i v ⟨d1, ws1, n1, d2, ws2, n2⟩ I io u hh tk hi ⟨hI1, hI2, hd1, hd2⟩ hne F1 N1
         obtain ⟨⟨ra, rf, rft, rc, rct, rn⟩, hrm, rfl, hrun⟩ := run_at hR hV hi
         have hrm' := List.mem_map_of_mem (f := rObj) hrm
         have N1 := news_sub (l' := (I, io) :: (d1, W.listOf ws1.toArray n1) :: (d2, W.listOf ws2.toArray n2) :: (lr, W.listOf vs.toArray nn) :: (lf, W.listOf fvs.toArray fn) :: (ra, W.listOf #[.int rf rft, .int rc rct] rn) :: rv.map rObj) N1
           (List.forall_mem_cons.mpr ⟨by k_mem, List.forall_mem_cons.mpr ⟨by k_mem, List.forall_mem_cons.mpr ⟨by k_mem, List.forall_mem_cons.mpr ⟨by k_mem, List.forall_mem_cons.mpr ⟨by k_mem, List.forall_mem_cons.mpr ⟨.tail _ (List.mem_append_right _ hrm'), fun p hp => .tail _ (List.mem_append_right _ hp)⟩⟩⟩⟩⟩⟩)
         have hneT : ∀ q ∈ rv.map rObj, q.1 ≠ I := fun q hq => allNe_mem hne q (List.mem_append_right _ hq)
         (try dsimp only [AllNe, List.cons_append, List.nil_append] at hne)
         (try dsimp only at hI1 hI2 hd1 hd2 F1 N1 ⊢)
         obtain ⟨hrk1, hrk2, hrk3⟩ := runs_ok ns hf.2 _ (List.mem_of_getElem? hrun)
         have hrun' : (runsOf ns)[i]? = some (rf, rc) := hrun
         have hb1 := (oct_take hf i).1
         have hb2 := (oct_take hf i).2
         (try dsimp only at hrk1 hrk2 hrk3)
         (show wpAny (model _ w) _ _ _ _ _)
         (try k_fold)
       case' done2 =>
         rintro ⟨d1, ws1, n1, d2, ws2, n2⟩ u hh tk ⟨hI1, hI2, hd1, hd2⟩ F1 N1
         rw [hrl, List.take_length] at hI1 hI2
         rw [oct_enc] at hI1
         (try dsimp only [List.cons_append, List.nil_append] at N1)
         (try dsimp only at hI1 hI2 hd1 hd2 F1 N1 ⊢)
         have hb1 := enc_len hf.2
         have hb2 := hf.1
         have hb3 := enc_in8 hf.2
         (try k_fold))
    | (refine' ts_list (σ := Addr × Addr × Addr × List RunO × List Value × Nat) (fun c => [(c.1, W.listOf c.2.2.2.2.1.toArray c.2.2.2.2.2), (c.2.1, W.listOf #[] 0), (c.2.2.1, W.listOf #[] 0), (lf, W.listOf fvs.toArray fn)] ++ c.2.2.2.1.map rObj) (fun c => [(Str.ofString "runs", .ref c.1), (Str.ofString "found", .ref c.2.1), (Str.ofString "due", .ref c.2.2.1)]) [Str.ofString "flag"]
         (fun i c => c.2.2.2.1.map rPair = (ns.take i).foldl stepR [] ∧ c.2.2.2.2.1 = (c.2.2.2.1.map rRef).reverse ∧ Dis c.2.2.2.1 ∧ (∀ q ∈ c.2.2.2.1.map rObj, q.1 ≠ c.1) ∧ (∀ q ∈ c.2.2.2.1.map rObj, @LT.lt Nat _ lf q.1 ∧ @LT.lt Nat _ c.1 q.1 ∧ @LT.lt Nat _ c.2.1 q.1 ∧ @LT.lt Nat _ c.2.2.1 q.1) ∧
           (@LT.lt Nat _ lf c.1 ∧ @LT.lt Nat _ lf c.2.1 ∧ @LT.lt Nat _ lf c.2.2.1 ∧ @Ne Nat c.1 c.2.1 ∧ @Ne Nat c.1 c.2.2.1 ∧ @Ne Nat c.2.1 c.2.2.1)) (_, _, _, [], [], 0) ?hh ?hL ?F ?N ?hsub ?hk ?hp ?turn ?done
       case hh => rfl
       case hL => exact fun c => List.mem_of_getElem? (i := 3) rfl
       case F => assumption
       case N => assumption
       case hk => refine' List.forall_mem_cons.mpr ⟨?a, List.forall_mem_cons.mpr ⟨?b, List.forall_mem_cons.mpr ⟨?c, List.forall_mem_nil _⟩⟩⟩; (case a => rfl); (case b => rfl); (case c => rfl)
       case hsub => kst_in
       case hp => exact ⟨by simp, rfl, trivial, by simp, by simp, by (try dsimp only); omega⟩
       case' turn =>
         rintro i v ⟨lr, l1, l2, rv, vs, nn⟩ I io u hh tk hi ⟨hR, hV, hD, hA, hlo, hap⟩ hne F1 N1
         obtain ⟨hj, tv, rfl⟩ := ints_at hif hi
         (try dsimp only at hR hV hD hA hlo hap F1 N1 ⊢)
         have hneT : ∀ q ∈ rv.map rObj, q.1 ≠ I := fun q hq => allNe_mem hne q (List.mem_append_right _ hq)
         have hcons : ∀ r rest, rv = r :: rest → (∀ q ∈ rest.map rObj, q.1 ≠ lr) ∧ (∀ q ∈ rest.map rObj, q.1 ≠ r.1) ∧ (@LT.lt Nat _ lf r.1 ∧ @LT.lt Nat _ lr r.1 ∧ @LT.lt Nat _ l1 r.1 ∧ @LT.lt Nat _ l2 r.1) ∧ (∀ q ∈ rest.map rObj, q.1 ≠ I) := fun r rest e => by
           subst e
           exact ⟨fun q hq => hA q (.tail _ hq), hD.1, hlo (rObj r) (.head _), fun q hq => hneT q (.tail _ hq)⟩
         have hxx : ∀ r rest, rv = r :: rest → vs[vs.length - 1]? = some (.ref r.1) ∧ 0 < vs.length := fun r rest e => by rw [hV, e]; simp
         have hvl := runs_small hR hV hf
         rcases rv with _ | ⟨⟨ra, rf, rft, rc, rct, rn⟩, rest⟩
         all_goals (try (obtain ⟨hx', hv'⟩ := hxx _ _ rfl; dsimp only at hx'))
         all_goals (try (obtain ⟨hc1, hc2, hc3, hc4⟩ := hcons _ _ rfl; dsimp only at hc2 hc3))
         all_goals (try (have hv0 : vs = [] := hV; subst hv0))
         all_goals (try dsimp only [AllNe, rObj, rRef, rPair, List.cons_append, List.nil_append, List.map, List.reverse_nil] at hne)
         all_goals (try dsimp only [AllNe, rObj, rRef, rPair, List.cons_append, List.nil_append, List.map, List.reverse_nil] at hV)
         all_goals (try dsimp only [AllNe, rObj, rRef, rPair, List.cons_append, List.nil_append, List.map, List.reverse_nil] at hA)
         all_goals (try dsimp only [AllNe, rObj, rRef, rPair, List.cons_append, List.nil_append, List.map, List.reverse_nil] at hlo)
         all_goals (try dsimp only [AllNe, rObj, rRef, rPair, List.cons_append, List.nil_append, List.map, List.reverse_nil] at N1)
         all_goals (try dsimp only [AllNe, rObj, rRef, rPair, List.cons_append, List.nil_append, List.map, List.reverse_nil] at hneT)
         all_goals (try dsimp only [AllNe, rObj, rRef, rPair, List.cons_append, List.nil_append, List.map, List.reverse_nil] at hc2)
         all_goals (try dsimp only [AllNe, rObj, rRef, rPair, List.cons_append, List.nil_append, List.map, List.reverse_nil] at hc3)
         all_goals (try dsimp only [AllNe, rObj, rRef, rPair, List.cons_append, List.nil_append, List.map, List.reverse_nil] at hR)
         all_goals (try dsimp only [AllNe, rObj, rRef, rPair, List.cons_append, List.nil_append, List.map, List.reverse_nil] at hD)
         all_goals (try k_fold)
       case' done =>
         rintro ⟨lr, l1, l2, rv, vs, nn⟩ u hh tk ⟨hR, hV, hD, hA, hlo, hap⟩ F1 N1
         rw [hif.length] at hR
         (try dsimp only at hR hV hD hA hlo hap F1 N1 ⊢)
         rw [List.take_length] at hR
         have hrl := run_len hR hV
         (try dsimp only [kstB] at F1)
         (try k_fold))
  k_with "state" => first
    | (refine' TsEnd.intro (lr, l1, l2, (_, _, _, _, _, _) :: (ra, rf, rft, rc, rct, rn) :: rest, _, _) ?F (by assumption) ?hs ?hn ?hk ?hr ?hp
       case F => assumption
       case hk => exact List.forall_mem_cons.mpr ⟨by rfl, List.forall_mem_cons.mpr ⟨by rfl, List.forall_mem_cons.mpr ⟨by rfl, List.forall_mem_nil _⟩⟩⟩
       case hs => exact List.forall_mem_cons.mpr ⟨by k_mem, List.forall_mem_cons.mpr ⟨by k_mem, List.forall_mem_cons.mpr ⟨by k_mem, List.forall_mem_cons.mpr ⟨by k_mem, List.forall_mem_cons.mpr ⟨by k_mem, List.forall_mem_cons.mpr ⟨by k_mem, List.forall_mem_cons.mpr ⟨by k_mem, fun p hp => by (repeat (first | exact hp | apply List.Mem.tail))⟩⟩⟩⟩⟩⟩⟩
       case hn => exact List.forall_mem_cons.mpr ⟨by k_ne, List.forall_mem_cons.mpr ⟨by k_ne, List.forall_mem_cons.mpr ⟨by k_ne, List.forall_mem_cons.mpr ⟨by k_ne, List.forall_mem_cons.mpr ⟨by k_ne, List.forall_mem_cons.mpr ⟨by k_ne, hc4⟩⟩⟩⟩⟩⟩
       case hr => ksw_same
       case hp => (rename (_ ∧ _ ∧ _ ∧ _ ∧ _ ∧ _ ∧ _ ∧ AllLt _ _) => hl1); exact ⟨wr_new (r := (ra, rf, rft, rc, rct, rn)) hR hj (by (try dsimp only); omega), by ((try dsimp only [List.map, rRef]); rw [hV]; simp), ⟨List.forall_mem_cons.mpr ⟨by k_ne, allLt_ne hl1.2.2.2.2.2.2.2⟩, hD⟩, List.forall_mem_cons.mpr ⟨by k_ne, hA⟩, List.forall_mem_cons.mpr ⟨by (try dsimp only); omega, hlo⟩, hap⟩)
    | (refine' TsEnd.intro (lr, l1, l2, (ra, _, _, _, _, _) :: rest, _, _) ?F (by assumption) ?hs ?hn ?hk ?hr ?hp
       case F => assumption
       case hk => exact List.forall_mem_cons.mpr ⟨by rfl, List.forall_mem_cons.mpr ⟨by rfl, List.forall_mem_cons.mpr ⟨by rfl, List.forall_mem_nil _⟩⟩⟩
       case hs => exact List.forall_mem_cons.mpr ⟨by k_mem, List.forall_mem_cons.mpr ⟨by k_mem, List.forall_mem_cons.mpr ⟨by k_mem, List.forall_mem_cons.mpr ⟨by k_mem, List.forall_mem_cons.mpr ⟨by k_mem, List.forall_mem_cons.mpr ⟨by k_mem, fun p hp => by (repeat (first | exact hp | apply List.Mem.tail))⟩⟩⟩⟩⟩⟩
       case hn => exact List.forall_mem_cons.mpr ⟨by k_ne, List.forall_mem_cons.mpr ⟨by k_ne, List.forall_mem_cons.mpr ⟨by k_ne, List.forall_mem_cons.mpr ⟨by k_ne, List.forall_mem_cons.mpr ⟨by k_ne, hc4⟩⟩⟩⟩⟩
       case hr => ksw_same
       case hp => exact ⟨wr_inc (b := rct) (rn := rn) hR hj (by assumption) (by assumption), hV, ⟨hD.1, hD.2⟩, List.forall_mem_cons.mpr ⟨by k_ne, hc1⟩, List.forall_mem_cons.mpr ⟨hc3, fun q hq => hlo q (.tail _ hq)⟩, hap⟩)
    | (refine' TsEnd.intro (lr, l1, l2, [(_, _, _, _, _, _)], _, _) ?F (by assumption) ?hs ?hn ?hk ?hr ?hp
       case F => assumption
       case hk => exact List.forall_mem_cons.mpr ⟨by rfl, List.forall_mem_cons.mpr ⟨by rfl, List.forall_mem_cons.mpr ⟨by rfl, List.forall_mem_nil _⟩⟩⟩
       case hs => exact List.forall_mem_cons.mpr ⟨by k_mem, List.forall_mem_cons.mpr ⟨by k_mem, List.forall_mem_cons.mpr ⟨by k_mem, List.forall_mem_cons.mpr ⟨by k_mem, List.forall_mem_cons.mpr ⟨by k_mem, List.forall_mem_cons.mpr ⟨by k_mem, List.forall_mem_nil _⟩⟩⟩⟩⟩⟩
       case hn => exact List.forall_mem_cons.mpr ⟨by k_ne, List.forall_mem_cons.mpr ⟨by k_ne, List.forall_mem_cons.mpr ⟨by k_ne, List.forall_mem_cons.mpr ⟨by k_ne, List.forall_mem_cons.mpr ⟨by k_ne, List.forall_mem_nil _⟩⟩⟩⟩⟩
       case hr => ksw_same
       case hp => exact ⟨wr_new0 hR hj, by simp, ⟨List.forall_mem_nil _, trivial⟩, List.forall_mem_cons.mpr ⟨by k_ne, List.forall_mem_nil _⟩, List.forall_mem_cons.mpr ⟨by (try dsimp only); omega, List.forall_mem_nil _⟩, hap⟩)
    | (refine' TsEnd.intro (_, _, _, _, _, _) ?F (by assumption) ?hs ?hn ?hk ?hr ?hp
       case F => assumption
       case hk => exact List.forall_mem_cons.mpr ⟨by rfl, List.forall_mem_cons.mpr ⟨by rfl, List.forall_mem_nil _⟩⟩
       case hs => exact List.forall_mem_cons.mpr ⟨by k_mem, List.forall_mem_cons.mpr ⟨by k_mem, List.forall_mem_cons.mpr ⟨by k_mem, List.forall_mem_cons.mpr ⟨by k_mem, List.forall_mem_cons.mpr ⟨by k_mem, fun p hp => by (repeat (first | exact hp | apply List.Mem.tail))⟩⟩⟩⟩⟩
       case hn => exact List.forall_mem_cons.mpr ⟨by k_ne, List.forall_mem_cons.mpr ⟨by k_ne, List.forall_mem_cons.mpr ⟨by k_ne, List.forall_mem_cons.mpr ⟨by k_ne, hneT⟩⟩⟩⟩
       case hr => ksw_same
       case hp => first
         | exact ⟨by rw [take_flat hrun', oct_long (by omega)]; assumption, by rw [take_flat hrun', due_any]; assumption, by (try dsimp only); omega, Gr.fresh (by assumption) (by assumption) (by k_mem) (off1 (by k_ne))⟩
         | exact ⟨by rw [take_flat hrun', oct_short (by omega)]; assumption, by rw [take_flat hrun', due_any]; assumption, by (try dsimp only); omega, Gr.fresh (by assumption) (by assumption) (by k_mem) (off1 (by k_ne))⟩)
  w_top off
  k_steps
  exact k _ _ _ _ _ _ _ hI2 (by assumption) (news_sub (by assumption) (List.forall_mem_cons.mpr ⟨by k_mem, List.forall_mem_cons.mpr ⟨by k_mem, List.forall_mem_cons.mpr ⟨by k_mem, List.forall_mem_nil _⟩⟩⟩)) (kept_of (by assumption) (by assumption) (by rfl)) (Gr.fresh (by assumption) (by assumption) (by k_mem) (off1 (by k_ne))) hd2
end
end
end Mine

namespace Mine
section
variable {w : World} {pT : Program} {lT : List Str} {mean : ExcName → Option Value} {mg mb : Str → Option Value} {A A₀ : Around} {base h₀ : Heap} {outer : List Env} {env : Env} {L : Addr} {m : Str → Option Value} {s : Shared} {Q E : Value → Shared → Prop} {news : List (Addr × Obj)} {g : Obj → List (Addr × Obj)}
theorem keptD {h h' : Heap} {b : Addr} {o : Obj} {mods : List Addr} (K : Kept (b :: mods) h h') (e : h.get? b = some o) (e' : h'.get? b = some o) : Kept mods h h' := fun a oa ha hn => by
  by_cases q : a = b
  · rw [q] at ha ⊢; rw [e] at ha; rw [← Option.some.inj ha]; exact e'
  · exact K a oa ha (by simp [q, hn])
theorem written_x {lf : Addr} {fvs : List Value} {ns : List Int} {fn : Nat}
    (C : Cx w pT lT mean mg mb A A₀ 480 1400 base h₀ outer env L m s.heap) (N : News h₀ L s.heap news) (hm : (lf, W.listOf fvs.toArray fn) ∈ news) (hif : IntsAre fvs ns) (hf : Flag ns)
    (k : ∀ l d vs n tb h' tk', IntsAre vs (dueOf ns) → Fr h₀ L h' m → News h₀ L h' ((l, ({ cls := .type "tuple", data := .seq #[.bytes (byteArr (enc ns)) tb, .ref d] } : Obj)) :: (d, W.listOf vs.toArray n) :: news) → AllNe l news → AllNe d news → Q (.ref l) { s with heap := h', toks := tk' }) :
    wpAny (model PySem.Challenge.rw_on0233_01.row.prog w) A (call (.ref 200) [.ref lf]) Q E s :=
  written_core C (fun p hp => by rw [List.mem_singleton.mp hp]; exact N _ hm) hif hf fun l d vs n tb h' tk' hi F' N' K hl hd' => by
    have K0 : Kept [] s.heap h' := keptD K (N _ hm).1 (N' _ (.head _)).1
    refine k l d vs n tb h' tk' hi F' (fun p hp => ?_) (new_ne N hl) (new_ne N hd')
    rcases List.mem_cons.mp hp with rfl | hp
    · exact N' _ (.tail _ (.head _))
    · rcases List.mem_cons.mp hp with rfl | hp
      · exact N' _ (.tail _ (.tail _ (.head _)))
      · exact ⟨K0 _ _ (N p hp).1 (by simp), (N p hp).2⟩
theorem rflags_x {x dx : Addr} {ks : List Int} {count : Int} {k1 k2 t ta tc : Tok}
    (C : Cx w pT lT mean mg mb A A₀ 520 1600 base h₀ outer env L m s.heap) (N : News h₀ L s.heap news) (hm : (x, W.instObj 126 dx) ∈ news) (U : UpdF dx (octD w k1 k2 ks t 0 ta) news g) (hr : In8 ks) (hl : ks.length ≤ 5000) (h0 : 0 ≤ count) (h1 : count ≤ 600) (hd : @LT.lt Nat _ dx x)
    (k : ∀ fs at', rdF ks count.toNat = some (fs, at'.toNat) → ∀ l vs n ta' h' tk', IntsAre vs fs → Fr h₀ L h' m → News h₀ L h' ((l, W.listOf vs.toArray n) :: g (octD w k1 k2 ks t at' ta')) → 0 ≤ at' → fs.length ≤ 900 → AllNe l news → Q (.ref l) { s with heap := h', toks := tk' })
    (ke : rdF ks count.toNat = none → ∀ e h' tk', Flew s.heap [x, dx] (env :: outer) e h' → E (.ref e) { s with heap := h', toks := tk' }) :
    wpAny (model PySem.Challenge.rw_on0233_01.row.prog w) A (call (.ref 137) [.ref x, .int count tc]) Q E s :=
  rflags_core C (pair_of U hm N) hr hl h0 h1 hd (fun fs at' e l vs n ta' h' tk' hi F' N' h0' h1' K' hn => k fs at' e l vs n ta' h' tk' hi F'
    (List.forall_mem_cons.mpr ⟨N' _ (.tail _ (.tail _ (.head _))), back2 U hm N (news_sub N' (List.forall_mem_cons.mpr ⟨.head _, List.forall_mem_cons.mpr ⟨.tail _ (.head _), List.forall_mem_nil _⟩⟩)) K'⟩) h0' h1' (new_ne N hn)) ke
theorem rends_x {x dx : Addr} {ks : List Int} {many : Int} {k1 k2 t ta tc : Tok}
    (C : Cx w pT lT mean mg mb A A₀ 520 1600 base h₀ outer env L m s.heap) (N : News h₀ L s.heap news) (hm : (x, W.instObj 126 dx) ∈ news) (U : UpdF dx (octD w k1 k2 ks t 0 ta) news g) (hr : In8 ks) (hl : ks.length ≤ 5000) (h0 : 0 ≤ many) (h1 : many ≤ 600) (hd : @LT.lt Nat _ dx x)
    (k : ∀ fs, rdE ks 0 many.toNat (-1) = some fs → ∀ l vs n at' ta' h' tk', IntsAre vs fs → Fr h₀ L h' m → News h₀ L h' ((l, W.listOf vs.toArray n) :: g (octD w k1 k2 ks t at' ta')) → AllNe l news → Q (.ref l) { s with heap := h', toks := tk' })
    (ke : rdE ks 0 many.toNat (-1) = none → ∀ e h' tk', Flew s.heap [x, dx] (env :: outer) e h' → E (.ref e) { s with heap := h', toks := tk' }) :
    wpAny (model PySem.Challenge.rw_on0233_01.row.prog w) A (call (.ref 151) [.ref x, .int many tc]) Q E s :=
  rends_core C (pair_of U hm N) hr hl h0 h1 hd (fun fs e l vs n at' ta' h' tk' hi F' N' K' hn => k fs e l vs n at' ta' h' tk' hi F'
    (List.forall_mem_cons.mpr ⟨N' _ (.tail _ (.tail _ (.head _))), back2 U hm N (news_sub N' (List.forall_mem_cons.mpr ⟨.head _, List.forall_mem_cons.mpr ⟨.tail _ (.head _), List.forall_mem_nil _⟩⟩)) K'⟩) (new_ne N hn)) ke
theorem rdeltas_x {x dx lf : Addr} {ks fls : List Int} {fvs : List Value} {fn : Nat} {sh sm : Int} {k1 k2 t ta tc td : Tok}
    (C : Cx w pT lT mean mg mb A A₀ 520 1600 base h₀ outer env L m s.heap) (N : News h₀ L s.heap news) (hm : (x, W.instObj 126 dx) ∈ news) (U : UpdF dx (octD w k1 k2 ks t 0 ta) news g) (hlm : (lf, W.listOf fvs.toArray fn) ∈ news) (hr : In8 ks) (hl : ks.length ≤ 5000) (hif : IntsAre fvs fls) (hfl : fls.length ≤ 600) (hd : @LT.lt Nat _ dx x) (hd1 : @Ne Nat lf x) (hd2 : @Ne Nat lf dx)
    (k : ∀ fs at', rdD sh sm ks fls 0 0 = some (fs, at'.toNat) → ∀ l vs n ta' h' tk', IntsAre vs fs → 0 ≤ at' → Fr h₀ L h' m → News h₀ L h' ((l, W.listOf vs.toArray n) :: g (octD w k1 k2 ks t at' ta')) → AllNe l news → Q (.ref l) { s with heap := h', toks := tk' })
    (ke : rdD sh sm ks fls 0 0 = none → ∀ e h' tk', Flew s.heap [x, dx] (env :: outer) e h' → E (.ref e) { s with heap := h', toks := tk' }) :
    wpAny (model PySem.Challenge.rw_on0233_01.row.prog w) A (call (.ref 144) [.ref x, .ref lf, .int sh tc, .int sm td]) Q E s :=
  rdeltas_core C (List.forall_mem_cons.mpr ⟨N _ hm, List.forall_mem_cons.mpr ⟨of_upd U N _ (.head _), List.forall_mem_cons.mpr ⟨N _ hlm, List.forall_mem_nil _⟩⟩⟩) hr hl hif hfl hd hd1 hd2 (fun fs at' e l vs n ta' h' tk' hi h0' F' N' K' hn => by
    have K2 : Kept [x, dx] s.heap h' := by
      refine keptD (b := lf) (o := W.listOf fvs.toArray fn) (fun a oa ha hna => K' a oa ha fun q => hna ?_) (N _ hlm).1 (N' _ (.tail _ (.tail _ (.head _)))).1
      rcases List.mem_cons.mp q with rfl | q
      · exact .tail _ (.head _)
      · rcases List.mem_cons.mp q with rfl | q
        · exact .tail _ (.tail _ (.head _))
        · rw [List.mem_singleton.mp q]; exact .head _
    exact k fs at' e l vs n ta' h' tk' hi h0' F'
      (List.forall_mem_cons.mpr ⟨N' _ (.tail _ (.tail _ (.tail _ (.head _)))), back2 U hm N (news_sub N' (List.forall_mem_cons.mpr ⟨.head _, List.forall_mem_cons.mpr ⟨.tail _ (.head _), List.forall_mem_nil _⟩⟩)) K2⟩) (new_ne N hn)) ke
theorem axis_x {step sh sm : Int} {t ta tb : Tok}
    (C : Cx w pT lT mean mg mb A A₀ 540 1700 base h₀ outer env L m s.heap) (N : News h₀ L s.heap news) (hs : ShSm sh sm)
    (k : ∀ f b, axF step sh sm = some (f, b) → ∀ l tf tb h' tk', Fr h₀ L h' m → News h₀ L h' ((l, pairO f tf b tb) :: news) → AllNe l news → Q (.ref l) { s with heap := h', toks := tk' })
    (ke : axF step sh sm = none → ∀ e h' tk', Flew s.heap [] (env :: outer) e h' → E (.ref e) { s with heap := h', toks := tk' }) :
    wpAny (model PySem.Challenge.rw_on0233_01.row.prog w) A (call (.ref 158) [.int step t, .int sh ta, .int sm tb]) Q E s :=
  axis_core C (fun p hp => absurd hp (by simp)) hs (fun f b e l tf tb h' tk' F' N' K' hn => k f b e l tf tb h' tk' F' (List.forall_mem_cons.mpr ⟨N' _ (.head _), fun p hp => ⟨K' _ _ (N p hp).1 (by simp), (N p hp).2⟩⟩) (new_ne N hn)) ke
section
theorem octo_x {ks : List Int} {t : Tok}
    (C : Cx w pT lT mean mg mb A A₀ 540 1700 base h₀ outer env L m s.heap) (N : News h₀ L s.heap news)
    (k : ∀ x dx k1 k2 t' ta h' tk', Fr h₀ L h' m → News h₀ L h' ((x, W.instObj 126 dx) :: (dx, octD w k1 k2 ks t' 0 ta) :: news) → (∀ p ∈ news, p.1 < dx) → dx < x → Q (.ref x) { s with heap := h', toks := tk' }) :
    wpAny (model PySem.Challenge.rw_on0233_01.row.prog w) A (call (.ref 126) [.bytes (byteArr ks) t]) Q E s := by
  k_with_none
  k_with "omega" => first | with_reducible assumption | decide | (with_reducible exact oN1 (by with_reducible assumption) (by decide)) | (with_reducible exact oN2 (by with_reducible assumption) (by decide)) | (with_reducible exact oN3 (by with_reducible assumption) (by decide)) | (with_reducible exact oN4 (by with_reducible assumption) (by decide)) | (with_reducible exact oN5 (by with_reducible assumption) (by decide)) | (with_reducible exact oN6 (by with_reducible assumption) (by decide)) | (with_reducible exact oN7 (by with_reducible assumption) (by decide)) | (with_reducible exact oN8 (by with_reducible assumption) (by decide)) | (with_reducible exact oI1 (by with_reducible assumption) (by decide)) | (with_reducible exact oI2 (by with_reducible assumption) (by decide)) | (with_reducible exact oI3 (by with_reducible assumption) (by decide)) | (with_reducible exact oI4 (by with_reducible assumption) (by decide)) | (with_reducible exact oI5 (by with_reducible assumption) (by decide)) | (with_reducible exact oI6 (by with_reducible assumption) (by decide)) | (with_reducible exact oI7 (by with_reducible assumption) (by decide)) | (with_reducible exact oI8 (by with_reducible assumption) (by decide)) | fail
  k_with "k_pk" => first | exact lA0 | exact lA1 | exact lA2 | exact lA3 | exact lA4 | exact lE1 | exact lE2 | exact lE3 | exact lE4 | exact lE5 | (refine cF ?_; k_extra "k_pk")
  k_with "k_pe" => first | exact eA0 | exact eA1 | exact eA2 | exact eA3 | exact eA4 | exact eE1 | exact eE2 | exact eE3 | exact eE4 | exact eE5 | (refine cF ?_; k_extra "k_pe")
  k_with "k_ltN" => with_reducible first | assumption | exact pL (by with_reducible assumption) (by k_extra "k_pk")
  k_with "k_ne" => (refine neN ?_; (try dsimp only); first | (with_reducible first | exact n01 | exact n02 | exact n03 | exact n04 | exact n05 | exact n01.symm | exact n02.symm | exact n03.symm | exact n04.symm | exact n05.symm | with_reducible assumption | exact Ne.symm (by with_reducible assumption) | exact Nat.ne_of_lt (by k_extra "k_ltN") | exact Nat.ne_of_gt (by k_extra "k_ltN") | exact nS1 (by k_extra "k_ltN") | exact Ne.symm (nS1 (by k_extra "k_ltN")) | exact nS2 (by k_extra "k_ltN") | exact Ne.symm (nS2 (by k_extra "k_ltN")) | exact nS3 (by k_extra "k_ltN") | exact Ne.symm (nS3 (by k_extra "k_ltN")) | exact nS4 (by k_extra "k_ltN") | exact Ne.symm (nS4 (by k_extra "k_ltN")) | exact nS5 (by k_extra "k_ltN") | exact Ne.symm (nS5 (by k_extra "k_ltN")) | exact nS6 (by k_extra "k_ltN") | exact Ne.symm (nS6 (by k_extra "k_ltN")) | exact nT (by with_reducible assumption) (by k_extra "k_ltN") | exact Ne.symm (nT (by with_reducible assumption) (by k_extra "k_ltN")) | exact pN (by with_reducible assumption) (by k_extra "k_pe") | exact Ne.symm (pN (by with_reducible assumption) (by k_extra "k_pe"))) | omega)
  k_with "k_all" => (assumption)
  obtain ⟨lo, hf, hke, B, F, X₀, T⟩ := C
  refine lo.wp ?_
  have hfr : ∀ p ∈ news, p.1 < s.heap.objs.size := fun p hp => Heap.lt_size (N p hp).1
  k_dflt (refine' call_cls F X₀ N ?k4 ?k5 ?k6 ?_; (case k4 => k_is); (case k5 => k_is); (case k6 => k_is))
  intro x' d' h' F' N' l1 l2
  have l2' : @LT.lt Nat _ d' x' := l2
  have hd1 : ∀ p ∈ news, p.1 ≠ d' := fun p hp => Nat.ne_of_lt (l1 p hp)
  have hx1 : ∀ p ∈ news, p.1 ≠ x' := fun p hp => Nat.ne_of_lt (Nat.lt_trans (l1 p hp) l2)
  (refine' code_def ?k1 ?k2 ?k3 ?k4 ?k5 ?kA ?kF ?kK ?k6 ?k7 ?k8 ?k9 ?kB ?_ ?c2 ?c3 ?c4 ?c5; (case kA => exact rfl); (case kF => exact hf); (case kK => exact hke); (case k1 => exact B); (case k2 => k_asm); (case k3 => k_asm); (case k4 => k_asm); (case k5 => k_asm); (case k6 => k_is); (case k7 => k_is); (case k8 => k_room); (case k9 => exact BindsTo.of_eq rfl); (case c5 => decide); (case kB => exact locs rfl); (case c2 => exact rfl); (case c3 => exact rfl); (case c4 => exact rfl))
  intro g' L' h' FG' F' N' B' X' T'; (try dsimp only); (try k_fold)
  clear N
  w_top off
  k_steps
  exact k _ _ _ _ _ _ _ _ (by assumption) (by assumption) l1 l2
end
end
end Mine

namespace Mine
section
variable {prog : Program} {w : World} {A : Around} {E : Value → Shared → Prop} {s : Shared} {h₀ : Heap} {L : Addr} {news : List (Addr × Obj)} {Q : Value → Shared → Prop}
theorem by_ne {a b : List Int} {t u : Tok} (e : a = b) (h : Q (.bool false) s) : wpAny (model prog w) A (compareOp .NotEq (.bytes (byteArr a) t) (.bytes (byteArr b) u)) Q E s := by
  subst e
  refine ne_bytes ?_
  rw [show ((byteArr a).toList != (byteArr a).toList) = false by simp]
  exact h
theorem eq_by {a b : List Int} (t u : Tok) (e : a = b) : SeqAt.EqAt A s (.bytes (byteArr a) t) (.bytes (byteArr b) u) true := fun prog w E Q h => by
  subst e
  exact eqBool_bytes (by simpa using h)
theorem eq_int {a b : Int} (t u : Tok) (e : a = b) : SeqAt.EqAt A s (.int a t) (.int b u) true := by
  subst e
  have := SeqAt.EqAt.int_int (A := A) (s := s) a t a u
  rwa [beq_self_eq_true] at this
theorem ints_eqAt {vs ws : List Value} {ns : List Int} (hi : IntsAre vs ns) (hj : IntsAre ws ns) (j : Nat) (h1 : j < vs.toArray.size) (h2 : j < ws.toArray.size) : SeqAt.EqAt A s vs.toArray[j] ws.toArray[j] true := by
  have h1' : j < vs.length := by simpa using h1
  have h2' : j < ws.length := by simpa using h2
  have hn : j < ns.length := hi.length ▸ h1'
  obtain ⟨t, e1⟩ := hi.get j ns[j] (by simp [hn])
  obtain ⟨u, e2⟩ := hj.get j ns[j] (by simp [hn])
  rw [List.getElem?_eq_getElem h1'] at e1
  rw [List.getElem?_eq_getElem h2'] at e2
  show SeqAt.EqAt A s vs[j] ws[j] true
  rw [Option.some.inj e1, Option.some.inj e2]
  exact eq_int _ _ rfl
theorem ints_ne {l b : Addr} {vs ws : List Value} {ns ms : List Int} {n n' : Nat} (N : News h₀ L s.heap news) (h1 : (l, W.listOf vs.toArray n) ∈ news) (h2 : (b, W.listOf ws.toArray n') ∈ news) (hi : IntsAre vs ns) (hj : IntsAre ws ms) (e : ns = ms) (hu : A.units < cLine) (h : Q (.bool false) s) :
    wpAny (model prog w) A (compareOp .NotEq (.ref l) (.ref b)) Q E s := by
  subst e
  have hz : vs.toArray.size = ws.toArray.size := by rw [List.size_toArray, List.size_toArray, hi.length, hj.length]
  have := SeqAt.RcNeAt.lists (A := A) (s := s) (e := fun _ => true) (News.isList N h1) (News.isList N h2) hz hu (fun j h1 h2 => ints_eqAt hi hj j h1 h2)
  refine cmp_ofNotEq (this prog w E Q ?_)
  rw [show (!(List.range vs.toArray.size).all fun _ => true) = false by simp]
  exact h
theorem ints_eq {l b : Addr} {vs ws : List Value} {ns ms : List Int} {n n' : Nat} (N : News h₀ L s.heap news) (h1 : (l, W.listOf vs.toArray n) ∈ news) (h2 : (b, W.listOf ws.toArray n') ∈ news) (hi : IntsAre vs ns) (hj : IntsAre ws ms) (e : ns = ms) (hu : A.units < cLine) (h : Q (.bool true) s) :
    wpAny (model prog w) A (compareOp .Eq (.ref l) (.ref b)) Q E s := by
  subst e
  have hz : vs.toArray.size = ws.toArray.size := by rw [List.size_toArray, List.size_toArray, hi.length, hj.length]
  refine SeqAt.eq_listAt (e := fun _ => true) (News.isList N h1) (News.isList N h2) hz hu (fun j h1 h2 => ints_eqAt hi hj j h1 h2) ?_
  rw [show ((List.range vs.toArray.size).all fun _ => true) = true by simp]
  exact h
theorem isTuple_of {l : Addr} {items : Array Value} {n : Nat} (N : News h₀ L s.heap news) (hm : (l, ({ cls := .type "tuple", data := .seq items n } : Obj)) ∈ news) : s.heap.IsTuple l items := ⟨_, (N _ hm).1, rfl, _, rfl⟩
theorem pair_rc {l b : Addr} {f g : Int} {x y : List Int} {t t' u u' : Tok} (N : News h₀ L s.heap news) (h1 : (l, pairO f t x u) ∈ news) (h2 : (b, pairO g t' y u') ∈ news) (hf : f = g) (hx : x = y) (hu : A.units < cLine) : SeqAt.RcAt A s (.ref l) (.ref b) true := by
  have := SeqAt.RcAt.tuples (A := A) (s := s) (e := fun _ => true) (isTuple_of N h1) (isTuple_of N h2) hu (fun j h1 h2 => by
    rcases j with _ | _ | j
    · exact eq_int _ _ hf
    · exact eq_by _ _ hx
    · simp at h1; omega)
  exact this
theorem pair_ne {l b : Addr} {f g : Int} {x y : List Int} {t t' u u' : Tok} (N : News h₀ L s.heap news) (h1 : (l, pairO f t x u) ∈ news) (h2 : (b, pairO g t' y u') ∈ news) (hf : f = g) (hx : x = y) (hu : A.units < cLine) (h : Q (.bool false) s) :
    wpAny (model prog w) A (compareOp .NotEq (.ref l) (.ref b)) Q E s := by
  have := SeqAt.RcNeAt.tuples (A := A) (s := s) (e := fun _ => true) (isTuple_of N h1) (isTuple_of N h2) hu (fun j h1 h2 => by
    rcases j with _ | _ | j
    · exact eq_int _ _ hf
    · exact eq_by _ _ hx
    · simp at h1; omega)
  exact cmp_ofNotEq (this prog w E Q h)
/-- a list of pairs against another: the pairs lie at l₁ ..., l₂ ... -/
theorem pairs_ne {l b : Addr} {as bs : List Addr} {ps : List (Int × List Int)} {n n' : Nat} (N : News h₀ L s.heap news) (h1 : (l, W.listOf (as.map Value.ref).toArray n) ∈ news) (h2 : (b, W.listOf (bs.map Value.ref).toArray n') ∈ news)
    (ha : as.length = ps.length) (hb : bs.length = ps.length) (hab : ∀ j (h1 : j < as.length) (h2 : j < bs.length) (h3 : j < ps.length), as[j] ≠ bs[j] ∧ (∃ t u, s.heap.get? as[j] = some (pairO ps[j].1 t ps[j].2 u)) ∧ ∃ t u, s.heap.get? bs[j] = some (pairO ps[j].1 t ps[j].2 u))
    (hu : A.units < cLine) (hu1 : A.in1.units < cLine) (h : Q (.bool false) s) : wpAny (model prog w) A (compareOp .NotEq (.ref l) (.ref b)) Q E s := by
  have hz : (as.map Value.ref).toArray.size = (bs.map Value.ref).toArray.size := by simp [ha, hb]
  have := SeqAt.RcNeAt.lists (A := A) (s := s) (e := fun _ => true) (News.isList N h1) (News.isList N h2) hz hu (fun j h1 h2 => by
    have h1' : j < as.length := by simpa using h1
    have h2' : j < bs.length := by simpa using h2
    obtain ⟨hne, ⟨t, u, e1⟩, t', u', e2⟩ := hab j h1' h2' (ha ▸ h1')
    have q1 : (as.map Value.ref).toArray[j] = .ref as[j] := by simp
    have q2 : (bs.map Value.ref).toArray[j] = .ref bs[j] := by simp
    rw [q1, q2]
    refine SeqAt.EqAt.of_refs hne ?_
    have := SeqAt.RcAt.tuples (A := A.in1) (s := s) (e := fun _ => true) ⟨_, e1, rfl, _, rfl⟩ ⟨_, e2, rfl, _, rfl⟩ hu1 (fun i h1 h2 => by
      rcases i with _ | _ | i
      · exact eq_int _ _ rfl
      · exact eq_by _ _ rfl
      · simp at h1; omega)
    exact this)
  refine cmp_ofNotEq (this prog w E Q ?_)
  rw [show (!(List.range (as.map Value.ref).toArray.size).all fun _ => true) = false by simp]
  exact h
end
end Mine

namespace Mine
noncomputable def FlewAt (s : Shared) (fr : List Env) (e : Value) (s'' : Shared) : Prop := ∃ er h' tk', e = .ref er ∧ s'' = { s with heap := h', toks := tk' } ∧ Flew s.heap [] fr er h'
theorem FlewAt.intro {s : Shared} {fr : List Env} {er : Addr} {h' : Heap} {tk' : Nat} (R : Flew s.heap [] fr er h') : FlewAt s fr (.ref er) { s with heap := h', toks := tk' } := ⟨er, h', tk', rfl, rfl, R⟩
theorem flies_of {w : World} {pT : Program} {lT : List Str} {mean : ExcName → Option Value} {mg mb : Str → Option Value} {base : Heap} {lam : Addr} {A₀ : Around} {outer : List Env} {news : List (Addr × Obj)}
    {name qual : Str} {params : Arguments} {body : Expr} {scope : Scope} {cl : List (Str × Addr)} {pm ctv : Value} {c' : Addr} {oc : Obj} {vs : Array Value} {t : Tok}
    (ho : (lam, kla_obj name qual params body scope cl pm c' ctv) ∈ news) (hmc : (c', oc) ∈ news) (hdat : oc.data = .fields vs) (hv : vs[1]? = some (.str qual t))
    (hbind : bindArgs (kla_fn name qual params body scope cl pm (.ref c') ctv) ⟨[], []⟩ = pure [])
    (hco : scope.isCoroutine = false) (hgen : scope.isGenerator = false) (hk : scope.kind = .function) (hcell : ∀ x ∈ scope.names, x.2 ≠ .cell)
    (h : ∀ (s : Shared) (en : Env) (g : Heap) (L' : Addr) (h₁ : Heap) (tk : Nat), Gr s.heap g news → s.heap.get? L' = none → Fr g L' h₁ (fun y => ([] : List (Str × Value)).reverse.lookup y) → News g L' h₁ news → Below (AtD 430 1150 en outer) base (en :: outer) g → (theHeap w.params).In g → Top pT lT mean mg mb g → (∀ p ∈ news, p.1 < L') →
      wpAny (model PySem.Challenge.rw_on0233_01.row.prog w) ((AtD 430 1150 en outer).deeper (envX qual scope L' lam (.ref c') cl)) (eval body (envX qual scope L' lam (.ref c') cl)) (fun _ _ => False)
        (fun e s' => wpAny (model PySem.Challenge.rw_on0233_01.row.prog w) ((AtD 430 1150 en outer).deeper (envX qual scope L' lam (.ref c') cl)) (leaving (envX qual scope L' lam (.ref c') cl) e) (fun _ s'' => FlewAt s (en :: outer) e s'') (fun _ _ => False) s') { s with heap := h₁, toks := tk }) :
    Flies w pT lT mean mg mb base lam A₀ outer news := by
  intro A₁ g0 en L m s Q E C N hE
  obtain ⟨lo, hf, hke, B, F, X₀, T⟩ := C
  refine lo.wp (wpAny_call ?_)
  obtain ⟨FG, BG, st, _⟩ := groundX (A := AtD 430 1150 en outer) (R := fun r s' => match r with | .ok (.ret v) => Q v s' | .ok _ => False | .error e => E e s') B F N rfl hf hke
  refine kla_callFunE (show 430 < recursionLimit by decide) (N _ ho).1 rfl hco hgen rfl (codeRec_news N hmc hdat hv) ?_
  rw [hbind]
  refine wpAny_pure (wpAny_newFunctionEnv hcell (fun _ hy => nomatch hy) (fun h₁ hns hsb => ⟨((T.nolimit).keeps F.keep).fresh _ hsb, ?_⟩) hk)
  show codeAny _ _ (.expr body (envX qual scope s.heap.objs.size lam (.ref c') cl)) _ _
  have hk₁ : ∀ b o, s.heap.get? b = some o → h₁.get? b = some o := fun b o e => hsb.extBut b o (Nat.ne_of_lt (Heap.lt_size e)) (Heap.get?_push_of_some _ e)
  refine kla_codeExpr (wpAny_mono (h s en _ s.heap.objs.size h₁ _ (gr_of N) (Heap.get?_none_of_le (Nat.le_refl _)) ⟨hns, fun b o e => hk₁ b o (of_hideAll _ e), Nat.le_of_eq (hideAll_size _ _)⟩
    (fun p hp => ⟨hk₁ _ _ (N p hp).1, Nat.ne_of_lt (Heap.lt_size (N p hp).1), hideAll_none _ (List.mem_map_of_mem hp)⟩) BG (X₀.keeps st) (T.keeps st) (fun p hp => Heap.lt_size (N p hp).1)) (fun v s' hl => hl.elim) fun e s' y => ?_)
  refine wpAny_mono y (fun _ s'' z => ?_) fun _ _ z => z.elim
  obtain ⟨er, h', tk', rfl, rfl, R⟩ := z
  exact hE er h' tk' R
theorem fresh2 {hc g h : Heap} {L' x dx : Addr} {ox od : Obj} {news news' : List (Addr × Obj)} (G : Gr hc g news) (N : News g L' h news') (hx : (x, ox) ∈ news') (hd : (dx, od) ∈ news') (l1 : ∀ p ∈ news, p.1 < dx) (l2 : dx < x) : ∀ b ∈ [x, dx], hc.get? b = none := by
  have off : ∀ a, dx ≤ a → a ∉ news.map (·.1) := fun a ha q => by
    obtain ⟨p, hp, e⟩ := List.mem_map.mp q
    have := l1 p hp
    rw [e] at this
    exact absurd (Nat.lt_of_lt_of_le this ha) (Nat.lt_irrefl _)
  refine List.forall_mem_cons.mpr ⟨Gr.fresh G N hx (off x (Nat.le_of_lt l2)), List.forall_mem_cons.mpr ⟨Gr.fresh G N hd (off dx (Nat.le_refl _)), List.forall_mem_nil _⟩⟩
noncomputable def AllBelow (n : Nat) (l : List (Addr × Obj)) : Prop := ∀ p ∈ l, @LT.lt Nat _ p.1 n
theorem below_ne {n d : Addr} {l : List (Addr × Obj)} (h : AllBelow n l) (hd : @LE.le Nat _ n d) : ∀ p ∈ l, p.1 ≠ d := fun p hp => Nat.ne_of_lt (Nat.lt_of_lt_of_le (h p hp) hd)
theorem ne_of_all {l a : Addr} {o : Obj} {news : List (Addr × Obj)} (h : AllNe l news) (hm : (a, o) ∈ news) : @Ne Nat a l := allNe_mem h _ hm
end Mine

namespace Mine
section
variable {w : World} {pT : Program} {lT : List Str} {mean : ExcName → Option Value} {mg mb : Str → Option Value} {A A₀ : Around} {base h₀ : Heap} {outer : List Env} {env : Env} {L : Addr} {m : Str → Option Value} {s : Shared} {Q E : Value → Shared → Prop} {news : List (Addr × Obj)} {g : Obj → List (Addr × Obj)}
theorem flag_of {ns : List Int} (h : FlagsOk ns) : Flag ns := ⟨h.2.1, fun x hx => (by decide : ∀ y ∈ [(0 : Int), 1, 49, 55, 16, 247], y ∈ [(0 : Int), 1, 5, 49, 55, 16, 247]) x (h.2.2 x hx)⟩
theorem flag_none : Flag [] := ⟨by simp, fun _ h => nomatch h⟩
theorem flag_fives : Flag (List.replicate (257 : Int).toNat 5) := ⟨by simp, fun x h => List.eq_of_mem_replicate h ▸ List.Mem.tail _ (List.Mem.tail _ (List.Mem.head _))⟩
theorem in8_app {a b : List Int} (ha : In8 a) (hb : In8 b) : In8 (a ++ b) := fun y hy => by
  rcases List.mem_append.mp hy with h | h
  · exact ha y h
  · exact hb y h
theorem in8_zz : In8 [122, 122] := by decide
theorem in8_cut {a : List Int} (ha : In8 a) : In8 a.dropLast := fun y hy => ha y (List.dropLast_subset a hy)
theorem rflags_zz {x dx : Addr} {ns : List Int} {count : Int} {k1 k2 t ta tc : Tok}
    (C : Cx w pT lT mean mg mb A A₀ 520 1600 base h₀ outer env L m s.heap) (N : News h₀ L s.heap news) (hm : (x, W.instObj 126 dx) ∈ news) (U : UpdF dx (octD w k1 k2 (enc ns ++ [122, 122]) t 0 ta) news g) (hf : Flag ns) (hc : count = (ns.length : Int)) (hd : @LT.lt Nat _ dx x)
    (k : ∀ l vs n ta' h' tk', IntsAre vs (dueOf ns) → Fr h₀ L h' m → News h₀ L h' ((l, W.listOf vs.toArray n) :: g (octD w k1 k2 (enc ns ++ [122, 122]) t ((enc ns).length : Int) ta')) → AllNe l news → Q (.ref l) { s with heap := h', toks := tk' }) :
    wpAny (model PySem.Challenge.rw_on0233_01.row.prog w) A (call (.ref 137) [.ref x, .int count tc]) Q E s := by
  subst hc
  have h1 := hf.1
  have h2 := enc_len hf.2
  have hb := read_back ns hf.2 [122, 122]
  refine rflags_x C N hm U (in8_app (enc_in8 hf.2) in8_zz) (by simp; omega) (by omega) (by omega) hd (fun fs at' e l vs n ta' h' tk' hi F' N' h0 _ hne => ?_) (fun e => ?_)
  · rw [Int.toNat_natCast, hb] at e
    have e' := Option.some.inj e
    have e1 : dueOf ns = fs := congrArg Prod.fst e'
    have e2 : (enc ns).length = at'.toNat := congrArg Prod.snd e'
    have e3 : at' = ((enc ns).length : Int) := by omega
    subst e1 e3
    exact k l vs n ta' h' tk' hi F' N' hne
  · rw [Int.toNat_natCast, hb] at e; cases e
theorem rflags_cut {x dx : Addr} {ns : List Int} {count : Int} {k1 k2 t ta tc : Tok}
    (C : Cx w pT lT mean mg mb A A₀ 520 1600 base h₀ outer env L m s.heap) (N : News h₀ L s.heap news) (hm : (x, W.instObj 126 dx) ∈ news) (U : UpdF dx (octD w k1 k2 (enc ns).dropLast t 0 ta) news g) (hf : Flag ns) (hn : ns ≠ []) (hc : count = (ns.length : Int)) (hd : @LT.lt Nat _ dx x)
    (ke : ∀ e h' tk', Flew s.heap [x, dx] (env :: outer) e h' → E (.ref e) { s with heap := h', toks := tk' }) :
    wpAny (model PySem.Challenge.rw_on0233_01.row.prog w) A (call (.ref 137) [.ref x, .int count tc]) Q E s := by
  subst hc
  have h1 := hf.1
  have h2 := enc_len hf.2
  have hb := read_cut ns hn hf.2
  refine rflags_x C N hm U (in8_cut (enc_in8 hf.2)) (by simp; omega) (by omega) (by omega) hd (fun fs at' e l vs n ta' h' tk' hi F' N' h0 _ hne => ?_) (fun _ => ke)
  rw [Int.toNat_natCast, hb] at e; cases e
theorem rflags_nil {x dx : Addr} {k1 k2 t ta tc : Tok}
    (C : Cx w pT lT mean mg mb A A₀ 520 1600 base h₀ outer env L m s.heap) (N : News h₀ L s.heap news) (hm : (x, W.instObj 126 dx) ∈ news) (U : UpdF dx (octD w k1 k2 [] t 0 ta) news g) (hd : @LT.lt Nat _ dx x)
    (k : ∀ l vs n ta' h' tk', IntsAre vs [] → Fr h₀ L h' m → News h₀ L h' ((l, W.listOf vs.toArray n) :: g (octD w k1 k2 [] t 0 ta')) → AllNe l news → Q (.ref l) { s with heap := h', toks := tk' }) :
    wpAny (model PySem.Challenge.rw_on0233_01.row.prog w) A (call (.ref 137) [.ref x, .int 0 tc]) Q E s := by
  refine rflags_x C N hm U (fun _ h => nomatch h) (by simp) (by omega) (by omega) hd (fun fs at' e l vs n ta' h' tk' hi F' N' h0 _ hne => ?_) (fun e => ?_)
  · rw [show (0 : Int).toNat = 0 from rfl, rdF_zero] at e
    have e' := Option.some.inj e
    have e1 : [] = fs := congrArg Prod.fst e'
    have e2 : 0 = at'.toNat := congrArg Prod.snd e'
    have e3 : at' = 0 := by omega
    subst e1 e3
    exact k l vs n ta' h' tk' hi F' N' hne
  · rw [show (0 : Int).toNat = 0 from rfl, rdF_zero] at e; cases e
theorem rflags_93 {x dx : Addr} {k1 k2 t ta tc : Tok}
    (C : Cx w pT lT mean mg mb A A₀ 520 1600 base h₀ outer env L m s.heap) (N : News h₀ L s.heap news) (hm : (x, W.instObj 126 dx) ∈ news) (U : UpdF dx (octD w k1 k2 [9, 3] t 0 ta) news g) (hd : @LT.lt Nat _ dx x)
    (ke : ∀ e h' tk', Flew s.heap [x, dx] (env :: outer) e h' → E (.ref e) { s with heap := h', toks := tk' }) :
    wpAny (model PySem.Challenge.rw_on0233_01.row.prog w) A (call (.ref 137) [.ref x, .int 3 tc]) Q E s := by
  refine rflags_x C N hm U (by decide) (by simp) (by omega) (by omega) hd (fun fs at' e l vs n ta' h' tk' hi F' N' h0 _ hne => ?_) (fun _ => ke)
  rw [show (3 : Int).toNat = 3 from rfl, flags_93] at e; cases e
theorem rflags_94 {x dx : Addr} {k1 k2 t ta tc : Tok}
    (C : Cx w pT lT mean mg mb A A₀ 520 1600 base h₀ outer env L m s.heap) (N : News h₀ L s.heap news) (hm : (x, W.instObj 126 dx) ∈ news) (U : UpdF dx (octD w k1 k2 [9, 3] t 0 ta) news g) (hd : @LT.lt Nat _ dx x)
    (k : ∀ l vs n ta' h' tk', IntsAre vs [9, 9, 9, 9] → Fr h₀ L h' m → News h₀ L h' ((l, W.listOf vs.toArray n) :: g (octD w k1 k2 [9, 3] t 2 ta')) → AllNe l news → Q (.ref l) { s with heap := h', toks := tk' }) :
    wpAny (model PySem.Challenge.rw_on0233_01.row.prog w) A (call (.ref 137) [.ref x, .int 4 tc]) Q E s := by
  refine rflags_x C N hm U (by decide) (by simp) (by omega) (by omega) hd (fun fs at' e l vs n ta' h' tk' hi F' N' h0 _ hne => ?_) (fun e => ?_)
  · rw [show (4 : Int).toNat = 4 from rfl, flags_94] at e
    have e' := Option.some.inj e
    have e1 : [9, 9, 9, 9] = fs := congrArg Prod.fst e'
    have e2 : 2 = at'.toNat := congrArg Prod.snd e'
    have e3 : at' = 2 := by omega
    subst e1 e3
    exact k l vs n ta' h' tk' hi F' N' hne
  · rw [show (4 : Int).toNat = 4 from rfl, flags_94] at e; cases e
theorem by_lit {a b : List Int} {c : Array UInt8} {t u : Tok} (hc : c = byteArr b) (ha : a.length ≤ 5000) (hb : b.length ≤ 5000) (h : ∀ t' k, Q (.bytes (byteArr (a ++ b)) t') { s with toks := k }) :
    wpAny (model PySem.Challenge.rw_on0233_01.row.prog w) A (binaryOp .Add (.bytes (byteArr a) t) (.bytes c u)) Q E s := by
  subst hc
  exact by_add ha hb (by decide) fun t' k _ => h t' k
theorem by_zz {a : List Int} {t u : Tok} (ha : a.length ≤ 5000) (h : ∀ t' k, Q (.bytes (byteArr (a ++ [122, 122])) t') { s with toks := k }) :
    wpAny (model PySem.Challenge.rw_on0233_01.row.prog w) A (binaryOp .Add (.bytes (byteArr a) t) (.bytes #[122, 122] u)) Q E s := by_lit (by decide +kernel) ha (by decide) h
theorem by_q {a : List Int} {t u : Tok} (ha : a.length ≤ 5000) (h : ∀ t' k, Q (.bytes (byteArr (a ++ [113])) t') { s with toks := k }) :
    wpAny (model PySem.Challenge.rw_on0233_01.row.prog w) A (binaryOp .Add (.bytes (byteArr a) t) (.bytes #[113] u)) Q E s := by_lit (by decide +kernel) ha (by decide) h
theorem enc_small {ns : List Int} (hf : Flag ns) : (enc ns).length ≤ 5000 := by
  have h1 := hf.1
  have h2 := enc_len hf.2
  omega
theorem len_ints {l : Addr} {vs : List Value} {ns : List Int} {n : Nat} (N : News h₀ L s.heap news) (hm : (l, W.listOf vs.toArray n) ∈ news) (hi : IntsAre vs ns) (hz : ns.length ≤ 5000) (h : ∀ t k, Q (.int (ns.length : Int) t) { s with toks := k }) :
    wpAny (model PySem.Challenge.rw_on0233_01.row.prog w) A (call (.builtin "len") [.ref l]) Q E s :=
  KM.len_K N hm (n := ns.length) (by rw [List.size_toArray, hi.length]) (Nat.lt_of_le_of_lt hz (by decide)) (h _ _)
theorem flag_len {ns : List Int} (hf : Flag ns) : ns.length ≤ 5000 := Nat.le_trans hf.1 (by decide)
theorem len_by {a : List Int} {t : Tok} (ha : a.length ≤ 5000) (h : ∀ t k, Q (.int (a.length : Int) t) { s with toks := k }) :
    wpAny (model PySem.Challenge.rw_on0233_01.row.prog w) A (call (.builtin "len") [.bytes (byteArr a) t]) Q E s := by
  refine len_bytes (by rw [byteArr_size']; omega) ?_
  rw [byteArr_size']
  exact h _ _
theorem ne_same {a : Int} {t u : Tok} (h : Q (.bool false) s) : wpAny (model PySem.Challenge.rw_on0233_01.row.prog w) A (compareOp .NotEq (.int a t) (.int a u)) Q E s := by
  refine cmp_ofNotEq (SeqAt.RcNeAt.int_int a t a u _ w E Q ?_)
  rw [beq_self_eq_true]; exact h
theorem octets_nil {l : Addr} {n : Nat}
    (C : Cx w pT lT mean mg mb A A₀ 480 1400 base h₀ outer env L m s.heap) (N : News h₀ L s.heap news) (hm : (l, W.listOf #[] n) ∈ news)
    (k : ∀ (t : Tok) (h' : Heap) (tk' : Nat), Fr h₀ L h' m → News h₀ L h' news → Q (.bytes #[] t) { s with heap := h', toks := tk' }) :
    wpAny (model PySem.Challenge.rw_on0233_01.row.prog w) A (call (.ref 165) [.ref l]) Q E s := by
  have e : (#[] : Array UInt8) = byteArr (enc []) := by rw [enc_nil]; decide +kernel
  rw [e] at k
  exact octets_x (vs := []) (ns := []) C N hm .nil flag_none k
theorem octets_five {l : Addr} {t1 : Tok} {n : Nat}
    (C : Cx w pT lT mean mg mb A A₀ 480 1400 base h₀ outer env L m s.heap) (N : News h₀ L s.heap news) (hm : (l, W.listOf (List.replicate (Int.toNat 257) (Value.int 5 t1)).toArray n) ∈ news)
    (k : ∀ (t : Tok) (h' : Heap) (tk' : Nat), Fr h₀ L h' m → News h₀ L h' news → Q (.bytes (byteArr [13, 255, 5]) t) { s with heap := h', toks := tk' }) :
    wpAny (model PySem.Challenge.rw_on0233_01.row.prog w) A (call (.ref 165) [.ref l]) Q E s := by
  rw [← flags_5] at k
  exact octets_x C N hm (ints_rep _) flag_fives k
theorem by_ne0 {b : Array UInt8} {t u : Tok} (h : Q (.bool false) s) : wpAny (model PySem.Challenge.rw_on0233_01.row.prog w) A (compareOp .NotEq (.bytes b t) (.bytes b u)) Q E s := by
  refine ne_bytes ?_
  rw [show (b.toList != b.toList) = false by simp]
  exact h
theorem cut_tail {ks : List Int} {t u : Tok} {value slice : Expr} (F : Fr h₀ L s.heap m) (N : News h₀ L s.heap news) (hr : In8 ks) (hz : ks.length ≤ 5000)
    (h : ∀ h' t' k, Fr h₀ L h' m → News h₀ L h' news → Q (.bytes (byteArr ks.dropLast) t') { s with heap := h', toks := k })
    (hs : subscripted slice false (.bytes (byteArr ks) t) (.ref s.heap.objs.size) = operate [.ref s.heap.objs.size, .bytes (byteArr ks) t] (getItem (.bytes (byteArr ks) t) (.ref s.heap.objs.size)) := by with_unfolding_all rfl)
    (ht : ∀ r, letTemporaryGo value (.bytes (byteArr ks) t) r = pure () := by intro _; with_unfolding_all rfl) :
    wpAny (model PySem.Challenge.rw_on0233_01.row.prog w) A (subscriptTail value slice (.bytes (byteArr ks) t) (.ref s.heap.objs.size)) Q E { s with heap := s.heap.push { cls := .type "slice", data := .fields #[.none, .int (-1) u, .none] } } := by
  refine KBc.slice_K F N (KBa.ints_make hr) .none (.int _ _) (by omega) (fun h' t' k F' N' _ => ?_) hs ht
  rw [picked_but_last]
  exact h _ _ _ F' N'
theorem flag_in8 {ns : List Int} (hf : Flag ns) : In8 (enc ns) := enc_in8 hf.2
theorem flags_ne {ns : List Int} (hf : FlagsOk ns) : ns ≠ [] := hf.1
theorem octo_cut {ks : List Int} {t : Tok}
    (C : Cx w pT lT mean mg mb A A₀ 540 1700 base h₀ outer env L m s.heap) (N : News h₀ L s.heap news)
    (k : ∀ x dx k1 k2 t' ta h' tk', Fr h₀ L h' m → News h₀ L h' ((x, W.instObj 126 dx) :: (dx, octD w k1 k2 ks.dropLast t' 0 ta) :: news) → (∀ p ∈ news, p.1 < dx) → dx < x → Q (.ref x) { s with heap := h', toks := tk' }) :
    wpAny (model PySem.Challenge.rw_on0233_01.row.prog w) A (call (.ref 126) [.bytes (KBy.picked (byteArr ks) none (some (-1))) t]) Q E s := by
  rw [picked_but_last]
  exact octo_x C N k
theorem octo_nil {t : Tok}
    (C : Cx w pT lT mean mg mb A A₀ 540 1700 base h₀ outer env L m s.heap) (N : News h₀ L s.heap news)
    (k : ∀ x dx k1 k2 t' ta h' tk', Fr h₀ L h' m → News h₀ L h' ((x, W.instObj 126 dx) :: (dx, octD w k1 k2 [] t' 0 ta) :: news) → (∀ p ∈ news, p.1 < dx) → dx < x → Q (.ref x) { s with heap := h', toks := tk' }) :
    wpAny (model PySem.Challenge.rw_on0233_01.row.prog w) A (call (.ref 126) [.bytes #[] t]) Q E s := by
  have e : (#[] : Array UInt8) = byteArr [] := by decide +kernel
  rw [e]
  exact octo_x C N k
end
end Mine

namespace Mine
noncomputable def BysAre (vs : List Value) (bs : List (List Int)) : Prop := ∃ l : List (Array UInt8 × Tok), vs = byVals l ∧ l.map (·.1) = bs.map byteArr
theorem BysAre.nil : BysAre [] [] := ⟨[], rfl, rfl⟩
theorem BysAre.snoc {vs : List Value} {bs : List (List Int)} {b : List Int} {t : Tok} (h : BysAre vs bs) : BysAre (vs ++ [.bytes (byteArr b) t]) (bs ++ [b]) := by
  obtain ⟨l, rfl, e⟩ := h
  exact ⟨l ++ [(byteArr b, t)], by simp [byVals], by simp [e]⟩
theorem BysAre.length {vs : List Value} {bs : List (List Int)} (h : BysAre vs bs) : vs.length = bs.length := by
  obtain ⟨l, rfl, e⟩ := h
  have := congrArg List.length e
  simpa [byVals] using this
section
variable {w : World} {pT : Program} {lT : List Str} {mean : ExcName → Option Value} {mg mb : Str → Option Value} {A A₀ : Around} {base h₀ : Heap} {outer : List Env} {env : Env} {L : Addr} {m : Str → Option Value} {s : Shared} {Q E : Value → Shared → Prop} {news : List (Addr × Obj)} {g : Obj → List (Addr × Obj)}
theorem sizes_sum : ∀ (l : List (Array UInt8)) (n : Nat), l.toArray.foldl (fun n p => n + p.size) n = n + (l.map Array.toList).flatten.length
  | [], n => by simp
  | p :: r, n => by
    have ih := sizes_sum r (n + p.size)
    simp only [List.foldl_toArray] at ih ⊢
    rw [List.foldl_cons, ih]
    simp; omega
theorem flat_by (bs : List (List Int)) : ((bs.map byteArr).map Array.toList).flatten = bs.flatten.map fun n => n.toNat.toUInt8 := by
  induction bs with
  | nil => rfl
  | cons b r ih =>
    rw [List.map_cons, List.map_cons, List.flatten_cons, ih, List.flatten_cons, List.map_append, byteArr_list]
theorem by_join {a : Addr} {vs : List Value} {bs : List (List Int)} {n : Nat} {t : Tok} (N : News h₀ L s.heap news) (hm : (a, W.listOf vs.toArray n) ∈ news) (hb : BysAre vs bs) (hl : bs.length ≤ 1000) (hz : bs.flatten.length ≤ 5000)
    (h : ∀ t' k, Q (.bytes (byteArr bs.flatten) t') { s with toks := k }) : wpAny (model PySem.Challenge.rw_on0233_01.row.prog w) A (call (.builtin "bytes.join") [.bytes #[] t, .ref a]) Q E s := by
  have hlen := hb.length
  obtain ⟨l, rfl, e⟩ := hb
  have hj : Builtin.Bytes.joined #[] (l.map (·.1)) = byteArr bs.flatten := by
    rw [joined_nil, e, flat_by]
    simp [byteArr]
  have hsz : (Builtin.Bytes.joined #[] (l.map (·.1))).size ≤ sizeLine := by
    rw [hj, byteArr_size', sizeLine_eq]; omega
  have hsz2 : ((l.map (·.1)).toArray.foldl (fun n p => n + p.size) 0) ≤ sizeLine := by
    rw [sizes_sum, e, flat_by, List.length_map, sizeLine_eq]; omega
  refine call_meets slot_by_join (typeIs_bytes _ _ _) entry_by_join (args_by_join _ _) (meets_join a t l) ⟨News.isList N hm, ?_, hsz, hsz2, fun t' k => ?_⟩
  · have : l.length = bs.length := by simpa [byVals] using hlen
    omega
  · rw [hj]; exact h t' k
theorem join_method {M : Model} {b : Array UInt8} {t : Tok} {pl : Sem Bool} {Q : Value × List Value → Shared → Prop} (h : Q (.builtin "bytes.join", [.bytes b t]) s) : wpAny M A (getMethod (.bytes b t) "join" pl) Q E s := by
  with_reducible exact KBd.method_of (.bytes b t) (typeIs_bytes _ _ _) slot_by_join type_by_join KBd.noRef h
/-- a comprehension, told by a state -/
theorem comp_rest {prog : Program} {σ : Type} {elt : Expr} {x : Str} {scope : Scope} {cl : List (Str × Addr)} {S : List (Addr × Obj) → Prop} {P : Nat → Value → Prop} {Fin : List Value → List (Addr × Obj) → Prop}
    (Led : σ → List (Addr × Obj)) (J : Nat → List Value → σ → Prop) (n : Nat)
    (hturn : ∀ i ys c v I oI C oC D m₂ h tk (E' : Value → Shared → Prop), i < n → P i v → J i ys c → LCg.NsObj oC m₂ → m₂ x = some v → Fr h₀ L h m → News h₀ L h ((I, oI) :: (C, oC) :: (D, LCg.lst ys) :: Led c) → LCg.Off3 I C D (Led c) → ((@Ne Nat I C) ∧ (@Ne Nat I D) ∧ (@Ne Nat C D)) →
      wpAny (model prog w) A (eval elt (compEnvC scope cl C env)) (LCg.CompEnd h₀ L m { s with heap := h, toks := tk } I oI C oC D (LCg.lst ys) S (fun y news' => ∃ c', news' = Led c' ∧ J (i + 1) (ys ++ [y]) c')) E' { s with heap := h, toks := tk })
    (hdone : ∀ ys c, J n ys c → Fin ys (Led c)) : ∀ (k i : Nat) (ys : List Value) (c : σ), i + k = n → J i ys c → LCg.CompRest prog w A h₀ L m env elt x scope cl s S P Fin k i ys (Led c)
  | 0, i, ys, c, hk, hj => LCg.CompRest.zero (hdone _ _ (by rw [Nat.add_zero] at hk; exact hk ▸ hj))
  | k + 1, i, ys, c, hk, hj => LCg.CompRest.succ fun v I oI C oC D m₂ h tk E' hp ho hx F N off ne =>
    wpAny_mono (hturn i ys c v I oI C oC D m₂ h tk E' (by omega) hp hj ho hx F N off ne) (fun y s' z => by
      obtain ⟨h', tk', news', e, F', N', off', hS, c', rfl, hj'⟩ := z
      exact ⟨h', tk', _, e, F', N', off', hS, comp_rest Led J n hturn hdone k (i + 1) (ys ++ [y]) c' (by omega) hj'⟩) fun _ _ z => z
theorem off3_ne {I C D : Addr} : ∀ {l : List (Addr × Obj)}, LCg.Off3 I C D l → AllNe I l ∧ AllNe C l ∧ AllNe D l
  | [], _ => ⟨trivial, trivial, trivial⟩
  | _ :: _, h => ⟨⟨h.1.1, (off3_ne h.2).1⟩, ⟨h.1.2.1, (off3_ne h.2).2.1⟩, ⟨h.1.2.2, (off3_ne h.2).2.2⟩⟩
theorem off1_ne {D : Addr} : ∀ {l : List (Addr × Obj)}, LCg.Off1 D l → AllNe D l
  | [], _ => trivial
  | _ :: _, h => ⟨h.1, off1_ne h.2⟩
/-- a comprehension whose turns leave the ledger as it was -/
theorem comp_same {prog : Program} {elt : Expr} {x : Str} {scope : Scope} {cl : List (Str × Addr)} {S : List (Addr × Obj) → Prop} {P : Nat → Value → Prop} {Fin : List Value → List (Addr × Obj) → Prop}
    (J : Nat → List Value → Prop) {n : Nat} (j0 : J 0 [])
    (hturn : ∀ i ys v I oI C oC D m₂ h tk (E' : Value → Shared → Prop), i < n → P i v → J i ys → LCg.NsObj oC m₂ → m₂ x = some v → Fr h₀ L h m → News h₀ L h ((I, oI) :: (C, oC) :: (D, LCg.lst ys) :: news) → LCg.Off3 I C D news → AllNe I news → AllNe C news → AllNe D news → (@Ne Nat I C) → (@Ne Nat I D) → (@Ne Nat C D) →
      wpAny (model prog w) A (eval elt (compEnvC scope cl C env)) (LCg.CompEnd h₀ L m { s with heap := h, toks := tk } I oI C oC D (LCg.lst ys) S (fun y news' => news' = news ∧ J (i + 1) (ys ++ [y]))) E' { s with heap := h, toks := tk })
    (hdone : ∀ ys, J n ys → Fin ys news) : LCg.CompRest prog w A h₀ L m env elt x scope cl s S P Fin n 0 [] news := by
  refine comp_rest (σ := Unit) (fun _ => news) (fun i ys _ => J i ys) n ?_ (fun ys _ => hdone ys) n 0 [] () (Nat.zero_add n) j0
  intro i ys _ v I oI C oC D m₂ h tk E' hi hp hj ho hx F N off ne
  obtain ⟨a, b, c⟩ := off3_ne off
  exact wpAny_mono (hturn i ys v I oI C oC D m₂ h tk E' hi hp hj ho hx F N off a b c ne.1 ne.2.1 ne.2.2) (fun y s' z => by
    obtain ⟨h', tk', news', e, F', N', off', hS, rfl, hj'⟩ := z
    exact ⟨h', tk', _, e, F', N', off', hS, (), rfl, hj'⟩) fun _ _ z => z
end
end Mine

namespace Mine
noncomputable def EnInv (i : Nat) (ls : List Int) (nr : Int) : Prop := ls.length = i ∧ Rising (-1) ls ∧ -1 ≤ nr ∧ nr ≤ 302 * (i : Int) ∧ nr = lastOf ls
theorem rising_snoc : ∀ (ls : List Int) (a x : Int), Rising a ls → (if ls = [] then a else ls.getD (ls.length - 1) 0) < x → x ≤ 65535 → Rising a (ls ++ [x])
  | [], a, x, _, h1, h2 => by
    rw [if_pos rfl] at h1
    exact ⟨h1, h2, trivial⟩
  | y :: r, a, x, ⟨h1, h2, h3⟩, h4, h5 => by
    refine ⟨h1, h2, rising_snoc r y x h3 ?_ h5⟩
    rw [if_neg (by simp)] at h4
    cases r with
    | nil => simpa using h4
    | cons z r => simpa using h4
theorem en_start : EnInv 0 [] (-1) := ⟨rfl, trivial, by omega, by omega, rfl⟩
theorem en_step {i : Nat} {ls : List Int} {nr x : Int} (h : EnInv i ls nr) (hi : i < 5) (hx : x ∈ [(0 : Int), 1, 5, 300]) : EnInv (i + 1) (ls ++ [nr + 1 + x]) (nr + 1 + x) := by
  obtain ⟨h1, h2, h3, h4, h5⟩ := h
  have hx' : 0 ≤ x ∧ x ≤ 300 := by
    simp only [List.mem_cons, List.not_mem_nil, or_false] at hx; omega
  refine ⟨by simp [h1], rising_snoc ls (-1) _ h2 ?_ (by omega), by omega, by omega, (lastOf_snoc _ _).symm⟩
  show lastOf ls < _
  omega
theorem put_eq {x : Int} (h0 : 0 ≤ x) (h1 : x ≤ 65535) : [x.fdiv 256, x.fmod 256] = putL16 x := by
  unfold putL16
  rw [Int.fdiv_eq_ediv_of_nonneg _ (by omega), Int.fmod_eq_emod_of_nonneg _ (by omega), Int.fmod_eq_emod_of_nonneg _ (by omega)]
  rw [show x / 256 % 256 = x / 256 by omega]
theorem rising_bd : ∀ (ls : List Int) (a : Int), -1 ≤ a → Rising a ls → ∀ y ∈ ls, 0 ≤ y ∧ y ≤ 65535
  | [], _, _, _, y, hy => absurd hy List.not_mem_nil
  | x :: r, a, ha, ⟨h1, h2, h3⟩, y, hy => by
    rcases List.mem_cons.mp hy with rfl | hy
    · omega
    · exact rising_bd r x (by omega) h3 y hy
theorem rising_at {ls : List Int} (h : Rising (-1) ls) {i : Nat} (hi : i < ls.length) : 0 ≤ ls.getD i 0 ∧ ls.getD i 0 ≤ 65535 := by
  refine rising_bd ls (-1) (by omega) h _ ?_
  rw [List.getD_eq_getElem?_getD, List.getElem?_eq_getElem hi]
  exact List.getElem_mem hi
theorem lastOf_bd {ls : List Int} (h : Rising (-1) ls) (hne : ls ≠ []) : 0 ≤ lastOf ls ∧ lastOf ls ≤ 65535 := by
  rw [lastOf_ne hne]
  have := List.length_pos_iff.mpr hne
  exact rising_at h (by omega)
theorem take_map_snoc {β : Type} {ls : List Int} (f : Int → β) {i : Nat} (hi : i < ls.length) : (ls.take (i + 1)).map f = (ls.take i).map f ++ [f (ls.getD i 0)] := by
  rw [List.take_add_one, List.getElem?_eq_getElem hi, List.map_append]
  simp [List.getD, hi]
theorem en_flat (ls : List Int) : (ls.map putL16).flatten = enOc ls := by simp [enOc, List.flatMap]
theorem sums_take : ∀ (l : List Int) (a : Int), sums a l = (List.range l.length).map fun i => a + (l.take (i + 1)).sum
  | [], a => rfl
  | s :: r, a => by
    rw [sums, sums_take r (a + s), List.length_cons, List.range_succ_eq_map, List.map_cons, List.map_map]
    congr 1
    · simp
    · refine List.map_congr_left fun i _ => ?_
      simp [Int.add_assoc]
end Mine

namespace Mine
section
variable {w : World} {pT : Program} {lT : List Str} {mean : ExcName → Option Value} {mg mb : Str → Option Value} {A A₀ : Around} {base h₀ : Heap} {outer : List Env} {env : Env} {L : Addr} {m : Str → Option Value} {s : Shared} {Q E : Value → Shared → Prop} {news : List (Addr × Obj)} {g : Obj → List (Addr × Obj)}
theorem ends_join {a : Addr} {vs : List Value} {ls : List Int} {n : Nat} {t : Tok} (N : News h₀ L s.heap news) (hm : (a, W.listOf vs.toArray n) ∈ news) (hb : BysAre vs (ls.map putL16)) (hl : ls.length ≤ 10)
    (h : ∀ t' k, Q (.bytes (byteArr (enOc ls)) t') { s with toks := k }) : wpAny (model PySem.Challenge.rw_on0233_01.row.prog w) A (call (.builtin "bytes.join") [.bytes #[] t, .ref a]) Q E s := by
  rw [← en_flat] at h
  exact by_join N hm hb (by simp; omega) (by rw [en_flat, en_len]; omega) h
theorem rends_zz {x dx : Addr} {ls : List Int} {k1 k2 t ta tc : Tok}
    (C : Cx w pT lT mean mg mb A A₀ 520 1600 base h₀ outer env L m s.heap) (N : News h₀ L s.heap news) (hm : (x, W.instObj 126 dx) ∈ news) (U : UpdF dx (octD w k1 k2 (enOc ls ++ [122, 122]) t 0 ta) news g) (hR : Rising (-1) ls) (hl : ls.length ≤ 10) (hd : @LT.lt Nat _ dx x)
    (k : ∀ l vs n at' ta' h' tk', IntsAre vs ls → Fr h₀ L h' m → News h₀ L h' ((l, W.listOf vs.toArray n) :: g (octD w k1 k2 (enOc ls ++ [122, 122]) t at' ta')) → AllNe l news → Q (.ref l) { s with heap := h', toks := tk' }) :
    wpAny (model PySem.Challenge.rw_on0233_01.row.prog w) A (call (.ref 151) [.ref x, .int (ls.length : Int) tc]) Q E s := by
  refine rends_x C N hm U (in8_app (en_in8 ls) in8_zz) (by rw [List.length_append, en_len]; simp; omega) (by omega) (by omega) hd (fun fs e l vs n at' ta' h' tk' hi F' N' hne => ?_) (fun e => ?_)
  · rw [Int.toNat_natCast, ends_back hR] at e
    cases e
    exact k l vs n at' ta' h' tk' hi F' N' hne
  · rw [Int.toNat_natCast, ends_back hR] at e; cases e
theorem rends_one {x dx : Addr} {k1 k2 t ta tc : Tok}
    (C : Cx w pT lT mean mg mb A A₀ 520 1600 base h₀ outer env L m s.heap) (N : News h₀ L s.heap news) (hm : (x, W.instObj 126 dx) ∈ news) (U : UpdF dx (octD w k1 k2 [255, 255] t 0 ta) news g) (hd : @LT.lt Nat _ dx x)
    (k : ∀ l vs n at' ta' h' tk', IntsAre vs [65535] → Fr h₀ L h' m → News h₀ L h' ((l, W.listOf vs.toArray n) :: g (octD w k1 k2 [255, 255] t at' ta')) → AllNe l news → Q (.ref l) { s with heap := h', toks := tk' }) :
    wpAny (model PySem.Challenge.rw_on0233_01.row.prog w) A (call (.ref 151) [.ref x, .int 1 tc]) Q E s := by
  refine rends_x C N hm U (by decide) (by decide) (by omega) (by omega) hd (fun fs e l vs n at' ta' h' tk' hi F' N' hne => ?_) (fun e => ?_)
  · rw [show (1 : Int).toNat = 1 from rfl, ends_one] at e
    cases e
    exact k l vs n at' ta' h' tk' hi F' N' hne
  · rw [show (1 : Int).toNat = 1 from rfl, ends_one] at e; cases e
theorem rends_more {x dx : Addr} {ls : List Int} {k1 k2 t ta tc : Tok}
    (C : Cx w pT lT mean mg mb A A₀ 520 1600 base h₀ outer env L m s.heap) (N : News h₀ L s.heap news) (hm : (x, W.instObj 126 dx) ∈ news) (U : UpdF dx (octD w k1 k2 (enOc ls) t 0 ta) news g) (hR : Rising (-1) ls) (hl : ls.length ≤ 10) (hd : @LT.lt Nat _ dx x)
    (ke : ∀ e h' tk', Flew s.heap [x, dx] (env :: outer) e h' → E (.ref e) { s with heap := h', toks := tk' }) :
    wpAny (model PySem.Challenge.rw_on0233_01.row.prog w) A (call (.ref 151) [.ref x, .int ((ls.length : Int) + 1) tc]) Q E s := by
  refine rends_x C N hm U (en_in8 ls) (by rw [en_len]; omega) (by omega) (by omega) hd (fun fs e l vs n at' ta' h' tk' hi F' N' hne => ?_) (fun _ => ke)
  rw [show ((ls.length : Int) + 1).toNat = ls.length + 1 by omega, ends_more hR] at e
  cases e
theorem rends_again {x dx : Addr} {ls ks : List Int} {count : Int} {k1 k2 t ta tc : Tok}
    (C : Cx w pT lT mean mg mb A A₀ 520 1600 base h₀ outer env L m s.heap) (N : News h₀ L s.heap news) (hm : (x, W.instObj 126 dx) ∈ news) (U : UpdF dx (octD w k1 k2 ks t 0 ta) news g) (hk : ks = enOc ls ++ putL16 (lastOf ls)) (hc : count = (ks.length : Int).fdiv 2) (hR : Rising (-1) ls) (hl : ls.length ≤ 10) (hne : ls ≠ []) (hd : @LT.lt Nat _ dx x)
    (ke : ∀ e h' tk', Flew s.heap [x, dx] (env :: outer) e h' → E (.ref e) { s with heap := h', toks := tk' }) :
    wpAny (model PySem.Challenge.rw_on0233_01.row.prog w) A (call (.ref 151) [.ref x, .int count tc]) Q E s := by
  have hkl : ks.length = 2 * (ls.length + 1) := by rw [hk, List.length_append, en_len]; simp; omega
  have hc' : count = (ls.length : Int) + 1 := by
    rw [hc, hkl, Int.fdiv_eq_ediv_of_nonneg _ (by omega)]; omega
  subst hc'
  refine rends_x C N hm U (by rw [hk]; exact in8_app (en_in8 ls) (in8_put _)) (by omega) (by omega) (by omega) hd (fun fs e l vs n at' ta' h' tk' hi F' N' hne' => ?_) (fun _ => ke)
  rw [show ((ls.length : Int) + 1).toNat = ls.length + 1 by omega, hk, lastOf_ne hne, ends_again hR hne] at e
  cases e
theorem rends_none {x dx : Addr} {ks : List Int} {count : Int} {k1 k2 t ta tc : Tok}
    (C : Cx w pT lT mean mg mb A A₀ 520 1600 base h₀ outer env L m s.heap) (N : News h₀ L s.heap news) (hm : (x, W.instObj 126 dx) ∈ news) (U : UpdF dx (octD w k1 k2 ks t 0 ta) news g) (hk : ks = [0, 3, 0, 3]) (hc : count = (ks.length : Int).fdiv 2) (hd : @LT.lt Nat _ dx x)
    (ke : ∀ e h' tk', Flew s.heap [x, dx] (env :: outer) e h' → E (.ref e) { s with heap := h', toks := tk' }) :
    wpAny (model PySem.Challenge.rw_on0233_01.row.prog w) A (call (.ref 151) [.ref x, .int count tc]) Q E s := by
  subst hk
  have hc' : count = 2 := by rw [hc]; decide
  subst hc'
  refine rends_x C N hm U (by decide) (by decide) (by omega) (by omega) hd (fun fs e l vs n at' ta' h' tk' hi F' N' hne' => ?_) (fun _ => ke)
  rw [show (2 : Int).toNat = 2 from rfl, ends_none3] at e
  cases e
/-- octets by one or by two -/
theorem by_mulL {bs : List UInt8} {a : Array UInt8} {n : Int} {t u : Tok} (ha : a = bs.toArray) (hb : bs ≠ []) (h0 : 0 ≤ n) (h1 : n ≤ 1000) (hs : bs.length ≤ 16) (h : ∀ t' k, Q (.bytes ((List.replicate n.toNat bs).flatten).toArray t') { s with toks := k }) :
    wpAny (model PySem.Challenge.rw_on0233_01.row.prog w) A (binaryOp .Mult (.bytes a t) (.int n u)) Q E s := by
  subst ha
  exact bytes_mul_any hb (Int.le_trans (by decide) h0) (Int.le_trans h1 (by decide)) hs h
noncomputable abbrev u8s (b : List Int) : List UInt8 := b.map fun n => n.toNat.toUInt8
theorem u8_arr (b : List Int) : byteArr b = (u8s b).toArray := rfl
theorem by_mul1 {b : List Int} {t u : Tok} (hb : b ≠ []) (hs : b.length ≤ 16) (h : ∀ t' k, Q (.bytes (byteArr b) t') { s with toks := k }) :
    wpAny (model PySem.Challenge.rw_on0233_01.row.prog w) A (binaryOp .Mult (.bytes (byteArr b) t) (.int 1 u)) Q E s := by
  refine by_mulL (u8_arr b) (fun e => hb (List.map_eq_nil_iff.mp e)) (by decide) (by decide) (by rw [List.length_map]; exact hs) fun t' k => ?_
  have e : (List.replicate (1 : Int).toNat (u8s b)).flatten = u8s b := by
    show (List.replicate 1 (u8s b)).flatten = u8s b
    rw [List.replicate_succ, List.replicate_zero, List.flatten_cons, List.flatten_nil, List.append_nil]
  rw [e, ← u8_arr]; exact h t' k
theorem by_mul2 {b : List Int} {t u : Tok} (hb : b ≠ []) (hs : b.length ≤ 16) (h : ∀ t' k, Q (.bytes (byteArr (b ++ b)) t') { s with toks := k }) :
    wpAny (model PySem.Challenge.rw_on0233_01.row.prog w) A (binaryOp .Mult (.bytes (byteArr b) t) (.int 2 u)) Q E s := by
  refine by_mulL (u8_arr b) (fun e => hb (List.map_eq_nil_iff.mp e)) (by decide) (by decide) (by rw [List.length_map]; exact hs) fun t' k => ?_
  have e : (List.replicate (2 : Int).toNat (u8s b)).flatten = u8s (b ++ b) := by
    show (List.replicate 2 (u8s b)).flatten = u8s (b ++ b)
    rw [List.replicate_succ, List.replicate_succ, List.replicate_zero, List.flatten_cons, List.flatten_cons, List.flatten_nil, List.append_nil, u8s, u8s, List.map_append]
  rw [e, ← u8_arr]; exact h t' k
theorem by_mulE {b r : List Int} {n : Int} {t u : Tok} (hn : (n = 1 ∧ r = b) ∨ (n = 2 ∧ r = b ++ b)) (hb : b ≠ []) (hs : b.length ≤ 16) (h : ∀ t' k, Q (.bytes (byteArr r) t') { s with toks := k }) :
    wpAny (model PySem.Challenge.rw_on0233_01.row.prog w) A (binaryOp .Mult (.bytes (byteArr b) t) (.int n u)) Q E s := by
  rcases hn with ⟨rfl, rfl⟩ | ⟨rfl, rfl⟩
  · exact by_mul1 hb hs h
  · exact by_mul2 hb hs h
theorem by_add_en {a b : List Int} {t u : Tok} (ha : a.length ≤ 5000) (hb : b.length ≤ 5000) (h : ∀ t' k, Q (.bytes (byteArr (a ++ b)) t') { s with toks := k }) :
    wpAny (model PySem.Challenge.rw_on0233_01.row.prog w) A (binaryOp .Add (.bytes (byteArr a) t) (.bytes (byteArr b) u)) Q E s := by_add ha hb (by decide) fun t' k _ => h t' k
end
end Mine

namespace Mine
section
variable {w : World} {pT : Program} {lT : List Str} {mean : ExcName → Option Value} {mg mb : Str → Option Value} {A A₀ : Around} {base h₀ : Heap} {outer : List Env} {env : Env} {L : Addr} {m : Str → Option Value} {s : Shared} {Q E : Value → Shared → Prop}
section
theorem step_ok {x : Int} (h : x ∈ [(0 : Int), 1, 255, 256, 300, 32767, 7, 0]) : Near x ∧ Near (0 - x) := (by unfold Near; decide : ∀ y ∈ [(0 : Int), 1, 255, 256, 300, 32767, 7, 0], Near y ∧ Near (0 - y)) x h
theorem step_core {src : Addr} {o : Obj}
    (C : Cx w pT lT mean mg mb A A₀ 480 1400 base h₀ outer env L m s.heap)
    (N : News h₀ L s.heap [(src, o)]) (hs : SrcOk o)
    (k : ∀ (x : Int) (tx : Tok) (o' : Obj) (h' : Heap) (tk' : Nat), Near x → SrcOk o' → Fr h₀ L h' m → News h₀ L h' [(src, o')] → Kept [src] s.heap h' → Q (.int x tx) { s with heap := h', toks := tk' }) :
    wpAny (model PySem.Challenge.rw_on0233_01.row.prog w) A (call (.ref 221) [.ref src]) Q E s := by
  k_with_none
  k_with "omega" => first | with_reducible assumption | decide | (with_reducible exact oN1 (by with_reducible assumption) (by decide)) | (with_reducible exact oN2 (by with_reducible assumption) (by decide)) | (with_reducible exact oN3 (by with_reducible assumption) (by decide)) | (with_reducible exact oN4 (by with_reducible assumption) (by decide)) | (with_reducible exact oN5 (by with_reducible assumption) (by decide)) | (with_reducible exact oN6 (by with_reducible assumption) (by decide)) | (with_reducible exact oN7 (by with_reducible assumption) (by decide)) | (with_reducible exact oN8 (by with_reducible assumption) (by decide)) | (with_reducible exact oI1 (by with_reducible assumption) (by decide)) | (with_reducible exact oI2 (by with_reducible assumption) (by decide)) | (with_reducible exact oI3 (by with_reducible assumption) (by decide)) | (with_reducible exact oI4 (by with_reducible assumption) (by decide)) | (with_reducible exact oI5 (by with_reducible assumption) (by decide)) | (with_reducible exact oI6 (by with_reducible assumption) (by decide)) | (with_reducible exact oI7 (by with_reducible assumption) (by decide)) | (with_reducible exact oI8 (by with_reducible assumption) (by decide)) | fail
  k_with "k_pk" => first | exact lA0 | exact lA1 | exact lA2 | exact lA3 | exact lA4 | exact lE1 | exact lE2 | exact lE3 | exact lE4 | exact lE5 | (refine cF ?_; k_extra "k_pk")
  k_with "k_pe" => first | exact eA0 | exact eA1 | exact eA2 | exact eA3 | exact eA4 | exact eE1 | exact eE2 | exact eE3 | exact eE4 | exact eE5 | (refine cF ?_; k_extra "k_pe")
  k_with "k_ltN" => with_reducible first | assumption | exact pL (by with_reducible assumption) (by k_extra "k_pk")
  k_with "k_ne" => (refine neN ?_; (try dsimp only); first | (with_reducible first | exact n01 | exact n02 | exact n03 | exact n04 | exact n05 | exact n01.symm | exact n02.symm | exact n03.symm | exact n04.symm | exact n05.symm | with_reducible assumption | exact Ne.symm (by with_reducible assumption) | exact Nat.ne_of_lt (by k_extra "k_ltN") | exact Nat.ne_of_gt (by k_extra "k_ltN") | exact nS1 (by k_extra "k_ltN") | exact Ne.symm (nS1 (by k_extra "k_ltN")) | exact nS2 (by k_extra "k_ltN") | exact Ne.symm (nS2 (by k_extra "k_ltN")) | exact nS3 (by k_extra "k_ltN") | exact Ne.symm (nS3 (by k_extra "k_ltN")) | exact nS4 (by k_extra "k_ltN") | exact Ne.symm (nS4 (by k_extra "k_ltN")) | exact nS5 (by k_extra "k_ltN") | exact Ne.symm (nS5 (by k_extra "k_ltN")) | exact nS6 (by k_extra "k_ltN") | exact Ne.symm (nS6 (by k_extra "k_ltN")) | exact nT (by with_reducible assumption) (by k_extra "k_ltN") | exact Ne.symm (nT (by with_reducible assumption) (by k_extra "k_ltN")) | exact pN (by with_reducible assumption) (by k_extra "k_pe") | exact Ne.symm (pN (by with_reducible assumption) (by k_extra "k_pe"))) | omega)
  k_with "cell_enter" => ((refine' enter_call ?qzC ?qzN ?qzk6 ?qzk7 ?qzk8 ?qzk9 ?qzkB ?_ ?qzc2 ?qzc3 ?qzc4 ?qzc5; (case qzC => assumption); (case qzN => assumption); (case qzk6 => k_is); (case qzk7 => k_is); (case qzk8 => decide); (case qzk9 => exact BindsTo.of_eq rfl); (case qzc5 => decide); (case qzkB => exact locs rfl); (case qzc2 => exact rfl); (case qzc3 => exact rfl); (case qzc4 => exact rfl); k_whole; intro g'z L'z h'z X0'z T0'z G'z nL'z F'z N'z B'z X'z T'z; (try dsimp only); (try k_fold)))
  k_with "k_all" => (assumption)
  k_with "k_ne" => (assumption)
  k_with "call ref" => ((k_here; (with_reducible show wpAny _ _ (call (Value.ref 186) _) _ _ _); k_dflt (refine' one_spec ?qzC ?qzN ?qzU ?qzhs ?qzhm ?qzhls ?qzhi ?qzhl ?qzhu ?_; (case qzC => exact ⟨⟨rfl, Nat.le_of_ble_eq_true rfl, rfl, rfl, Nat.le_of_ble_eq_true rfl⟩, rfl, rfl, by k_asm, by k_asm, by k_asm, by k_asm⟩); (case qzN => k_asm); (case qzU => k_updF); (case qzhs => assumption); (case qzhm => k_mem); (case qzhls => k_ne); (case qzhi => l_intsW); (case qzhl => decide); (case qzhu => decide); k_whole); intro x'z tr'z o'z h'z tk'z hx'z hs'z F'z N'z; (try dsimp only at N'z); (try k_sweep)))
  k_with "call ref" => ((k_here; (with_reducible show wpAny _ _ (call (Value.ref 179) _) _ _ _); k_dflt (refine' take_spec ?qzC ?qzN ?qzU ?qzhs ?qzht ?qzhu ?_; (case qzC => exact ⟨⟨rfl, Nat.le_of_ble_eq_true rfl, rfl, rfl, Nat.le_of_ble_eq_true rfl⟩, rfl, rfl, by k_asm, by k_asm, by k_asm, by k_asm⟩); (case qzN => k_asm); (case qzU => k_updF); (case qzhs => assumption); (case qzht => decide); (case qzhu => decide); k_whole); intro r'z tr'z o'z h'z tk'z r0'z r1'z hs'z F'z N'z; (try dsimp only at N'z); (try k_sweep)))
  k_dflt cell_enter
  clear C N
  w_top off
  k_steps
  all_goals refine k _ _ _ _ _ ?_ (by assumption) (by assumption) (news_sub (by assumption) (List.forall_mem_cons.mpr ⟨by k_mem, List.forall_mem_nil _⟩)) (kept_of (by assumption) (by assumption) (by rfl))
  · exact (step_ok (by assumption)).1
  · exact (step_ok (by assumption)).2
end
theorem step_x {news : List (Addr × Obj)} {g : Obj → List (Addr × Obj)} {src : Addr} {o : Obj}
    (C : Cx w pT lT mean mg mb A A₀ 480 1400 base h₀ outer env L m s.heap)
    (N : News h₀ L s.heap news) (U : UpdF src o news g) (hs : SrcOk o)
    (k : ∀ (x : Int) (tx : Tok) (o' : Obj) (h' : Heap) (tk' : Nat), Near x → SrcOk o' → Fr h₀ L h' m → News h₀ L h' (g o') → Q (.int x tx) { s with heap := h', toks := tk' }) :
    wpAny (model PySem.Challenge.rw_on0233_01.row.prog w) A (call (.ref 221) [.ref src]) Q E s :=
  step_core C (of_upd U N) hs fun x tx o' h' tk' hx hs' F' N' K => k x tx o' h' tk' hx hs' F' (back1 U N N' K)
end
end Mine

namespace Mine
section
variable {w : World} {pT : Program} {lT : List Str} {mean : ExcName → Option Value} {mg mb : Str → Option Value} {A A₀ : Around} {base h₀ : Heap} {outer : List Env} {env : Env} {L : Addr} {m : Str → Option Value} {s : Shared} {Q E : Value → Shared → Prop}
theorem told_0 {sh sm step : Int} (h : step = 0) : axP sh sm step = (sm, []) := by subst h; exact axP_0
theorem told_1 {sh sm step : Int} (h : step ≠ 0) (h' : (if step < 0 then -step else step) < 256) : axP sh sm step = (sh + sm * (if decide (0 < step) = true then 1 else 0), [if step < 0 then -step else step]) := by
  by_cases h0 : step < 0
  · rw [if_pos h0] at h' ⊢
    rw [axP_neg (by omega) h0, if_neg (by simp; omega)]
    simp
  · rw [if_neg h0] at h' ⊢
    rw [axP_pos (by omega) h', if_pos (by simp; omega)]
    simp
theorem told_2 {sh sm step : Int} (h : step ≠ 0) (h' : ¬ (if step < 0 then -step else step) < 256) (hn : Near step) : axP sh sm step = (0, putL16 step) := by
  refine axP_mid hn ?_
  split at h' <;> omega
section
theorem told_core {step sh sm : Int} {t ta tb : Tok}
    (C : Cx w pT lT mean mg mb A A₀ 540 1700 base h₀ outer env L m s.heap) (N : News h₀ L s.heap []) (hs : ShSm sh sm) (hn : Near step)
    (k : ∀ l tf tb h' tk', Fr h₀ L h' m → News h₀ L h' [(l, pairO (axP sh sm step).1 tf (axP sh sm step).2 tb)] → Kept [] s.heap h' → s.heap.get? l = none → Q (.ref l) { s with heap := h', toks := tk' }) :
    wpAny (model PySem.Challenge.rw_on0233_01.row.prog w) A (call (.ref 228) [.int step t, .int sh ta, .int sm tb]) Q E s := by
  k_with_none
  k_with "omega" => first | with_reducible assumption | decide | (with_reducible exact oN1 (by with_reducible assumption) (by decide)) | (with_reducible exact oN2 (by with_reducible assumption) (by decide)) | (with_reducible exact oN3 (by with_reducible assumption) (by decide)) | (with_reducible exact oN4 (by with_reducible assumption) (by decide)) | (with_reducible exact oN5 (by with_reducible assumption) (by decide)) | (with_reducible exact oN6 (by with_reducible assumption) (by decide)) | (with_reducible exact oN7 (by with_reducible assumption) (by decide)) | (with_reducible exact oN8 (by with_reducible assumption) (by decide)) | (with_reducible exact oI1 (by with_reducible assumption) (by decide)) | (with_reducible exact oI2 (by with_reducible assumption) (by decide)) | (with_reducible exact oI3 (by with_reducible assumption) (by decide)) | (with_reducible exact oI4 (by with_reducible assumption) (by decide)) | (with_reducible exact oI5 (by with_reducible assumption) (by decide)) | (with_reducible exact oI6 (by with_reducible assumption) (by decide)) | (with_reducible exact oI7 (by with_reducible assumption) (by decide)) | (with_reducible exact oI8 (by with_reducible assumption) (by decide)) | fail
  k_with "k_pk" => first | exact lA0 | exact lA1 | exact lA2 | exact lA3 | exact lA4 | exact lE1 | exact lE2 | exact lE3 | exact lE4 | exact lE5 | (refine cF ?_; k_extra "k_pk")
  k_with "k_pe" => first | exact eA0 | exact eA1 | exact eA2 | exact eA3 | exact eA4 | exact eE1 | exact eE2 | exact eE3 | exact eE4 | exact eE5 | (refine cF ?_; k_extra "k_pe")
  k_with "k_ltN" => with_reducible first | assumption | exact pL (by with_reducible assumption) (by k_extra "k_pk")
  k_with "k_ne" => (refine neN ?_; (try dsimp only); first | (with_reducible first | exact n01 | exact n02 | exact n03 | exact n04 | exact n05 | exact n01.symm | exact n02.symm | exact n03.symm | exact n04.symm | exact n05.symm | with_reducible assumption | exact Ne.symm (by with_reducible assumption) | exact Nat.ne_of_lt (by k_extra "k_ltN") | exact Nat.ne_of_gt (by k_extra "k_ltN") | exact nS1 (by k_extra "k_ltN") | exact Ne.symm (nS1 (by k_extra "k_ltN")) | exact nS2 (by k_extra "k_ltN") | exact Ne.symm (nS2 (by k_extra "k_ltN")) | exact nS3 (by k_extra "k_ltN") | exact Ne.symm (nS3 (by k_extra "k_ltN")) | exact nS4 (by k_extra "k_ltN") | exact Ne.symm (nS4 (by k_extra "k_ltN")) | exact nS5 (by k_extra "k_ltN") | exact Ne.symm (nS5 (by k_extra "k_ltN")) | exact nS6 (by k_extra "k_ltN") | exact Ne.symm (nS6 (by k_extra "k_ltN")) | exact nT (by with_reducible assumption) (by k_extra "k_ltN") | exact Ne.symm (nT (by with_reducible assumption) (by k_extra "k_ltN")) | exact pN (by with_reducible assumption) (by k_extra "k_pe") | exact Ne.symm (pN (by with_reducible assumption) (by k_extra "k_pe"))) | omega)
  k_with "cell_enter" => ((refine' enter_call ?qzC ?qzN ?qzk6 ?qzk7 ?qzk8 ?qzk9 ?qzkB ?_ ?qzc2 ?qzc3 ?qzc4 ?qzc5; (case qzC => assumption); (case qzN => assumption); (case qzk6 => k_is); (case qzk7 => k_is); (case qzk8 => decide); (case qzk9 => exact BindsTo.of_eq rfl); (case qzc5 => decide); (case qzkB => exact locs rfl); (case qzc2 => exact rfl); (case qzc3 => exact rfl); (case qzc4 => exact rfl); k_whole; intro g'z L'z h'z X0'z T0'z G'z nL'z F'z N'z B'z X'z T'z; (try dsimp only); (try k_fold)))
  k_with "call type:bytes" => ((k_here; k_dflt (refine' by_make ?qzF ?qzN ?qzhh ?qzhm ?qzhi ?qzhr ?qzhn ?_; (case qzF => k_asm); (case qzN => k_asm); (case qzhh => exact rfl); (case qzhm => k_mem); (case qzhi => first | assumption | l_intsW); (case qzhr => first | exact in8_put _ | exact in8_x (by omega) (by omega)); (case qzhn => exact Nat.le_of_ble_eq_true rfl); k_whole); intro h'z t'z k'z F'z N'z z'z; (try k_sweep)))
  have hsm : 0 ≤ sm ∧ sm ≤ 32 ∧ 0 ≤ sh ∧ sh ≤ 4 := by rcases hs with ⟨rfl, rfl⟩ | ⟨rfl, rfl⟩ <;> omega
  k_dflt cell_enter
  clear C N
  w_top off
  k_steps
  · rw [told_0 (by assumption)] at k
    exact k _ _ _ _ _ (by assumption) (news_sub (by assumption) (List.forall_mem_cons.mpr ⟨by k_mem, List.forall_mem_nil _⟩)) (kept_of (by assumption) (by assumption) (by rfl)) (Gr.fresh (by assumption) (by assumption) (by k_mem) (by simp))
  · rw [told_1 (by assumption) (by assumption)] at k
    exact k _ _ _ _ _ (by assumption) (news_sub (by assumption) (List.forall_mem_cons.mpr ⟨by k_mem, List.forall_mem_nil _⟩)) (kept_of (by assumption) (by assumption) (by rfl)) (Gr.fresh (by assumption) (by assumption) (by k_mem) (by simp))
  · rw [told_2 (by assumption) (by assumption) hn] at k
    exact k _ _ _ _ _ (by assumption) (news_sub (by assumption) (List.forall_mem_cons.mpr ⟨by k_mem, List.forall_mem_nil _⟩)) (kept_of (by assumption) (by assumption) (by rfl)) (Gr.fresh (by assumption) (by assumption) (by k_mem) (by simp))
end
theorem told_x {step sh sm : Int} {t ta tb : Tok} {news : List (Addr × Obj)}
    (C : Cx w pT lT mean mg mb A A₀ 540 1700 base h₀ outer env L m s.heap) (N : News h₀ L s.heap news) (hs : ShSm sh sm) (hn : Near step)
    (k : ∀ l tf tb h' tk', Fr h₀ L h' m → News h₀ L h' ((l, pairO (axP sh sm step).1 tf (axP sh sm step).2 tb) :: news) → AllNe l news → Q (.ref l) { s with heap := h', toks := tk' }) :
    wpAny (model PySem.Challenge.rw_on0233_01.row.prog w) A (call (.ref 228) [.int step t, .int sh ta, .int sm tb]) Q E s :=
  told_core C (fun p hp => absurd hp (by simp)) hs hn fun l tf tb h' tk' F' N' K' hf => k l tf tb h' tk' F' (List.forall_mem_cons.mpr ⟨N' _ (.head _), fun p hp => ⟨K' _ _ (N p hp).1 (by simp), (N p hp).2⟩⟩) (new_ne N hf)
theorem axis_n {step sh sm : Int} {t ta tb : Tok} {news : List (Addr × Obj)}
    (C : Cx w pT lT mean mg mb A A₀ 540 1700 base h₀ outer env L m s.heap) (N : News h₀ L s.heap news) (hs : ShSm sh sm) (hn : Near step)
    (k : ∀ l tf tb h' tk', Fr h₀ L h' m → News h₀ L h' ((l, pairO (axP sh sm step).1 tf (axP sh sm step).2 tb) :: news) → AllNe l news → Q (.ref l) { s with heap := h', toks := tk' }) :
    wpAny (model PySem.Challenge.rw_on0233_01.row.prog w) A (call (.ref 158) [.int step t, .int sh ta, .int sm tb]) Q E s := by
  have e := ax_some (sh := sh) (sm := sm) hn
  refine axis_x C N hs (fun f b e' l tf tb h' tk' F' N' hne => ?_) (fun e' => ?_)
  · rw [e] at e'
    have e1 := Option.some.inj e'
    have q1 : (axP sh sm step).1 = f := congrArg Prod.fst e1
    have q2 : (axP sh sm step).2 = b := congrArg Prod.snd e1
    subst q1 q2
    exact k l tf tb h' tk' F' N' hne
  · rw [e] at e'; cases e'
end
end Mine

namespace Mine
section
variable {w : World} {pT : Program} {lT : List Str} {mean : ExcName → Option Value} {mg mb : Str → Option Value} {A A₀ : Around} {base h₀ : Heap} {outer : List Env} {env : Env} {L : Addr} {m : Str → Option Value} {s : Shared} {Q E : Value → Shared → Prop} {news : List (Addr × Obj)} {g : Obj → List (Addr × Obj)}
/-- a table of lambdas: empty, or it holds the one -/
noncomputable def TabSt (qual : Str) (pos : Pos) (ps : Array Value) (news : List (Addr × Obj)) : Prop :=
  ps = #[] ∨ ∃ c' oc vs t, ps = #[rawInt pos.line, rawInt pos.col, .ref c'] ∧ (c', oc) ∈ news ∧ oc.data = .fields vs ∧ vs[1]? = some (.str qual t)
/-- how the table stands behind a call that may have made the lambda -/
noncomputable def TabAft (qual : Str) (pos : Pos) (ps ps' : Array Value) (nt old ext : List (Addr × Obj)) : Prop :=
  (ext = [] ∧ ps' = ps) ∨ ∃ c' oc vs t, ext = [(c', oc)] ∧ ps' = #[rawInt pos.line, rawInt pos.col, .ref c'] ∧ oc.data = .fields vs ∧ vs[1]? = some (.str qual t) ∧ ((∀ q ∈ old, q.1 < c') ∨ (c', oc) ∈ nt)
theorem tab_aft0 {qual : Str} {pos : Pos} {ps : Array Value} {nt old : List (Addr × Obj)} : TabAft qual pos ps ps nt old [] := .inl ⟨rfl, rfl⟩
theorem tab_aft1 {qual : Str} {pos : Pos} {ps : Array Value} {nt old news : List (Addr × Obj)} {c' : Addr} {oc : Obj} {vs : Array Value} {t : Tok} (d1 : oc.data = .fields vs) (d2 : vs[1]? = some (.str qual t)) (hc : (∀ q ∈ news, q.1 < c') ∨ (c', oc) ∈ nt) (hs : ∀ p ∈ old, p ∈ news) :
    TabAft qual pos ps #[rawInt pos.line, rawInt pos.col, .ref c'] nt old [(c', oc)] := .inr ⟨c', oc, vs, t, rfl, rfl, d1, d2, hc.imp (fun h q hq => h q (hs q hq)) fun h => h⟩
theorem tab_fin {qual : Str} {pos : Pos} {c' : Addr} {oc : Obj} {vs : Array Value} {t : Tok} {rest : List (Addr × Obj)} (d1 : oc.data = .fields vs) (d2 : vs[1]? = some (.str qual t)) : TabSt qual pos #[rawInt pos.line, rawInt pos.col, .ref c'] ([(c', oc)] ++ rest) := .inr ⟨c', oc, vs, t, rfl, .head _, d1, d2⟩
theorem updf_self {P : Addr} {o : Obj} (U : UpdF P o news g) : g o = news ∧ (P, o) ∈ news := by
  obtain ⟨pre, post, e, hg, _, _⟩ := U.split
  exact ⟨(hg o).trans e.symm, e ▸ List.mem_append_right _ (.head _)⟩
theorem lam_any {M : Model} {name qual : Str} {params : Arguments} {body : Expr} {scope : Scope} {clos cl : List (Str × Addr)} {pos : Pos} {firstLine : Nat} {cn : Str} {cs : Scope} {ccd : Value} {a c P : Addr} {ps : Array Value} {nt : List (Addr × Obj)} 
    (F : Fr h₀ L s.heap m) (N : News h₀ L s.heap news) (T : Top pT lT mean mg mb h₀) (C : CodeHd h₀ c P) (hcd : ccd = .ref c) (U : UpdF P (tabObj ps) news g) (ht : TabSt qual pos ps nt) (hnt : ∀ p ∈ nt, p ∈ news)
    (hcl : closureFor scope (envX cn cs L a ccd cl) = pure clos)
    (h : ∀ f c' oc vs t ctv h' tk, Fr h₀ L h' m → News h₀ L h' ((f, kla_obj name qual params body scope clos ((mg "__name__").getD .none) c' ctv) :: (c', oc) :: g (tabObj #[rawInt pos.line, rawInt pos.col, .ref c'])) →
      oc.data = .fields vs → vs[1]? = some (.str qual t) → (∀ q ∈ news, q.1 < f) → ((∀ q ∈ news, q.1 < c') ∨ (c', oc) ∈ nt) → Q (.ref f) { s with heap := h', toks := tk }) :
    wpAny M A (makeFunction name qual params (.expr body) scope (envX cn cs L a ccd cl) [] [] [] pos firstLine) Q E s := by
  rcases ht with rfl | ⟨c', oc, vs, t, rfl, hm, hd, hv⟩
  · refine kla_nest F N T C hcd U trivial rfl hcl fun f c' oc vs t ctv h' tk F' N' d1 d2 l1 l2 => ?_
    exact h f c' oc vs t ctv h' tk F' N' d1 d2 (fun q hq => Nat.lt_trans (l1 q hq) l2) (.inl l1)
  · obtain ⟨e1, e2⟩ := updf_self U
    refine kla_hit (c' := c') F N T C hcd e2 ?_ ?_ hcl fun f ctv h' tk F' N' l1 => ?_
    · simp [TriplesOk, rawInt]
    · simp [codeAmong, rawInt]
    · refine h f c' oc vs t ctv h' tk F' (fun p hp => ?_) hd hv l1 (.inr hm)
      rcases List.mem_cons.mp hp with rfl | hp
      · exact N' _ (.head _)
      · rcases List.mem_cons.mp hp with rfl | hp
        · exact N' _ (.tail _ (hnt _ hm))
        · rw [e1] at hp; exact N' _ (.tail _ hp)
/-- a comprehension whose turns each make one object more -/
noncomputable def GrowEnd (h₀ : Heap) (L : Addr) (m : Str → Option Value) (s₁ : Shared) (l : List (Addr × Obj)) (G : Value → Addr × Obj → Prop) (y : Value) (s₂ : Shared) : Prop :=
  ∃ h' tk q, s₂ = { s₁ with heap := h', toks := tk } ∧ Fr h₀ L h' m ∧ News h₀ L h' (q :: l) ∧ AllNe q.1 l ∧ G y q
theorem GrowEnd.intro {s₁ : Shared} {l all : List (Addr × Obj)} {G : Value → Addr × Obj → Prop} {y : Value} {h' : Heap} {tk : Nat} (q : Addr × Obj) (F : Fr h₀ L h' m) (N : News h₀ L h' all) (hs : ∀ p ∈ q :: l, p ∈ all) (hne : AllNe q.1 l) (hg : AllNe q.1 l → G y q) :
    GrowEnd h₀ L m s₁ l G y { s₁ with heap := h', toks := tk } := ⟨h', tk, q, rfl, F, news_sub N hs, hne, hg hne⟩
theorem allNe_app {a : Addr} : ∀ {l r : List (Addr × Obj)}, AllNe a (l ++ r) → AllNe a l ∧ AllNe a r
  | [], _, h => ⟨trivial, h⟩
  | _ :: _, _, h => ⟨⟨h.1, (allNe_app h.2).1⟩, (allNe_app h.2).2⟩
theorem comp_grow {prog : Program} {elt : Expr} {x : Str} {scope : Scope} {cl : List (Str × Addr)} {S : List (Addr × Obj) → Prop} {P : Nat → Value → Prop} {Fin : List Value → List (Addr × Obj) → Prop}
    (J : Nat → List Value → List (Addr × Obj) → Prop) {n : Nat} (j0 : J 0 [] []) (hS : ∀ qs, S (news ++ qs))
    (hturn : ∀ i ys qs v I oI C oC D m₂ h tk (E' : Value → Shared → Prop), i < n → P i v → J i ys qs → LCg.NsObj oC m₂ → m₂ x = some v → Fr h₀ L h m → News h₀ L h ((I, oI) :: (C, oC) :: (D, LCg.lst ys) :: (news ++ qs)) → AllNe I (news ++ qs) → AllNe C (news ++ qs) → AllNe D (news ++ qs) → (@Ne Nat I C) → (@Ne Nat I D) → (@Ne Nat C D) →
      wpAny (model prog w) A (eval elt (compEnvC scope cl C env)) (GrowEnd h₀ L m { s with heap := h, toks := tk } ((I, oI) :: (C, oC) :: (D, LCg.lst ys) :: (news ++ qs)) (fun y q => J (i + 1) (ys ++ [y]) (qs ++ [q]))) E' { s with heap := h, toks := tk })
    (hdone : ∀ ys qs, J n ys qs → (∀ q ∈ qs, AllNe q.1 news) → Fin ys (news ++ qs)) : LCg.CompRest prog w A h₀ L m env elt x scope cl s S P Fin n 0 [] news := by
  have key := comp_rest (w := w) (A := A) (env := env) (s := s) (m := m) (h₀ := h₀) (L := L) (prog := prog) (elt := elt) (x := x) (scope := scope) (cl := cl) (S := S) (P := P) (Fin := Fin) (σ := List (Addr × Obj)) (fun qs => news ++ qs) (fun i ys qs => J i ys qs ∧ ∀ q ∈ qs, AllNe q.1 news) n ?_ (fun ys qs hj => hdone ys qs hj.1 hj.2) n 0 [] [] (Nat.zero_add n) ⟨j0, fun _ hq => nomatch hq⟩
  · rwa [List.append_nil] at key
  intro i ys qs v I oI C oC D m₂ h tk E' hi hp hj ho hx F N off ne
  obtain ⟨a, b, c⟩ := off3_ne off
  refine wpAny_mono (hturn i ys qs v I oI C oC D m₂ h tk E' hi hp hj.1 ho hx F N a b c ne.1 ne.2.1 ne.2.2) (fun y s' z => ?_) fun _ _ z => z
  obtain ⟨h', tk', q, e, F', N', hne, hg⟩ := z
  have o1 := off.mem
  refine ⟨h', tk', news ++ (qs ++ [q]), e, F', fun p hp => N' p ?_, LCg.Off3.of fun p hp => ?_, hS _, _, rfl, hg, fun r hr => ?_⟩
  · rcases List.mem_cons.mp hp with rfl | hp
    · exact .tail _ (.head _)
    · rcases List.mem_cons.mp hp with rfl | hp
      · exact .tail _ (.tail _ (.head _))
      · rcases List.mem_cons.mp hp with rfl | hp
        · exact .tail _ (.tail _ (.tail _ (.head _)))
        · rw [← List.append_assoc] at hp
          rcases List.mem_append.mp hp with hp | hp
          · exact .tail _ (.tail _ (.tail _ (.tail _ hp)))
          · rw [List.mem_singleton.mp hp]; exact .head _
  · rw [← List.append_assoc] at hp
    rcases List.mem_append.mp hp with hp | hp
    · exact o1 p hp
    · rw [List.mem_singleton.mp hp]
      exact ⟨Ne.symm hne.1, Ne.symm hne.2.1, Ne.symm hne.2.2.1⟩
  · rcases List.mem_append.mp hr with hr | hr
    · exact hj.2 r hr
    · rw [List.mem_singleton.mp hr]
      exact (allNe_app hne.2.2.2).1
theorem all_app {d : Addr} {a b : List (Addr × Obj)} (h : ∀ p ∈ a, p.1 ≠ d) (h' : ∀ p ∈ b, p.1 ≠ d) : ∀ p ∈ a ++ b, p.1 ≠ d := fun p hp => by
  rcases List.mem_append.mp hp with hp | hp
  · exact h p hp
  · exact h' p hp
theorem apart_ne {d : Addr} {o : Obj} {qs l : List (Addr × Obj)} (hA : ∀ q ∈ qs, AllNe q.1 l) (hm : (d, o) ∈ l) : ∀ q ∈ qs, q.1 ≠ d := fun q hq => Ne.symm (allNe_mem (hA q hq) _ hm)
theorem allNe_sub {d : Addr} {r l : List (Addr × Obj)} (h : AllNe d l) (hs : ∀ p ∈ r, p ∈ l) : ∀ p ∈ r, p.1 ≠ d := fun p hp => allNe_mem h p (hs p hp)
theorem below_sub {d : Addr} {r l : List (Addr × Obj)} (h : ∀ p ∈ l, p.1 < d) (hs : ∀ p ∈ r, p ∈ l) : ∀ p ∈ r, p.1 ≠ d := fun p hp => Nat.ne_of_lt (h p (hs p hp))
/-- a comprehension over pairs whose turns leave the ledger as it was -/
theorem comp_sameP {prog : Program} {elt : Expr} {x x₂ : Str} {scope : Scope} {cl : List (Str × Addr)} {S : List (Addr × Obj) → Prop} {P : Nat → Value → Prop} {Fin : List Value → List (Addr × Obj) → Prop}
    (J : Nat → List Value → Prop) {n : Nat}
    (hturn : ∀ i ys v, i < n → P i v → J i ys → ∃ (t : Addr) (v₁ v₂ : Value) (nt : Nat), v = .ref t ∧ (t, ({ cls := .type "tuple", data := .seq #[v₁, v₂] nt } : Obj)) ∈ news ∧
      ∀ I oI C oC D m₂ h tk (E' : Value → Shared → Prop), LCg.NsObj oC m₂ → m₂ x = some v₁ → m₂ x₂ = some v₂ → Fr h₀ L h m → News h₀ L h ((I, oI) :: (C, oC) :: (D, LCg.lst ys) :: news) → LCg.Off3 I C D news →
        wpAny (model prog w) A (eval elt (compEnvC scope cl C env)) (LCg.CompEnd h₀ L m { s with heap := h, toks := tk } I oI C oC D (LCg.lst ys) S (fun y news' => news' = news ∧ J (i + 1) (ys ++ [y]))) E' { s with heap := h, toks := tk })
    (hdone : ∀ ys, J n ys → Fin ys news) : ∀ (k i : Nat) (ys : List Value), i + k = n → J i ys → LCp.CompRestP prog w A h₀ L m env elt x x₂ scope cl s S P Fin k i ys news
  | 0, i, ys, hk, hj => LCp.CompRestP.zero (hdone _ (by rw [Nat.add_zero] at hk; exact hk ▸ hj))
  | k + 1, i, ys, hk, hj => LCp.CompRestP.succ fun v hp => by
    obtain ⟨t, v₁, v₂, nt, e, hm, go⟩ := hturn i ys v (by omega) hp hj
    refine ⟨t, _, v₁, v₂, nt, e, hm, rfl, rfl, fun I oI C oC D m₂ h tk E' ho h1 h2 F N off ne => ?_⟩
    refine wpAny_mono (go I oI C oC D m₂ h tk E' ho h1 h2 F N off) (fun y s' z => ?_) fun _ _ z => z
    obtain ⟨h', tk', news', e', F', N', off', hS, e₂, hj'⟩ := z
    have ih := comp_sameP J hturn hdone k (i + 1) (ys ++ [y]) (by omega) hj'
    exact ⟨h', tk', news', e', F', N', off', hS, by rw [e₂]; exact ih⟩
/-- a comprehension whose turns draw from the purse -/
noncomputable def SrcEnd (h₀ : Heap) (L : Addr) (m : Str → Option Value) (s₁ : Shared) (src : Addr) (l : List (Addr × Obj)) (G : Value → Obj → Prop) (y : Value) (s₂ : Shared) : Prop :=
  ∃ h' tk o', s₂ = { s₁ with heap := h', toks := tk } ∧ Fr h₀ L h' m ∧ News h₀ L h' ((src, o') :: l) ∧ G y o'
theorem SrcEnd.intro {s₁ : Shared} {src : Addr} {l all : List (Addr × Obj)} {G : Value → Obj → Prop} {y : Value} {h' : Heap} {tk : Nat} (o' : Obj) (F : Fr h₀ L h' m) (N : News h₀ L h' all) (hs : ∀ p ∈ (src, o') :: l, p ∈ all) (hg : G y o') :
    SrcEnd h₀ L m s₁ src l G y { s₁ with heap := h', toks := tk } := ⟨h', tk, o', rfl, F, news_sub N hs, hg⟩
theorem comp_purse {prog : Program} {elt : Expr} {x : Str} {scope : Scope} {cl : List (Str × Addr)} {P : Nat → Value → Prop} {Fin : List Value → List (Addr × Obj) → Prop} {src : Addr} {o : Obj}
    (J : Nat → List Value → Obj → Prop) {n : Nat} (j0 : J 0 [] o)
    (hturn : ∀ i ys o v I oI C oC D m₂ h tk (E' : Value → Shared → Prop), i < n → P i v → J i ys o → LCg.NsObj oC m₂ → m₂ x = some v → Fr h₀ L h m → News h₀ L h ((src, o) :: (I, oI) :: (C, oC) :: (D, LCg.lst ys) :: news) → (@Ne Nat src I) → (@Ne Nat src C) → (@Ne Nat src D) → AllNe I news → AllNe C news → AllNe D news → (@Ne Nat I C) → (@Ne Nat I D) → (@Ne Nat C D) →
      wpAny (model prog w) A (eval elt (compEnvC scope cl C env)) (SrcEnd h₀ L m { s with heap := h, toks := tk } src ((I, oI) :: (C, oC) :: (D, LCg.lst ys) :: news) (fun y o' => J (i + 1) (ys ++ [y]) o')) E' { s with heap := h, toks := tk })
    (hdone : ∀ ys o', J n ys o' → Fin ys ((src, o') :: news)) : LCg.CompRest prog w A h₀ L m env elt x scope cl s (fun _ => True) P Fin n 0 [] ((src, o) :: news) := by
  refine comp_rest (σ := Obj) (fun o' => (src, o') :: news) J n ?_ hdone n 0 [] o (Nat.zero_add n) j0
  intro i ys o₁ v I oI C oC D m₂ h tk E' hi hp hj ho hx F N off ne
  obtain ⟨a, b, c⟩ := off3_ne off
  refine wpAny_mono (hturn i ys o₁ v I oI C oC D m₂ h tk E' hi hp hj ho hx F (fun p hp => N p ?_) a.1 b.1 c.1 a.2 b.2 c.2 ne.1 ne.2.1 ne.2.2) (fun y s' z => ?_) fun _ _ z => z
  · rcases List.mem_cons.mp hp with rfl | hp
    · exact .tail _ (.tail _ (.tail _ (.head _)))
    · rcases List.mem_cons.mp hp with rfl | hp
      · exact .head _
      · rcases List.mem_cons.mp hp with rfl | hp
        · exact .tail _ (.head _)
        · rcases List.mem_cons.mp hp with rfl | hp
          · exact .tail _ (.tail _ (.head _))
          · exact .tail _ (.tail _ (.tail _ (.tail _ hp)))
  obtain ⟨h', tk', o', e, F', N', hg⟩ := z
  refine ⟨h', tk', (src, o') :: news, e, F', fun p hp => N' p ?_, ⟨off.1, off.2⟩, trivial, _, rfl, hg⟩
  rcases List.mem_cons.mp hp with rfl | hp
  · exact .tail _ (.head _)
  · rcases List.mem_cons.mp hp with rfl | hp
    · exact .tail _ (.tail _ (.head _))
    · rcases List.mem_cons.mp hp with rfl | hp
      · exact .tail _ (.tail _ (.tail _ (.head _)))
      · rcases List.mem_cons.mp hp with rfl | hp
        · exact .head _
        · exact .tail _ (.tail _ (.tail _ (.tail _ hp)))
end
end Mine

namespace Mine
noncomputable abbrev TO := Addr × Int × Tok × Tok
noncomputable abbrev tObj (sh sm : Int) (e : TO) : Addr × Obj := (e.1, pairO (axP sh sm e.2.1).1 e.2.2.1 (axP sh sm e.2.1).2 e.2.2.2)
noncomputable def ToldIs (sh sm : Int) (ss : List Int) (ys : List Value) (qs : List (Addr × Obj)) : Prop := ∃ es : List TO, ys = es.map (fun e => Value.ref e.1) ∧ qs = es.map (tObj sh sm) ∧ es.map (fun e => e.2.1) = ss
theorem told_nil {sh sm : Int} : ToldIs sh sm [] [] [] := ⟨[], rfl, rfl, rfl⟩
theorem told_snoc {sh sm : Int} {steps : List Int} {ys : List Value} {qs : List (Addr × Obj)} {i : Nat} {l : Addr} {tf tb : Tok} (h : ToldIs sh sm (steps.take i) ys qs) (hi : i < steps.length) :
    ToldIs sh sm (steps.take (i + 1)) (ys ++ [.ref l]) (qs ++ [(l, pairO (axP sh sm (steps.getD i 0)).1 tf (axP sh sm (steps.getD i 0)).2 tb)]) := by
  obtain ⟨es, rfl, rfl, e⟩ := h
  refine ⟨es ++ [(l, steps.getD i 0, tf, tb)], by simp, by simp, ?_⟩
  have := take_map_snoc (fun x : Int => x) hi
  simp only [List.map_id'] at this
  rw [this, List.map_append, e]
  simp
theorem told_len {sh sm : Int} {ss : List Int} {ys : List Value} {qs : List (Addr × Obj)} (h : ToldIs sh sm ss ys qs) : ys.length = ss.length := by
  obtain ⟨es, rfl, rfl, e⟩ := h
  rw [← e]; simp
theorem told_at {sh sm : Int} {ss : List Int} {ys : List Value} {qs : List (Addr × Obj)} {i : Nat} {v : Value} (h : ToldIs sh sm ss ys qs) (hv : ys[i]? = some v) :
    i < ss.length ∧ ∃ (a : Addr) (tf tb : Tok), v = .ref a ∧ (a, pairO (axP sh sm (ss.getD i 0)).1 tf (axP sh sm (ss.getD i 0)).2 tb) ∈ qs := by
  obtain ⟨es, rfl, rfl, e⟩ := h
  rw [List.getElem?_map] at hv
  cases he : es[i]? with
  | none => rw [he] at hv; cases hv
  | some z =>
    rw [he] at hv
    have hlt : i < es.length := (List.getElem?_eq_some_iff.mp he).1
    have hz : z.2.1 = ss.getD i 0 := by
      rw [← e]
      simp [List.getD, he]
    refine ⟨by rw [← e]; simpa using hlt, z.1, z.2.2.1, z.2.2.2, (Option.some.inj hv).symm, ?_⟩
    rw [← hz]
    exact List.mem_map_of_mem (List.mem_of_getElem? he)
theorem near_snoc {ns : List Int} {y : Int} (h : ∀ x ∈ ns, Near x) (hy : Near y) : ∀ x ∈ ns ++ [y], Near x := fun x hx => by
  rcases List.mem_append.mp hx with h1 | h1
  · exact h x h1
  · rw [List.mem_singleton.mp h1]; exact hy
theorem getD_memN {ns : List Int} {i : Nat} (h : i < ns.length) : ns.getD i 0 ∈ ns := by
  rw [List.getD_eq_getElem?_getD, List.getElem?_eq_getElem h]
  exact List.getElem_mem h
theorem apart_snoc {qs qt l : List (Addr × Obj)} {a : Addr} {o : Obj} (h : ∀ r ∈ qs, ∀ q ∈ qt, r.1 ≠ q.1) (hn : AllNe a l) (hs : ∀ p ∈ qt, p ∈ l) : ∀ r ∈ qs ++ [(a, o)], ∀ q ∈ qt, r.1 ≠ q.1 := fun r hr q hq => by
  rcases List.mem_append.mp hr with h1 | h1
  · exact h r h1 q hq
  · rw [List.mem_singleton.mp h1]
    exact Ne.symm (allNe_mem hn _ (hs q hq))
theorem due_snoc {steps : List Int} {i : Nat} {ys : List Value} {t : Tok} (h : IntsAre ys ((List.range i).map fun j => (steps.take (j + 1)).sum)) : IntsAre (ys ++ [.int (steps.take (i + 1)).sum t]) ((List.range (i + 1)).map fun j => (steps.take (j + 1)).sum) := by
  rw [List.range_succ, List.map_append]
  exact IntsAre.append h (.cons _ _ .nil)
theorem due_sums (steps : List Int) : sums 0 steps = (List.range steps.length).map fun j => (steps.take (j + 1)).sum := by
  rw [sums_take]; simp
theorem GrowEnd.mk2 {h₀ : Heap} {L : Addr} {m : Str → Option Value} {s₁ : Shared} {l : List (Addr × Obj)} {G : Value → Addr × Obj → Prop} {y : Value} {h' : Heap} {tk : Nat} {q : Addr × Obj} (F : Fr h₀ L h' m) (N : News h₀ L h' (q :: l)) (hne : AllNe q.1 l) (hg : G y q) :
    GrowEnd h₀ L m s₁ l G y { s₁ with heap := h', toks := tk } := ⟨h', tk, q, rfl, F, N, hne, hg⟩
section
variable {w : World} {pT : Program} {lT : List Str} {mean : ExcName → Option Value} {mg mb : Str → Option Value} {A A₀ : Around} {base h₀ : Heap} {outer : List Env} {env : Env} {L : Addr} {m : Str → Option Value} {s : Shared} {Q E : Value → Shared → Prop} {news : List (Addr × Obj)} {g : Obj → List (Addr × Obj)}
theorem told_ne {sh sm : Int} {ss : List Int} {ys zs : List Value} {qs rs : List (Addr × Obj)} {l b : Addr} {n n' : Nat} (N : News h₀ L s.heap news) (h1 : (l, W.listOf ys.toArray n) ∈ news) (h2 : (b, W.listOf zs.toArray n') ∈ news) (t1 : ToldIs sh sm ss ys qs) (t2 : ToldIs sh sm ss zs rs)
    (m1 : ∀ p ∈ qs, p ∈ news) (m2 : ∀ p ∈ rs, p ∈ news) (hd : ∀ r ∈ rs, ∀ q ∈ qs, r.1 ≠ q.1) (hu : A.units < cLine) (hu1 : A.in1.units < cLine) (h : Q (.bool false) s) : wpAny (model PySem.Challenge.rw_on0233_01.row.prog w) A (compareOp .NotEq (.ref l) (.ref b)) Q E s := by
  obtain ⟨es, rfl, rfl, e⟩ := t1
  obtain ⟨fs, rfl, rfl, f⟩ := t2
  have le : es.length = ss.length := by rw [← e]; simp
  have lf : fs.length = ss.length := by rw [← f]; simp
  have a1 : es.map (fun e => Value.ref e.1) = (es.map fun e => e.1).map Value.ref := by simp
  have a2 : fs.map (fun e => Value.ref e.1) = (fs.map fun e => e.1).map Value.ref := by simp
  rw [a1] at h1
  rw [a2] at h2
  refine pairs_ne (ps := ss.map (axP sh sm)) N h1 h2 (by simp [le]) (by simp [lf]) (fun j h1 h2 h3 => ?_) hu hu1 h
  have j1 : j < es.length := by simpa using h1
  have j2 : j < fs.length := by simpa using h2
  have j3 : j < ss.length := le ▸ j1
  have s1 : es[j].2.1 = ss[j] := by
    have := congrArg (fun l : List Int => l[j]?) e
    simpa [j1, j3] using this
  have s2 : fs[j].2.1 = ss[j] := by
    have := congrArg (fun l : List Int => l[j]?) f
    simpa [j2, j3] using this
  have k1 : tObj sh sm es[j] ∈ es.map (tObj sh sm) := List.mem_map_of_mem (List.getElem_mem j1)
  have k2 : tObj sh sm fs[j] ∈ fs.map (tObj sh sm) := List.mem_map_of_mem (List.getElem_mem j2)
  have z1 := (N _ (m1 _ k1)).1
  have z2 := (N _ (m2 _ k2)).1
  have z3 := hd _ k2 _ k1
  dsimp only [tObj] at z1 z2 z3
  rw [s1] at z1
  rw [s2] at z2
  simp only [List.getElem_map]
  exact ⟨fun q => z3 q.symm, ⟨_, _, z1⟩, _, _, z2⟩
theorem axis_join {a : Addr} {vs : List Value} {steps : List Int} {sh sm : Int} {n : Nat} {t : Tok} (N : News h₀ L s.heap news) (hm : (a, W.listOf vs.toArray n) ∈ news) (hb : BysAre vs (steps.map fun x => (axP sh sm x).2)) (hl : steps.length ≤ 10) (hn : ∀ x ∈ steps, Near x)
    (h : ∀ t' k, Q (.bytes (byteArr (axOc sh sm steps)) t') { s with toks := k }) : wpAny (model PySem.Challenge.rw_on0233_01.row.prog w) A (call (.builtin "bytes.join") [.bytes #[] t, .ref a]) Q E s := by
  have e : (steps.map fun x => (axP sh sm x).2).flatten = axOc sh sm steps := by simp [axOc, List.flatMap]
  have := ax_len (sh := sh) (sm := sm) hn
  rw [← e] at h
  exact by_join N hm hb (by simp; omega) (by rw [e]; omega) h
theorem in8_q : In8 [113] := by decide
theorem rdel_q {x dx lf : Addr} {steps : List Int} {fvs : List Value} {fn : Nat} {sh sm : Int} {k1 k2 t ta tc td : Tok}
    (C : Cx w pT lT mean mg mb A A₀ 520 1600 base h₀ outer env L m s.heap) (N : News h₀ L s.heap news) (hm : (x, W.instObj 126 dx) ∈ news) (U : UpdF dx (octD w k1 k2 (axOc sh sm steps ++ [113]) t 0 ta) news g) (hlm : (lf, W.listOf fvs.toArray fn) ∈ news) (hs : ShSm sh sm) (hn : ∀ x ∈ steps, Near x) (hl : steps.length ≤ 10) (hif : IntsAre fvs (axFl sh sm steps)) (hd : @LT.lt Nat _ dx x) (hd1 : @Ne Nat lf x) (hd2 : @Ne Nat lf dx)
    (k : ∀ l vs n ta' h' tk', IntsAre vs (sums 0 steps) → Fr h₀ L h' m → News h₀ L h' ((l, W.listOf vs.toArray n) :: g (octD w k1 k2 (axOc sh sm steps ++ [113]) t ((axOc sh sm steps).length : Int) ta')) → AllNe l news → Q (.ref l) { s with heap := h', toks := tk' }) :
    wpAny (model PySem.Challenge.rw_on0233_01.row.prog w) A (call (.ref 144) [.ref x, .ref lf, .int sh tc, .int sm td]) Q E s := by
  have hal := ax_len (sh := sh) (sm := sm) hn
  have hb := deltas_back hs hn [113]
  refine rdeltas_x C N hm U hlm (in8_app (ax_in8 hn) in8_q) (by rw [List.length_append]; show _ + 1 ≤ _; omega) hif (by rw [List.length_map]; omega) hd hd1 hd2 (fun fs at' e l vs n ta' h' tk' hi h0 F' N' hne => ?_) (fun e => ?_)
  · rw [hb] at e
    have e' := Option.some.inj e
    have e1 : sums 0 steps = fs := congrArg Prod.fst e'
    have e2 : (axOc sh sm steps).length = at'.toNat := congrArg Prod.snd e'
    have e3 : at' = ((axOc sh sm steps).length : Int) := by omega
    subst e1 e3
    exact k l vs n ta' h' tk' hi F' N' hne
  · rw [hb] at e; cases e
theorem rdel_cut {x dx lf : Addr} {steps : List Int} {fvs : List Value} {fn : Nat} {sh sm : Int} {k1 k2 t ta tc td : Tok}
    (C : Cx w pT lT mean mg mb A A₀ 520 1600 base h₀ outer env L m s.heap) (N : News h₀ L s.heap news) (hm : (x, W.instObj 126 dx) ∈ news) (U : UpdF dx (octD w k1 k2 (axOc sh sm steps).dropLast t 0 ta) news g) (hlm : (lf, W.listOf fvs.toArray fn) ∈ news) (hs : ShSm sh sm) (hn : ∀ x ∈ steps, Near x) (hl : steps.length ≤ 10) (hif : IntsAre fvs (axFl sh sm steps)) (hne : axOc sh sm steps ≠ []) (hd : @LT.lt Nat _ dx x) (hd1 : @Ne Nat lf x) (hd2 : @Ne Nat lf dx)
    (ke : ∀ e h' tk', Flew s.heap [x, dx] (env :: outer) e h' → E (.ref e) { s with heap := h', toks := tk' }) :
    wpAny (model PySem.Challenge.rw_on0233_01.row.prog w) A (call (.ref 144) [.ref x, .ref lf, .int sh tc, .int sm td]) Q E s := by
  have hal := ax_len (sh := sh) (sm := sm) hn
  have hb := deltas_cut hs hn hne
  refine rdeltas_x C N hm U hlm (in8_cut (ax_in8 hn)) (by rw [List.length_dropLast]; omega) hif (by rw [List.length_map]; omega) hd hd1 hd2 (fun fs at' e l vs n ta' h' tk' hi h0 F' N' hne => ?_) (fun _ => ke)
  rw [hb] at e; cases e
theorem by_eq0 {ks : List Int} {t u : Tok} (h : Q (.bool (decide (ks = []))) s) : wpAny (model PySem.Challenge.rw_on0233_01.row.prog w) A (compareOp .Eq (.bytes (byteArr ks) t) (.bytes #[] u)) Q E s := by
  refine eq_bytes ?_
  have e : ((byteArr ks).toList == (#[] : Array UInt8).toList) = decide (ks = []) := by
    rw [byteArr_list]
    cases ks with
    | nil => rfl
    | cons a r => simp
  rw [e]; exact h
end
end Mine

namespace Mine
section
variable {w : World} {pT : Program} {lT : List Str} {mean : ExcName → Option Value} {mg mb : Str → Option Value} {A A₀ : Around} {base h₀ : Heap} {outer : List Env} {env : Env} {L : Addr} {m : Str → Option Value} {s : Shared} {Q E : Value → Shared → Prop}
section
theorem aright_core {src : Addr} {o : Obj} {ps : Array Value} {sh sm : Int} {t1 t2 : Tok} {nt rest : List (Addr × Obj)}
    (C : Cx w pT lT mean mg mb A A₀ 400 1000 base h₀ outer env L m s.heap) (XB : (theHeap w.params).In base) (TB : Top pT lT mean mg mb base) (Dk : KtsDicts (framesOf outer) h₀) (CB : CodeHd base 232 230)
    (N : News h₀ L s.heap ((src, o) :: (230, tabObj ps) :: rest)) (hT : TabSt (Str.ofString "_law_axis_right.<locals>.<lambda>") ⟨178, 41, 178, 101⟩ ps nt) (hnt : ∀ p ∈ nt, p ∈ rest) (hs : SrcOk o) (hsh : ShSm sh sm) (h9 : @Ne Nat 230 src) (hr1 : AllNe src rest) (hr2 : AllNe 230 rest)
    (k : ∀ h₀' o' ps' ext h' tk', KtsTurn (framesOf outer) h₀ h₀' → SrcOk o' → Fr h₀' L h' m → News h₀' L h' ((src, o') :: (230, tabObj ps') :: (ext ++ rest)) → TabAft (Str.ofString "_law_axis_right.<locals>.<lambda>") ⟨178, 41, 178, 101⟩ ps ps' nt ((src, o') :: (230, tabObj ps) :: rest) ext → Below A₀ base outer h₀' → (theHeap w.params).In h₀' → Top pT lT mean mg mb h₀' → KtsDicts (framesOf outer) h₀' → Q (.bool true) { s with heap := h', toks := tk' }) :
    wpAny (model PySem.Challenge.rw_on0233_01.row.prog w) A (call (.ref 233) [.ref src, .int sh t1, .int sm t2]) Q E s := by
  k_with_none
  k_with "omega" => first | with_reducible assumption | decide | (with_reducible exact oN1 (by with_reducible assumption) (by decide)) | (with_reducible exact oN2 (by with_reducible assumption) (by decide)) | (with_reducible exact oN3 (by with_reducible assumption) (by decide)) | (with_reducible exact oN4 (by with_reducible assumption) (by decide)) | (with_reducible exact oN5 (by with_reducible assumption) (by decide)) | (with_reducible exact oN6 (by with_reducible assumption) (by decide)) | (with_reducible exact oN7 (by with_reducible assumption) (by decide)) | (with_reducible exact oN8 (by with_reducible assumption) (by decide)) | (with_reducible exact oI1 (by with_reducible assumption) (by decide)) | (with_reducible exact oI2 (by with_reducible assumption) (by decide)) | (with_reducible exact oI3 (by with_reducible assumption) (by decide)) | (with_reducible exact oI4 (by with_reducible assumption) (by decide)) | (with_reducible exact oI5 (by with_reducible assumption) (by decide)) | (with_reducible exact oI6 (by with_reducible assumption) (by decide)) | (with_reducible exact oI7 (by with_reducible assumption) (by decide)) | (with_reducible exact oI8 (by with_reducible assumption) (by decide)) | fail
  k_with "k_pk" => first | exact lA0 | exact lA1 | exact lA2 | exact lA3 | exact lA4 | exact lE1 | exact lE2 | exact lE3 | exact lE4 | exact lE5 | (refine cF ?_; k_extra "k_pk")
  k_with "k_pe" => first | exact eA0 | exact eA1 | exact eA2 | exact eA3 | exact eA4 | exact eE1 | exact eE2 | exact eE3 | exact eE4 | exact eE5 | (refine cF ?_; k_extra "k_pe")
  k_with "k_ltN" => with_reducible first | assumption | exact pL (by with_reducible assumption) (by k_extra "k_pk")
  k_with "k_ne" => (refine neN ?_; (try dsimp only); first | (with_reducible first | exact n01 | exact n02 | exact n03 | exact n04 | exact n05 | exact n01.symm | exact n02.symm | exact n03.symm | exact n04.symm | exact n05.symm | with_reducible assumption | exact Ne.symm (by with_reducible assumption) | exact Nat.ne_of_lt (by k_extra "k_ltN") | exact Nat.ne_of_gt (by k_extra "k_ltN") | exact nS1 (by k_extra "k_ltN") | exact Ne.symm (nS1 (by k_extra "k_ltN")) | exact nS2 (by k_extra "k_ltN") | exact Ne.symm (nS2 (by k_extra "k_ltN")) | exact nS3 (by k_extra "k_ltN") | exact Ne.symm (nS3 (by k_extra "k_ltN")) | exact nS4 (by k_extra "k_ltN") | exact Ne.symm (nS4 (by k_extra "k_ltN")) | exact nS5 (by k_extra "k_ltN") | exact Ne.symm (nS5 (by k_extra "k_ltN")) | exact nS6 (by k_extra "k_ltN") | exact Ne.symm (nS6 (by k_extra "k_ltN")) | exact nT (by with_reducible assumption) (by k_extra "k_ltN") | exact Ne.symm (nT (by with_reducible assumption) (by k_extra "k_ltN")) | exact pN (by with_reducible assumption) (by k_extra "k_pe") | exact Ne.symm (pN (by with_reducible assumption) (by k_extra "k_pe"))) | (first | exact ne_of_all (by with_reducible assumption) (by k_mem) | exact Ne.symm (ne_of_all (by with_reducible assumption) (by k_mem))) | omega | exact ne_of_all (by assumption) (by k_mem) | exact Ne.symm (ne_of_all (by assumption) (by k_mem)))
  k_with "k_all" => (first | exact List.forall_mem_nil _ | (refine' List.forall_mem_cons.mpr ⟨?qza, ?qzb⟩; (case qza => k_ne); (case qzb => k_all)) | (refine all_app ?_ ?_; (focus k_all); k_all) | exact allNe_mem (by assumption) | exact below_ne (by assumption) (by (try dsimp only); first | exact leS1 (by k_extra "k_ltN") | omega) | exact apart_ne (by assumption) (by k_mem) | exact allNe_sub (by assumption) (fun p hp => by (repeat (first | exact hp | exact List.mem_append_right _ hp | exact List.mem_append_left _ hp | exact List.mem_append_left _ (List.mem_append_right _ hp) | exact List.mem_append_left _ (List.mem_append_left _ hp) | apply List.Mem.tail))) | exact below_sub (by assumption) (fun p hp => by (repeat (first | exact hp | exact List.mem_append_right _ hp | exact List.mem_append_left _ hp | exact List.mem_append_left _ (List.mem_append_right _ hp) | exact List.mem_append_left _ (List.mem_append_left _ hp) | apply List.Mem.tail))))
  k_with "call ref" => ((k_here; (with_reducible show wpAny _ _ (call (Value.ref 126) [Value.bytes (byteArr _) _]) _ _ _); k_dflt (refine' octo_x ?qzC ?qzN ?_; (case qzC => exact ⟨⟨rfl, Nat.le_of_ble_eq_true rfl, rfl, rfl, Nat.le_of_ble_eq_true rfl⟩, rfl, rfl, by k_asm, by k_asm, by k_asm, by k_asm⟩); (case qzN => k_asm); k_whole); intro x'z d'z k1'z k2'z t'z ta'z h'z tk'z F'z N'z l1 l2; have l1'z := l1; have l2'z := ltN l2; (try k_lt l1); (try k_sweep)))
  k_with "compareOp NotEq ref ref" => ((k_here; k_dflt (refine' ints_ne ?qzN ?qzh1 ?qzh2 ?qzhi ?qzhj ?qze ?qzhu ?_; (case qzN => k_asm); (case qzh1 => k_mem); (case qzh2 => k_mem); (case qzhi => first | assumption | exact IntsAre.nil | l_intsW); (case qzhj => first | assumption | exact IntsAre.nil | l_intsW); (case qze => first | rfl | assumption); (case qzhu => exact Nat.le_of_ble_eq_true rfl); k_whole)))
  k_with "call builtin:len" => ((k_here; (with_reducible show wpAny _ _ (call (Value.builtin "len") [Value.ref _]) _ _ _); k_dflt (refine' len_ints ?qzN ?qzhm ?qzhi ?qzhz (fun t'z k'z => ?_); (case qzN => k_asm); (case qzhm => k_mem); (case qzhi => assumption); (case qzhz => first | exact flag_len (by assumption) | assumption | omega); k_whole)))
  k_with "compareOp NotEq int int" => ((k_here; with_reducible refine ne_same ?_))
  k_with "callWith ref" => ((k_here; k_dflt (first | (refine' callWith_K ?qzk1 ?qzk2 ?_; (case qzk1 => k_asm); (case qzk2 => k_is); k_whole) | (refine' callWith_K0 ?qzk1 ?qzk2 ?_; (case qzk1 => k_in); (case qzk2 => k_is); k_whole))))
  k_with "Flies" => ((k_dflt (refine' flies_of ?qzho ?qzhc ?qzhd ?qzhv ?qzhb ?qzco ?qzge ?qzki ?qzce ?_; (case qzho => k_mem); (case qzhc => k_mem); (case qzhd => assumption); (case qzhv => assumption); (case qzhb => exact rfl); (case qzco => exact rfl); (case qzge => exact rfl); (case qzki => exact rfl); (case qzce => decide)); intro s'z en'z g'z L'z h'z tk'z G'z nL'z F'z N'z B'z X'z T'z lt'z; (try dsimp only); (try k_fold)))
  k_with "leaving ref" => ((k_here; refine' leave_pure ?qzR ?qzhA ?qzhf ?qzK ?qzF ?qzN ?qzG ?qzhL ?qzdi ?qzhd ?_; (case qzR => assumption); (case qzhA => exact rfl); (case qzhf => exact rfl); (case qzK => k_asm); (case qzF => k_asm); (case qzN => k_asm); (case qzG => k_asm); (case qzhL => assumption); (case qzdi => exact fresh2 (by assumption) (by assumption) (by k_mem) (by k_mem) (by assumption) (by assumption)); (case qzhd => first | exact fun p hp => hp | exact fun p hp => List.Mem.tail _ (List.Mem.tail _ hp)); k_whole; intro hz'z fz'z; exact FlewAt.intro fz'z))
  k_with "call ref" => ((k_here; (with_reducible show wpAny _ _ (call (Value.ref 207) _) _ _ _); k_dflt (refine' refused_core ?qzC ?qzXB ?qzTB ?qzDk ?qzN ?qzhlm ?_ (fun h0'z h'z tk'z Tt'z F'z N'z B'z X'z T'z D'z => ?_); (case qzC => exact ⟨⟨rfl, Nat.le_of_ble_eq_true rfl, rfl, rfl, Nat.le_of_ble_eq_true rfl⟩, rfl, rfl, by k_asm, by k_asm, by k_asm, by k_asm⟩); (case qzXB => assumption); (case qzTB => assumption); (case qzDk => assumption); (case qzN => k_asm); (case qzhlm => k_mem); k_whole); (all_goals (try k_sweep))))
  k_with "LeaveT" => ((k_dflt (refine' LeaveT.intro ?qzT ?qzF ?qzN ?_; (case qzF => k_asm); (case qzN => k_asm); (case qzT => first | assumption | exact KtsTurn.refl | exact KtsTurn.trans (by assumption) (by assumption)); k_whole); intro h0'z Tt'z Ft'z Nt'z Bt'z Xt'z Pt'z Dt'z))
  k_with "call ref" => ((k_here; (with_reducible show wpAny _ _ (call (Value.ref 221) _) _ _ _); k_dflt (refine' step_x ?qzC ?qzN ?qzU ?qzhs ?_; (case qzC => exact ⟨⟨rfl, Nat.le_of_ble_eq_true rfl, rfl, rfl, Nat.le_of_ble_eq_true rfl⟩, rfl, rfl, by k_asm, by k_asm, by k_asm, by k_asm⟩); (case qzN => k_asm); (case qzU => k_updF); (case qzhs => assumption); k_whole); intro x'z tx'z o'z h'z tk'z hx'z hs'z F'z N'z; (try dsimp only at N'z); (try k_sweep)))
  k_with "call ref" => ((k_here; (with_reducible show wpAny _ _ (call (Value.ref 158) _) _ _ _); k_dflt (refine' axis_n ?qzC ?qzN ?qzhs ?qzhn ?_; (case qzC => exact ⟨⟨rfl, Nat.le_of_ble_eq_true rfl, rfl, rfl, Nat.le_of_ble_eq_true rfl⟩, rfl, rfl, by k_asm, by k_asm, by k_asm, by k_asm⟩); (case qzN => k_asm); (case qzhs => assumption); (case qzhn => assumption); k_whole); intro l'z tf'z tb'z h'z tk'z F'z N'z hne'z; (try k_sweep)))
  k_with "call ref" => ((k_here; (with_reducible show wpAny _ _ (call (Value.ref 228) _) _ _ _); k_dflt (refine' told_x ?qzC ?qzN ?qzhs ?qzhn ?_; (case qzC => exact ⟨⟨rfl, Nat.le_of_ble_eq_true rfl, rfl, rfl, Nat.le_of_ble_eq_true rfl⟩, rfl, rfl, by k_asm, by k_asm, by k_asm, by k_asm⟩); (case qzN => k_asm); (case qzhs => assumption); (case qzhn => assumption); k_whole); intro l'z tf'z tb'z h'z tk'z F'z N'z hne'z; (try k_sweep)))
  k_with "exec Assign cons ListComp" => ((k_here; k_dflt (refine LCg.Assign_ListComp_U (F₀ := by k_asm) (by rfl) (by with_unfolding_all rfl) (by with_unfolding_all rfl) (by decide) (by rfl) (by decide) (by rfl) (by rfl) (by rfl) ?_)))
  k_with "FinA" => (((unfold LCg.FinA); intro D'z h'z tk'z F'z N'z o1'z; (have o2'z := off1_ne o1'z); (try simp only [List.nil_append, List.cons_append] at N'z o2'z); (try dsimp only)))
  k_with "eval Lambda" => ((k_here; k_dflt (refine' kla_eval ?qzd0 ?_; (case qzd0 => exact rfl); refine' lam_any ?qzF ?qzN ?qzT ?qzC ?qzcd ?qzU ?qzt ?qznt ?qzcl ?_; (case qzF => k_asm); (case qzN => k_asm); (case qzT => k_asm); (case qzcd => exact rfl); (case qzC => kn_code); (case qzU => k_updF); (case qzt => k_extra "tab"); (case qznt => k_extra "nt"); (case qzcl => exact rfl); k_whole); intro f'z c'z oc'z vs'z t'z ct'z h'z tk'z F'z N'z d1'z d2'z l1 hc'z; (try dsimp only at N'z); (try k_lt l1)))
  k_with "subscriptTail" => ((k_here; (with_reducible show wpAny _ _ (subscriptTail _ (Expr.Slice none _ none _) (Value.bytes _ _) (Value.ref _)) _ _ _); k_dflt (refine' cut_tail (s := ⟨_, _, _, _, _⟩) ?qzF ?qzN ?qzr ?qzz ?_ ?qzhs ?qzht; (case qzF => k_asm); (case qzN => k_asm); (case qzr => exact ax_in8 (by assumption)); (case qzz => omega); (case qzhs => with_unfolding_all rfl); (case qzht => (intro _; with_unfolding_all rfl)); k_whole); intro h'z t'z k'z F'z N'z))
  k_with "SrcEnd" => (((rename News _ _ _ _ => nE'z); k_dflt (refine' SrcEnd.intro _ ?qzF nE'z ?qzsub ?qzg; (case qzF => assumption); (case qzsub => kst_in); (case qzg => k_extra "purse"))))
  k_with "GrowEnd" => (((rename News _ _ _ _ => nE'z); k_dflt (refine' GrowEnd.mk2 ?qzF nE'z ?qzne ?qzg; (case qzF => assumption); (case qzne => assumption); (case qzg => k_extra "grow"))))
  k_with "SrcLP" => ((k_dflt (k_extra "csp")))
  k_with "compareOp NotEq ref ref" => ((k_here; k_dflt (k_extra "tne")))
  k_with "getMethod bytes" => ((k_here; with_reducible refine join_method ?_))
  k_with "call builtin:bytes.join" => ((k_here; k_dflt (refine' axis_join ?qzN ?qzhm ?qzhb ?qzhl ?qzhn (fun t'z k'z => ?_); (case qzN => k_asm); (case qzhm => k_mem); (case qzhb => assumption); (case qzhl => omega); (case qzhn => assumption); k_whole)))
  k_with "binaryOp Add bytes bytes" => ((k_here; k_dflt (refine' by_q ?qzha (fun t'z k'z => ?_); (case qzha => omega); k_whole)))
  k_with "call ref" => ((k_here; (with_reducible show wpAny _ _ (call (Value.ref 144) _) _ _ _); k_dflt (refine' rdel_q ?qzC ?qzN ?qzhm ?qzU ?qzhlm ?qzhs ?qzhn ?qzhl ?qzhif ?qzhd ?qzhd1 ?qzhd2 ?_; (case qzC => exact ⟨⟨rfl, Nat.le_of_ble_eq_true rfl, rfl, rfl, Nat.le_of_ble_eq_true rfl⟩, rfl, rfl, by k_asm, by k_asm, by k_asm, by k_asm⟩); (case qzN => k_asm); (case qzhm => k_mem); (case qzU => k_updF); (case qzhlm => k_mem); (case qzhs => assumption); (case qzhn => assumption); (case qzhl => omega); (case qzhif => assumption); (case qzhd => assumption); (case qzhd1 => k_ne); (case qzhd2 => k_ne); k_whole); intro l'z vs'z n'z ta'z h'z tk'z hi'z F'z N'z hne'z; (try dsimp only at N'z); (try k_sweep)))
  k_with "call ref" => ((k_here; (with_reducible show wpAny _ _ (call (Value.ref 144) _) _ _ _); k_dflt (refine' rdel_cut ?qzC ?qzN ?qzhm ?qzU ?qzhlm ?qzhs ?qzhn ?qzhl ?qzhif ?qzhe ?qzhd ?qzhd1 ?qzhd2 (fun e1'z h1'z tk1'z R1'z => ?_); (case qzC => exact ⟨⟨rfl, Nat.le_of_ble_eq_true rfl, rfl, rfl, Nat.le_of_ble_eq_true rfl⟩, rfl, rfl, by k_asm, by k_asm, by k_asm, by k_asm⟩); (case qzN => k_asm); (case qzhm => k_mem); (case qzU => k_updF); (case qzhlm => k_mem); (case qzhs => assumption); (case qzhn => assumption); (case qzhl => omega); (case qzhif => assumption); (case qzhe => first | assumption | exact of_decide_eq_false (by assumption) | exact fun e => (by assumption : ¬ (decide _ = true)) (decide_eq_true e)); (case qzhd => assumption); (case qzhd1 => k_ne); (case qzhd2 => k_ne); k_whole); (try k_sweep)))
  k_with "call builtin:len" => ((k_here; (with_reducible show wpAny _ _ (call (Value.builtin "len") [Value.bytes _ _]) _ _ _); k_dflt (refine' len_by ?qzhz (fun t'z k'z => ?_); (case qzhz => omega); k_whole)))
  k_with "compareOp Eq bytes bytes" => ((k_here; (with_reducible show wpAny _ _ (compareOp _ (Value.bytes (byteArr _) _) (Value.bytes #[] _)) _ _ _); k_dflt (refine' by_eq0 ?_; k_whole)))
  k_with "call ref" => ((k_here; (with_reducible show wpAny _ _ (call (Value.ref 179) _) _ _ _); k_dflt (refine' take_spec ?qzC ?qzN ?qzU ?qzhs ?qzht ?qzhu ?_; (case qzC => exact ⟨⟨rfl, Nat.le_of_ble_eq_true rfl, rfl, rfl, Nat.le_of_ble_eq_true rfl⟩, rfl, rfl, by k_asm, by k_asm, by k_asm, by k_asm⟩); (case qzN => k_asm); (case qzU => k_updF); (case qzhs => assumption); (case qzht => decide); (case qzhu => decide); k_whole); intro r'z tr'z o'z h'z tk'z r0'z r1'z hs'z F'z N'z; (try dsimp only at N'z); (try k_sweep)))
  k_with "ksw_same" => ((intro z h2 h3; (try simp only [List.forall_mem_cons, List.not_mem_nil, false_implies, implies_true, and_true, ne_eq] at h2); (try simp only [List.contains_cons, List.contains_nil, Bool.or_false, Bool.or_eq_false_iff, beq_eq_false_iff_ne, ne_eq] at h3); (simp [kstB, h2, h3]; done)))
  k_with "TsPost" => (dsimp only [TsPost])
  k_with "eval ListComp" => ((k_here; (with_reducible show wpAny _ _ (eval (Expr.ListComp _ [Comprehension.mk (Expr.Name _ _) _ _ _] _ _) _) _ _ _); k_dflt (refine LCg.ListComp_U (F₀ := by k_asm) (by with_unfolding_all rfl) (by decide) (by rfl) (by decide) (by rfl) ?_)))
  k_with "CompSrc" => ((k_dflt (k_extra "cs")))
  k_with "CompEnd" => (((rename News _ _ _ _ => nE'z); k_dflt (refine' LCg.CompEnd.intro ?qzF nE'z _ ?qzsub ?qzoff ?qzS ?qzr; (case qzr => (refine' And.intro rfl ?qzj; (case qzj => k_extra "turn"))); (case qzF => assumption); (case qzsub => kst_in); (case qzoff => assumption); (case qzS => first | exact True.intro | exact Or.inr ⟨_, by k_mem, rfl, _, rfl⟩))))
  k_with "FinE" => (((unfold LCg.FinE); intro D'z h'z tk'z F'z N'z o1'z; (have o2'z := off1_ne o1'z); (try simp only [List.nil_append, List.cons_append] at N'z); (try dsimp only)))
  k_with "eval ListComp" => ((k_here; (with_reducible show wpAny _ _ (eval (Expr.ListComp _ [Comprehension.mk (Expr.Tuple _ _ _) _ _ _] _ _) _) _ _ _); k_dflt (refine LCp.ListComp_P (F₀ := by k_asm) (by with_unfolding_all rfl) (by decide) (by rfl) (by decide) (by rfl) (by rfl) (by decide) ?_)))
  k_dflt (refine' enter_turnC C XB TB Dk N ?k6 ?k7 ?k8 ?k9 ?kB ?nd ?_ ?c2 ?c3 ?c4; (case k6 => k_is); (case k7 => k_is); (case k8 => decide); (case k9 => exact BindsTo.of_eq rfl); (case kB => exact rfl); (case nd => decide +kernel); (case c2 => exact rfl); (case c3 => exact rfl); (case c4 => exact rfl))
  intro g' L' h' tk' cells' X0' T0' G' nL' F' N' Y' B' X' T' D' lt'
  have hab : AllBelow L' rest := fun p hp => lt' p (.tail _ (.tail _ hp))
  have hsl : @LT.lt Nat _ src L' := lt' _ (.head _)
  have h9l : @LT.lt Nat _ 230 L' := lt' _ (.tail _ (.head _))
  clear lt'
  k_cells Y'
  (try simp only [List.cons_append, List.nil_append] at N')
  (try dsimp only)
  (try k_fold)
  clear C N
  k_with "cs" => first
    | ((with_reducible show LCg.CompSrc _ _ _ _ _ _ _ _ (Str.ofString "turn") _ _ _ _ _)
       rename_i o1c o2c o3c o4c o5c o6c d1c d2c d3c d4c d5c d6c F1 N1 h2 tk2 t1 u1 v1 aR aF aN aK
       refine' LCg.CompSrc.range (news := (src, o'z) :: (L' + 1 + 1 + 1 + 1 + 1 + 1, o1c) :: (L' + 1 + 1 + 1 + 1 + 1, o2c) :: (L' + 1 + 1 + 1 + 1, o3c) :: (L' + 1 + 1 + 1, o4c) :: (L' + 1 + 1, o5c) :: (L' + 1, o6c) :: (230, tabObj ps) :: rest) (n := (1 + r'z).toNat) ?hh1 ?F1 ?N1 ?hr1 ?hs1 ?hn1 ?hz1 ?_
       case hh1 => rfl
       case F1 => assumption
       case N1 => exact news_sub (by assumption) (by kst_in)
       case hr1 => assumption
       case hs1 => exact small_one (by omega) (by omega) (by omega) (by omega)
       case hn1 => exact (rangeSize_nat _ _).trans (by rw [Int.sub_zero])
       case hz1 => (rw [sizeLine_eq]; omega)
       intro g1
       refine' comp_purse (fun i ys o => SrcOk o ∧ ∃ ns, IntsAre ys ns ∧ ns.length = i ∧ ∀ x ∈ ns, Near x) ⟨by assumption, [], .nil, rfl, by simp⟩ ?turn1 ?done1
       case' turn1 =>
         intro ic ys oP v I oI C oC D m₂ hc tkc E' hic hpc hjc hoc hxc Fc Nc nsI nsC nsD neI neC neD nIC nID nCD
         obtain ⟨hsP, ns, hIv, hln, hnr⟩ := hjc
         obtain ⟨tv, rfl⟩ := hpc
         (try dsimp only at Fc Nc ⊢)
       case' done1 =>
         rintro ysS oP ⟨hsP, steps, hSt, hSl, hSn⟩
         have hS1 : 1 ≤ steps.length := by omega
         have hS6 : steps.length ≤ 6 := by omega
         have hAl := ax_len (sh := sh) (sm := sm) hSn)
    | ((with_reducible show LCg.CompSrc _ _ _ _ _ _ _ (Expr.Call (Expr.Name (Str.ofString "axis_flag") _) _ _ _) _ _ _ _ _ _)
       refine' LCg.CompSrc.ledger (its := ysS.toArray) ?hh2 ?F2 ?N2 ?hm2 ?hz2 ?_
       case hh2 => rfl
       case F2 => assumption
       case N2 => assumption
       case hm2 => k_mem
       case hz2 => (rw [List.size_toArray, hSt.length, sizeLine_eq]; omega)
       intro g2
       rw [List.size_toArray, hSt.length]
       refine' comp_grow (fun i ys qs => ToldIs sh sm (steps.take i) ys qs) told_nil ?hS2 ?turn2 ?done2
       case hS2 => exact fun qs => Or.inr ⟨_, List.mem_append_left _ (by k_mem), rfl, _, rfl⟩
       case' turn2 =>
         intro ic ys qs v I oI C oC D m₂ hc tkc E' hic hpc hjc hoc hxc Fc Nc neI neC neD nIC nID nCD
         obtain ⟨-, tv, rfl⟩ := ints_at hSt (by simpa using hpc)
         have hNear := hSn _ (getD_memN hic)
         (try simp only [List.cons_append] at Nc neI neC neD ⊢)
         (try dsimp only at Fc Nc ⊢)
       case' done2 =>
         (intro ysT qsT hTold hApT; rw [List.take_length] at hTold))
    | ((with_reducible show LCg.CompSrc _ _ _ _ _ _ _ (Expr.Call (Expr.Name (Str.ofString "_law_told") _) _ _ _) _ _ _ _ _ _)
       refine' LCg.CompSrc.ledger (its := ysS.toArray) ?hh3 ?F3 ?N3 ?hm3 ?hz3 ?_
       case hh3 => rfl
       case F3 => assumption
       case N3 => assumption
       case hm3 => k_mem
       case hz3 => (rw [List.size_toArray, hSt.length, sizeLine_eq]; omega)
       intro g3
       rw [List.size_toArray, hSt.length]
       refine' comp_grow (fun i ys qs => ToldIs sh sm (steps.take i) ys qs) told_nil ?hS3 ?turn3 ?done3
       case hS3 => exact fun qs => Or.inr ⟨_, List.mem_append_left _ (by k_mem), rfl, _, rfl⟩
       case' turn3 =>
         intro ic ys qs v I oI C oC D m₂ hc tkc E' hic hpc hjc hoc hxc Fc Nc neI neC neD nIC nID nCD
         obtain ⟨-, tv, rfl⟩ := ints_at hSt (by simpa using hpc)
         have hNear := hSn _ (getD_memN hic)
         (try simp only [List.cons_append] at Nc neI neC neD ⊢)
         (try dsimp only at Fc Nc ⊢)
       case' done3 =>
         (intro ysU qsU hToldU hApU; rw [List.take_length] at hToldU))
    | ((with_reducible show LCg.CompSrc _ _ _ _ _ _ _ _ (Str.ofString "nr") _ _ _ _ _)
       refine' LCg.CompSrc.range (n := steps.length) ?hh4 ?F4 ?N4 ?hr4 ?hs4 ?hn4 ?hz4 ?_
       case hh4 => rfl
       case F4 => assumption
       case N4 => assumption
       case hr4 => assumption
       case hs4 => exact small_one (by omega) (by omega) (by omega) (by omega)
       case hn4 => (rw [rangeSize_nat]; omega)
       case hz4 => (rw [sizeLine_eq]; omega)
       intro g4
       refine' comp_same (fun i ys => IntsAre ys ((List.range i).map fun j => (steps.take (j + 1)).sum)) .nil ?turn4 ?done4
       case' turn4 =>
         intro ic ys v I oI C oC D m₂ hc tkc E' hic hpc hjc hoc hxc Fc Nc offc neI neC neD nIC nID nCD
         obtain ⟨tv, rfl⟩ := hpc
         (try dsimp only at Fc Nc ⊢)
       case' done4 => (intro ysD hDue; rw [← due_sums] at hDue))
  k_with "csp" => first
    | ((with_reducible show LCp.SrcLP _ _ _ _ _ _ _ (Expr.Name (Str.ofString "some") _) _ _ _ _ _ _ _)
       refine' LCp.SrcLP.ledger (its := ysT.toArray) ?hh5 ?F5 ?N5 ?hm5 ?hz5 ?_
       case hh5 => rfl
       case F5 => assumption
       case N5 => assumption
       case hm5 => k_mem
       case hz5 => (rw [List.size_toArray, told_len hTold, sizeLine_eq]; omega)
       intro g5
       rw [List.size_toArray, told_len hTold]
       refine' comp_sameP (fun i ys => BysAre ys ((steps.take i).map fun x => (axP sh sm x).2)) ?turn5 ?done5 _ 0 [] (Nat.zero_add _) BysAre.nil
       case' turn5 =>
         intro ic ys v hic hpc hjc
         obtain ⟨hic2, ea, etf, etb, rfl, hmq⟩ := told_at hTold (by simpa using hpc)
         refine' ⟨ea, _, _, _, rfl, (by (repeat (first | exact hmq | exact List.mem_append_right _ hmq | exact List.mem_append_left _ hmq | exact List.mem_append_left _ (List.mem_append_right _ hmq) | apply List.Mem.tail))), ?_⟩
         intro I oI C oC D m₂ hc tkc E' hoc hx1c hx2c Fc Nc offc
         (try dsimp only at Fc Nc ⊢)
       case' done5 => (intro ysO hOct; rw [List.take_length] at hOct))
    | ((with_reducible show LCp.SrcLP _ _ _ _ _ _ _ (Expr.Name (Str.ofString "flag") _) _ _ _ _ _ _ _)
       refine' LCp.SrcLP.ledger (its := ysT.toArray) ?hh6 ?F6 ?N6 ?hm6 ?hz6 ?_
       case hh6 => rfl
       case F6 => assumption
       case N6 => assumption
       case hm6 => k_mem
       case hz6 => (rw [List.size_toArray, told_len hTold, sizeLine_eq]; omega)
       intro g6
       rw [List.size_toArray, told_len hTold]
       refine' comp_sameP (fun i ys => IntsAre ys ((steps.take i).map fun x => (axP sh sm x).1)) ?turn6 ?done6 _ 0 [] (Nat.zero_add _) .nil
       case' turn6 =>
         intro ic ys v hic hpc hjc
         obtain ⟨hic2, ea, etf, etb, rfl, hmq⟩ := told_at hTold (by simpa using hpc)
         refine' ⟨ea, _, _, _, rfl, (by (repeat (first | exact hmq | exact List.mem_append_right _ hmq | exact List.mem_append_left _ hmq | exact List.mem_append_left _ (List.mem_append_right _ hmq) | apply List.Mem.tail))), ?_⟩
         intro I oI C oC D m₂ hc tkc E' hoc hx1c hx2c Fc Nc offc
         (try dsimp only at Fc Nc ⊢)
       case' done6 => (intro ysF hFlg; rw [List.take_length] at hFlg))
  k_with "grow" => exact told_snoc hjc hic
  k_with "tne" => (
    refine' told_ne ?N7 ?h17 ?h27 hTold hToldU ?m17 ?m27 (fun r hr q hq => Ne.symm (allNe_mem (hApU r hr) q (by have hp := hq; (repeat (first | exact hp | exact List.mem_append_right _ hp | exact List.mem_append_left _ hp | exact List.mem_append_left _ (List.mem_append_right _ hp) | exact List.mem_append_left _ (List.mem_append_left _ hp) | apply List.Mem.tail))))) ?u17 ?u27 ?_
    case N7 => assumption
    case h17 => k_mem
    case h27 => k_mem
    case m17 => exact fun p hp => by (repeat (first | exact hp | exact List.mem_append_right _ hp | exact List.mem_append_left _ (List.mem_append_right _ hp) | apply List.Mem.tail))
    case m27 => exact fun p hp => by (repeat (first | exact hp | exact List.mem_append_right _ hp | exact List.mem_append_left _ (List.mem_append_right _ hp) | apply List.Mem.tail))
    case u17 => exact Nat.le_of_ble_eq_true rfl
    case u27 => exact Nat.le_of_ble_eq_true rfl)
  k_with "tab" => exact hT
  k_with "nt" => exact fun p hp => by (replace hp := hnt p hp; (repeat (first | exact hp | exact List.mem_append_right _ hp | exact List.mem_append_left _ hp | exact List.mem_append_left _ (List.mem_append_right _ hp) | exact List.mem_append_left _ (List.mem_append_left _ hp) | apply List.Mem.tail)))
  k_with "turn" => first
    | (rw [take_map_snoc _ hic]; exact BysAre.snoc hjc)
    | (rw [take_map_snoc _ hic]; exact IntsAre.append hjc (.cons _ _ .nil))
    | (rw [show (0 + (ic : Int) + 1).toNat = ic + 1 by omega]; exact due_snoc hjc)
  k_with "purse" => exact ⟨by assumption, _, IntsAre.append hIv (.cons _ _ .nil), by simp [hln], near_snoc hnr (by assumption)⟩
  w_top off
  k_steps
  all_goals first
    | (show Q (.bool (decide (axOc sh sm steps = []))) _
       rw [show decide (axOc sh sm steps = []) = true by first | assumption | exact decide_eq_true (by assumption)])
    | skip
  all_goals first
    | (refine' k _ _ _ [] _ _ ?T ?hs ?F ?N ?aft ?B ?X ?P ?D
       case aft => exact tab_aft0
       case F => assumption
       case N => exact news_sub (by assumption) (List.forall_mem_cons.mpr ⟨by k_mem, List.forall_mem_cons.mpr ⟨by k_mem, fun p hp => by (replace hp := (show p ∈ rest from hp); (repeat (first | exact hp | exact List.mem_append_right _ hp | exact List.mem_append_left _ hp | exact List.mem_append_left _ (List.mem_append_right _ hp) | exact List.mem_append_left _ (List.mem_append_left _ hp) | apply List.Mem.tail)))⟩⟩)
       case T => assumption
       case hs => assumption
       case B => assumption
       case X => assumption
       case P => assumption
       case D => assumption)
    | (refine' k _ _ _ [(_, _)] _ _ ?T ?hs ?F ?N ?aft ?B ?X ?P ?D
       case aft =>
         refine' tab_aft1 ?d1f ?d2f ?hcf ?hsf
         case d1f => assumption
         case d2f => assumption
         case hcf => assumption
         case hsf => exact (List.forall_mem_cons.mpr ⟨by k_mem, List.forall_mem_cons.mpr ⟨by k_mem, fun p hp => by (replace hp := (show p ∈ rest from hp); (repeat (first | exact hp | exact List.mem_append_right _ hp | exact List.mem_append_left _ hp | exact List.mem_append_left _ (List.mem_append_right _ hp) | exact List.mem_append_left _ (List.mem_append_left _ hp) | apply List.Mem.tail)))⟩⟩)
       case F => assumption
       case N => exact news_sub (by assumption) (List.forall_mem_cons.mpr ⟨by k_mem, List.forall_mem_cons.mpr ⟨by k_mem, List.forall_mem_cons.mpr ⟨by k_mem, fun p hp => by (replace hp := (show p ∈ rest from hp); (repeat (first | exact hp | exact List.mem_append_right _ hp | exact List.mem_append_left _ hp | exact List.mem_append_left _ (List.mem_append_right _ hp) | exact List.mem_append_left _ (List.mem_append_left _ hp) | apply List.Mem.tail)))⟩⟩⟩)
       case T => assumption
       case hs => assumption
       case B => assumption
       case X => assumption
       case P => assumption
       case D => assumption)
end
end
end Mine

namespace Mine
section
variable {w : World} {pT : Program} {lT : List Str} {mean : ExcName → Option Value} {mg mb : Str → Option Value} {A A₀ : Around} {base h₀ : Heap} {outer : List Env} {env : Env} {L : Addr} {m : Str → Option Value} {s : Shared} {Q E : Value → Shared → Prop}
section
theorem eright_core {src : Addr} {o : Obj} {rest : List (Addr × Obj)}
    (C : Cx w pT lT mean mg mb A A₀ 400 1000 base h₀ outer env L m s.heap) (XB : (theHeap w.params).In base) (TB : Top pT lT mean mg mb base) (Dk : KtsDicts (framesOf outer) h₀) (CB : CodeHd base 237 235)
    (N : News h₀ L s.heap ((src, o) :: (235, tabObj #[]) :: rest)) (hs : SrcOk o) (h9 : @Ne Nat 235 src) (hr1 : AllNe src rest) (hr2 : AllNe 235 rest)
    (k : ∀ h₀' o' ps h' tk', KtsTurn (framesOf outer) h₀ h₀' → SrcOk o' → Fr h₀' L h' m → News h₀' L h' ((src, o') :: (235, tabObj ps) :: rest) → Below A₀ base outer h₀' → (theHeap w.params).In h₀' → Top pT lT mean mg mb h₀' → KtsDicts (framesOf outer) h₀' → Q (.bool true) { s with heap := h', toks := tk' }) :
    wpAny (model PySem.Challenge.rw_on0233_01.row.prog w) A (call (.ref 238) [.ref src]) Q E s := by
  k_with_none
  k_with "omega" => first | with_reducible assumption | decide | (with_reducible exact oN1 (by with_reducible assumption) (by decide)) | (with_reducible exact oN2 (by with_reducible assumption) (by decide)) | (with_reducible exact oN3 (by with_reducible assumption) (by decide)) | (with_reducible exact oN4 (by with_reducible assumption) (by decide)) | (with_reducible exact oN5 (by with_reducible assumption) (by decide)) | (with_reducible exact oN6 (by with_reducible assumption) (by decide)) | (with_reducible exact oN7 (by with_reducible assumption) (by decide)) | (with_reducible exact oN8 (by with_reducible assumption) (by decide)) | (with_reducible exact oI1 (by with_reducible assumption) (by decide)) | (with_reducible exact oI2 (by with_reducible assumption) (by decide)) | (with_reducible exact oI3 (by with_reducible assumption) (by decide)) | (with_reducible exact oI4 (by with_reducible assumption) (by decide)) | (with_reducible exact oI5 (by with_reducible assumption) (by decide)) | (with_reducible exact oI6 (by with_reducible assumption) (by decide)) | (with_reducible exact oI7 (by with_reducible assumption) (by decide)) | (with_reducible exact oI8 (by with_reducible assumption) (by decide)) | fail
  k_with "k_pk" => first | exact lA0 | exact lA1 | exact lA2 | exact lA3 | exact lA4 | exact lE1 | exact lE2 | exact lE3 | exact lE4 | exact lE5 | (refine cF ?_; k_extra "k_pk")
  k_with "k_pe" => first | exact eA0 | exact eA1 | exact eA2 | exact eA3 | exact eA4 | exact eE1 | exact eE2 | exact eE3 | exact eE4 | exact eE5 | (refine cF ?_; k_extra "k_pe")
  k_with "k_ltN" => with_reducible first | assumption | exact pL (by with_reducible assumption) (by k_extra "k_pk")
  k_with "k_ne" => (refine neN ?_; (try dsimp only); first | (with_reducible first | exact n01 | exact n02 | exact n03 | exact n04 | exact n05 | exact n01.symm | exact n02.symm | exact n03.symm | exact n04.symm | exact n05.symm | with_reducible assumption | exact Ne.symm (by with_reducible assumption) | exact Nat.ne_of_lt (by k_extra "k_ltN") | exact Nat.ne_of_gt (by k_extra "k_ltN") | exact nS1 (by k_extra "k_ltN") | exact Ne.symm (nS1 (by k_extra "k_ltN")) | exact nS2 (by k_extra "k_ltN") | exact Ne.symm (nS2 (by k_extra "k_ltN")) | exact nS3 (by k_extra "k_ltN") | exact Ne.symm (nS3 (by k_extra "k_ltN")) | exact nS4 (by k_extra "k_ltN") | exact Ne.symm (nS4 (by k_extra "k_ltN")) | exact nS5 (by k_extra "k_ltN") | exact Ne.symm (nS5 (by k_extra "k_ltN")) | exact nS6 (by k_extra "k_ltN") | exact Ne.symm (nS6 (by k_extra "k_ltN")) | exact nT (by with_reducible assumption) (by k_extra "k_ltN") | exact Ne.symm (nT (by with_reducible assumption) (by k_extra "k_ltN")) | exact pN (by with_reducible assumption) (by k_extra "k_pe") | exact Ne.symm (pN (by with_reducible assumption) (by k_extra "k_pe"))) | (first | exact ne_of_all (by with_reducible assumption) (by k_mem) | exact Ne.symm (ne_of_all (by with_reducible assumption) (by k_mem))) | omega | exact ne_of_all (by assumption) (by k_mem) | exact Ne.symm (ne_of_all (by assumption) (by k_mem)))
  k_with "k_all" => (first | exact List.forall_mem_nil _ | (refine' List.forall_mem_cons.mpr ⟨?qza, ?qzb⟩; (case qza => k_ne); (case qzb => k_all)) | exact allNe_mem (by assumption) | exact below_ne (by assumption) (by (try dsimp only); first | exact leS1 (by k_extra "k_ltN") | omega))
  k_with "call ref" => ((k_here; (with_reducible show wpAny _ _ (call (Value.ref 126) [Value.bytes (byteArr _) _]) _ _ _); k_dflt (refine' octo_x ?qzC ?qzN ?_; (case qzC => exact ⟨⟨rfl, Nat.le_of_ble_eq_true rfl, rfl, rfl, Nat.le_of_ble_eq_true rfl⟩, rfl, rfl, by k_asm, by k_asm, by k_asm, by k_asm⟩); (case qzN => k_asm); k_whole); intro x'z d'z k1'z k2'z t'z ta'z h'z tk'z F'z N'z l1 l2; have l1'z := l1; have l2'z := ltN l2; (try k_lt l1); (try k_sweep)))
  k_with "compareOp NotEq ref ref" => ((k_here; k_dflt (refine' ints_ne ?qzN ?qzh1 ?qzh2 ?qzhi ?qzhj ?qze ?qzhu ?_; (case qzN => k_asm); (case qzh1 => k_mem); (case qzh2 => k_mem); (case qzhi => first | assumption | exact IntsAre.nil | l_intsW); (case qzhj => first | assumption | exact IntsAre.nil | l_intsW); (case qze => first | rfl | assumption); (case qzhu => exact Nat.le_of_ble_eq_true rfl); k_whole)))
  k_with "call builtin:len" => ((k_here; (with_reducible show wpAny _ _ (call (Value.builtin "len") [Value.ref _]) _ _ _); k_dflt (refine' len_ints ?qzN ?qzhm ?qzhi ?qzhz (fun t'z k'z => ?_); (case qzN => k_asm); (case qzhm => k_mem); (case qzhi => assumption); (case qzhz => first | exact flag_len (by assumption) | assumption | omega); k_whole)))
  k_with "compareOp NotEq int int" => ((k_here; with_reducible refine ne_same ?_))
  k_with "callWith ref" => ((k_here; k_dflt (first | (refine' callWith_K ?qzk1 ?qzk2 ?_; (case qzk1 => k_asm); (case qzk2 => k_is); k_whole) | (refine' callWith_K0 ?qzk1 ?qzk2 ?_; (case qzk1 => k_in); (case qzk2 => k_is); k_whole))))
  k_with "Flies" => ((k_dflt (refine' flies_of ?qzho ?qzhc ?qzhd ?qzhv ?qzhb ?qzco ?qzge ?qzki ?qzce ?_; (case qzho => k_mem); (case qzhc => k_mem); (case qzhd => assumption); (case qzhv => assumption); (case qzhb => exact rfl); (case qzco => exact rfl); (case qzge => exact rfl); (case qzki => exact rfl); (case qzce => decide)); intro s'z en'z g'z L'z h'z tk'z G'z nL'z F'z N'z B'z X'z T'z lt'z; (try dsimp only); (try k_fold)))
  k_with "leaving ref" => ((k_here; refine' leave_pure ?qzR ?qzhA ?qzhf ?qzK ?qzF ?qzN ?qzG ?qzhL ?qzdi ?qzhd ?_; (case qzR => assumption); (case qzhA => exact rfl); (case qzhf => exact rfl); (case qzK => k_asm); (case qzF => k_asm); (case qzN => k_asm); (case qzG => k_asm); (case qzhL => assumption); (case qzdi => exact fresh2 (by assumption) (by assumption) (by k_mem) (by k_mem) (by assumption) (by assumption)); (case qzhd => first | exact fun p hp => hp | exact fun p hp => List.Mem.tail _ (List.Mem.tail _ hp)); k_whole; intro hz'z fz'z; exact FlewAt.intro fz'z))
  k_with "call ref" => ((k_here; (with_reducible show wpAny _ _ (call (Value.ref 207) _) _ _ _); k_dflt (refine' refused_core ?qzC ?qzXB ?qzTB ?qzDk ?qzN ?qzhlm ?_ (fun h0'z h'z tk'z Tt'z F'z N'z B'z X'z T'z D'z => ?_); (case qzC => exact ⟨⟨rfl, Nat.le_of_ble_eq_true rfl, rfl, rfl, Nat.le_of_ble_eq_true rfl⟩, rfl, rfl, by k_asm, by k_asm, by k_asm, by k_asm⟩); (case qzXB => assumption); (case qzTB => assumption); (case qzDk => assumption); (case qzN => k_asm); (case qzhlm => k_mem); k_whole); (all_goals (try k_sweep))))
  k_with "LeaveT" => ((k_dflt (refine' LeaveT.intro ?qzT ?qzF ?qzN ?_; (case qzF => k_asm); (case qzN => k_asm); (case qzT => first | assumption | exact KtsTurn.refl | exact KtsTurn.trans (by assumption) (by assumption)); k_whole); intro h0'z Tt'z Ft'z Nt'z Bt'z Xt'z Pt'z Dt'z))
  k_with "call ref" => ((k_here; (with_reducible show wpAny _ _ (call (Value.ref 151) [Value.ref _, Value.int (Int.fdiv _ 2) _]) _ _ _); k_dflt (refine' rends_again ?qzC ?qzN ?qzhm ?qzU ?qzhk ?qzhc ?qzhR ?qzhl ?qzhe ?qzhd (fun e1'z h1'z tk1'z R1'z => ?_); (case qzC => exact ⟨⟨rfl, Nat.le_of_ble_eq_true rfl, rfl, rfl, Nat.le_of_ble_eq_true rfl⟩, rfl, rfl, by k_asm, by k_asm, by k_asm, by k_asm⟩); (case qzN => k_asm); (case qzhm => k_mem); (case qzU => k_updF); (case qzhk => k_extra "again"); (case qzhc => rfl); (case qzhR => assumption); (case qzhl => omega); (case qzhe => exact of_decide_eq_false (by assumption)); (case qzhd => assumption); k_whole); (try k_sweep)))
  k_with "call ref" => ((k_here; (with_reducible show wpAny _ _ (call (Value.ref 151) [Value.ref _, Value.int (Int.fdiv _ 2) _]) _ _ _); k_dflt (refine' rends_none ?qzC ?qzN ?qzhm ?qzU ?qzhk ?qzhc ?qzhd (fun e1'z h1'z tk1'z R1'z => ?_); (case qzC => exact ⟨⟨rfl, Nat.le_of_ble_eq_true rfl, rfl, rfl, Nat.le_of_ble_eq_true rfl⟩, rfl, rfl, by k_asm, by k_asm, by k_asm, by k_asm⟩); (case qzN => k_asm); (case qzhm => k_mem); (case qzU => k_updF); (case qzhk => k_extra "none"); (case qzhc => rfl); (case qzhd => assumption); k_whole); (try k_sweep)))
  k_with "call ref" => ((k_here; (with_reducible show wpAny _ _ (call (Value.ref 151) [Value.ref _, Value.int ((List.length _ : Int) + 1) _]) _ _ _); k_dflt (refine' rends_more ?qzC ?qzN ?qzhm ?qzU ?qzhR ?qzhl ?qzhd (fun e1'z h1'z tk1'z R1'z => ?_); (case qzC => exact ⟨⟨rfl, Nat.le_of_ble_eq_true rfl, rfl, rfl, Nat.le_of_ble_eq_true rfl⟩, rfl, rfl, by k_asm, by k_asm, by k_asm, by k_asm⟩); (case qzN => k_asm); (case qzhm => k_mem); (case qzU => k_updF); (case qzhR => assumption); (case qzhl => omega); (case qzhd => assumption); k_whole); (try k_sweep)))
  k_with "call ref" => ((k_here; (with_reducible show wpAny _ _ (call (Value.ref 151) [Value.ref _, Value.int 1 _]) _ _ _); k_dflt (refine' rends_one ?qzC ?qzN ?qzhm ?qzU ?qzhd ?_; (case qzC => exact ⟨⟨rfl, Nat.le_of_ble_eq_true rfl, rfl, rfl, Nat.le_of_ble_eq_true rfl⟩, rfl, rfl, by k_asm, by k_asm, by k_asm, by k_asm⟩); (case qzN => k_asm); (case qzhm => k_mem); (case qzU => k_updF); (case qzhd => assumption); k_whole); intro l'z vs'z n'z at'z ta'z h'z tk'z hi'z F'z N'z hne'z; (try dsimp only at N'z); (try k_sweep)))
  k_with "call ref" => ((k_here; (with_reducible show wpAny _ _ (call (Value.ref 151) [Value.ref _, Value.int (List.length _ : Int) _]) _ _ _); k_dflt (refine' rends_zz ?qzC ?qzN ?qzhm ?qzU ?qzhR ?qzhl ?qzhd ?_; (case qzC => exact ⟨⟨rfl, Nat.le_of_ble_eq_true rfl, rfl, rfl, Nat.le_of_ble_eq_true rfl⟩, rfl, rfl, by k_asm, by k_asm, by k_asm, by k_asm⟩); (case qzN => k_asm); (case qzhm => k_mem); (case qzU => k_updF); (case qzhR => assumption); (case qzhl => omega); (case qzhd => assumption); k_whole); intro l'z vs'z n'z at'z ta'z h'z tk'z hi'z F'z N'z hne'z; (try dsimp only at N'z); (try k_sweep)))
  k_with "getMethod bytes" => ((k_here; with_reducible refine join_method ?_))
  k_with "call builtin:bytes.join" => ((k_here; k_dflt (refine' ends_join ?qzN ?qzhm ?qzhb ?qzhl (fun t'z k'z => ?_); (case qzN => k_asm); (case qzhm => k_mem); (case qzhb => assumption); (case qzhl => omega); k_whole)))
  k_with "call type:bytes" => ((k_here; k_dflt (refine' by_make ?qzF ?qzN ?qzhh ?qzhm ?qzhi ?qzhr ?qzhn ?_; (case qzF => k_asm); (case qzN => k_asm); (case qzhh => exact rfl); (case qzhm => k_mem); (case qzhi => first | assumption | l_intsW); (case qzhr => first | decide | k_extra "in8"); (case qzhn => exact Nat.le_of_ble_eq_true rfl); k_whole); intro h'z t'z k'z F'z N'z z'z; (try k_sweep)))
  k_with "binaryOp Add bytes bytes" => ((k_here; k_dflt (refine' by_add_en ?qzha ?qzhb (fun t'z k'z => ?_); (case qzha => k_extra "len"); (case qzhb => k_extra "len"); k_whole)))
  k_with "binaryOp Add bytes bytes" => ((k_here; (with_reducible show wpAny _ _ (binaryOp _ _ (Value.bytes #[122, 122] _)) _ _ _); k_dflt (refine' by_zz ?qzha (fun t'z k'z => ?_); (case qzha => k_extra "len"); k_whole)))
  k_with "binaryOp Mult bytes int" => ((k_here; k_dflt (refine' by_mulE ?qzhn ?qzhb ?qzhs (fun t'z k'z => ?_); (case qzhn => first | exact Or.inl ⟨by decide, rfl⟩ | exact Or.inr ⟨by decide, rfl⟩); (case qzhb => exact List.cons_ne_nil _ _); (case qzhs => exact Nat.le_of_ble_eq_true rfl); k_whole)))
  k_with "call builtin:len" => ((k_here; (with_reducible show wpAny _ _ (call (Value.builtin "len") [Value.bytes _ _]) _ _ _); k_dflt (refine' len_by ?qzhz (fun t'z k'z => ?_); (case qzhz => k_extra "len"); k_whole)))
  k_with "subscriptTail" => ((k_here; k_dflt (refine' last_int ?qzN ?qzhm ?qzhi ?qzhne ?_ ?qzhs; (case qzN => k_asm); (case qzhm => k_mem); (case qzhi => assumption); (case qzhne => exact of_decide_eq_false (by assumption)); (case qzhs => with_unfolding_all rfl); k_whole); intro t'z))
  k_with "call ref" => ((k_here; (with_reducible show wpAny _ _ (call (Value.ref 179) _) _ _ _); k_dflt (refine' take_spec ?qzC ?qzN ?qzU ?qzhs ?qzht ?qzhu ?_; (case qzC => exact ⟨⟨rfl, Nat.le_of_ble_eq_true rfl, rfl, rfl, Nat.le_of_ble_eq_true rfl⟩, rfl, rfl, by k_asm, by k_asm, by k_asm, by k_asm⟩); (case qzN => k_asm); (case qzU => k_updF); (case qzhs => assumption); (case qzht => decide); (case qzhu => decide); k_whole); intro r'z tr'z o'z h'z tk'z r0'z r1'z hs'z F'z N'z; (try dsimp only at N'z); (try k_sweep)))
  k_with "call ref" => ((k_here; (with_reducible show wpAny _ _ (call (Value.ref 186) _) _ _ _); k_dflt (refine' one_spec ?qzC ?qzN ?qzU ?qzhs ?qzhm ?qzhls ?qzhi ?qzhl ?qzhu ?_; (case qzC => exact ⟨⟨rfl, Nat.le_of_ble_eq_true rfl, rfl, rfl, Nat.le_of_ble_eq_true rfl⟩, rfl, rfl, by k_asm, by k_asm, by k_asm, by k_asm⟩); (case qzN => k_asm); (case qzU => k_updF); (case qzhs => assumption); (case qzhm => k_mem); (case qzhls => k_ne); (case qzhi => l_intsW); (case qzhl => decide); (case qzhu => decide); k_whole); intro x'z tr'z o'z h'z tk'z hx'z hs'z F'z N'z; (try dsimp only at N'z); (try k_sweep)))
  k_with "ksw_same" => ((intro z h2 h3; (try simp only [List.forall_mem_cons, List.not_mem_nil, false_implies, implies_true, and_true, ne_eq] at h2); (try simp only [List.contains_cons, List.contains_nil, Bool.or_false, Bool.or_eq_false_iff, beq_eq_false_iff_ne, ne_eq] at h3); (simp [kstB, h2, h3]; done)))
  k_with "TsPost" => (dsimp only [TsPost])
  k_with "eval ListComp" => ((k_here; k_dflt ((refine LCg.ListComp_U (F₀ := by k_asm) (by with_unfolding_all rfl) (by decide) (by rfl) (by decide) (by rfl) ?_))))
  k_with "CompSrc" => ((k_dflt (k_extra "cs")))
  k_with "CompEnd" => (((rename News _ _ _ _ => nE'z); k_dflt (refine' LCg.CompEnd.intro ?qzF nE'z ?qzn ?qzsub ?qzoff ?qzS ?qzr; (case qzr => (refine' And.intro rfl ?qzj; (case qzj => k_extra "turn"))); (case qzF => assumption); (case qzsub => kst_in); (case qzoff => assumption); (case qzS => first | exact True.intro | exact Or.inr ⟨_, by k_mem, rfl, _, rfl⟩))))
  k_with "FinE" => (((unfold LCg.FinE); intro D'z h'z tk'z F'z N'z o1'z; (have o2'z := off1_ne o1'z); (try simp only [List.nil_append, List.cons_append] at N'z); (try dsimp only)))
  k_with "TsEnd" => (((rename News _ _ _ _ => nE'z); (try simp only [List.push_toArray] at nE'z); k_dflt (refine' TsEnd.intro ⟨_, _, _, _, _⟩ ?qzF nE'z ?qzhs ?qzhn ?qzhk ?qzhr ?qzhp; (case qzF => assumption); (case qzhk => refine' List.forall_mem_cons.mpr ⟨?qza, List.forall_mem_nil _⟩; (case qza => rfl)); (case qzhs => kst_in); (case qzhn => k_all); (case qzhr => ksw_same); (case qzhp => k_extra "state"))))
  k_dflt (refine' enter_turnC C XB TB Dk N ?k6 ?k7 ?k8 ?k9 ?kB ?nd ?_ ?c2 ?c3 ?c4; (case k6 => k_is); (case k7 => k_is); (case k8 => decide); (case k9 => exact BindsTo.of_eq rfl); (case kB => exact rfl); (case nd => decide +kernel); (case c2 => exact rfl); (case c3 => exact rfl); (case c4 => exact rfl))
  intro g' L' h' tk' cells' X0' T0' G' nL' F' N' Y' B' X' T' D' lt'
  have hab : AllBelow L' rest := fun p hp => lt' p (.tail _ (.tail _ hp))
  have hsl : @LT.lt Nat _ src L' := lt' _ (.head _)
  have h9l : @LT.lt Nat _ 235 L' := lt' _ (.tail _ (.head _))
  clear lt'
  k_cells Y'
  (try simp only [List.cons_append, List.nil_append] at N')
  (try dsimp only)
  (try k_fold)
  clear C N
  k_with "exec For Name Call cons nil" => ((rename Fr _ _ _ _ => lF'); (with_unfolding_all refine' For_turns lF' ?_); k_whole)
  k_with "pyIter ref" => (
    rename_i o1c o2c o3c d1c d2c d3c l0 h1 l1a D0 h2 l1b h3 h4 oc dc h5 F6 N6 h7 tk7 t1 u1 v1 aR aF aN aK
    refine' ts_range (σ := List Value × Nat × Int × Tok × Obj) (fun c => (l0, W.listOf c.1.toArray c.2.1) :: (src, c.2.2.2.2) :: (L' + 1 + 1 + 1, o1c) :: (L' + 1 + 1, oc) :: (L' + 1, o3c) :: (235, tabObj #[]) :: rest) (fun c => [(Str.ofString "nr", .int c.2.2.1 c.2.2.2.1)]) [Str.ofString "turn"]
      (fun i c => SrcOk c.2.2.2.2 ∧ ∃ ls, IntsAre c.1 ls ∧ EnInv i ls c.2.2.1) ([], 0, -1, _, _) r'z.toNat ?hh ?hr ?hs ?hn ?F ?N ?hsub ?hk ?hp ?turn ?done
    case hh => rfl
    case hr => assumption
    case hs => exact small_one (by omega) (by omega) (by omega) (by omega)
    case hn => exact (rangeSize_nat _ _).trans (by rw [Int.sub_zero])
    case F => assumption
    case N => assumption
    case hsub => kst_in
    case hk => kst_all
    case hp => exact ⟨by assumption, [], .nil, en_start⟩
    case' turn =>
      rintro i ⟨vs, nn, nr, t1, os⟩ ti I io u hh tk hi ⟨hs, ls, hIv, hInv⟩ hne F1 N1
      (try dsimp only at hIv hInv hs F1 N1 ⊢)
      (try dsimp only [AllNe] at hne)
      have hvl := hIv.length
      have hll := hInv.1
      have hi5 : i < 5 := by omega
      (try k_fold)
    case' done =>
      rintro ⟨vs, nn, nr, t1, os⟩ u hh tk ⟨hs, ls, hIv, hInv⟩ F1 N1
      (try dsimp only at hIv hInv hs F1 N1 ⊢)
      have hvl := hIv.length
      have hll := hInv.1
      have hl5 : ls.length < 5 := by omega
      have hol := en_len ls
      have hRi := hInv.2.1
      have hlo : ls ≠ [] → 0 ≤ lastOf ls ∧ lastOf ls ≤ 65535 := fun hne => lastOf_bd hRi hne
      (try k_fold))
  k_with "state" => exact ⟨by assumption, _, IntsAre.append hIv (.cons _ _ .nil), en_step hInv hi5 (by assumption)⟩
  k_with "cs" => (
    refine' LCg.CompSrc.ledger (k := nn) ?hhC ?FC ?NC ?hmC ?hzC ?_
    case hhC => rfl
    case FC => assumption
    case NC => assumption
    case hmC => k_mem
    case hzC => (rw [List.size_toArray, hvl, sizeLine_eq]; omega)
    intro g1
    rw [List.size_toArray, hvl]
    refine' comp_same (fun i ys => BysAre ys ((ls.take i).map putL16)) BysAre.nil ?turnC ?doneC
    case' turnC =>
      intro ic ys v I oI C oC D m₂ hc tkc E' hic hpc hjc hoc hxc Fc Nc offc neI neC neD nIC nID nCD
      obtain ⟨-, tv, rfl⟩ := ints_at hIv (by simpa using hpc)
      have hbd := rising_at hInv.2.1 hic
      (try dsimp only at Fc Nc ⊢)
    case' doneC => (intro ys hys; rw [List.take_length] at hys))
  k_with "in8" => first | exact (put_eq hbd.1 hbd.2).symm ▸ in8_put _ | exact (put_eq (hlo (of_decide_eq_false (by assumption))).1 (hlo (of_decide_eq_false (by assumption))).2).symm ▸ in8_put _
  k_with "len" => ((try simp only [List.length_append, List.length_cons, List.length_nil]); omega)
  k_with "again" => (rw [put_eq (hlo (of_decide_eq_false (by assumption))).1 (hlo (of_decide_eq_false (by assumption))).2])
  k_with "none" => (rw [show ls = [] from of_decide_eq_true (by assumption)]; decide)
  k_with "turn" => (rw [take_map_snoc _ hic, ← put_eq hbd.1 hbd.2]; exact BysAre.snoc (by assumption))
  w_top off
  k_steps
  all_goals (
    refine' k _ _ _ _ _ ?T ?hs ?F ?N ?B ?X ?P ?D
    case F => assumption
    case N => exact news_sub (by assumption) (List.forall_mem_cons.mpr ⟨by k_mem, List.forall_mem_cons.mpr ⟨by k_mem, fun p hp => by (repeat (first | exact hp | apply List.Mem.tail))⟩⟩)
    case T => assumption
    case hs => assumption
    case B => assumption
    case X => assumption
    case P => assumption
    case D => assumption)
end
end
end Mine

namespace Mine
section
variable {w : World} {pT : Program} {lT : List Str} {mean : ExcName → Option Value} {mg mb : Str → Option Value} {A A₀ : Around} {base h₀ : Heap} {outer : List Env} {env : Env} {L : Addr} {m : Str → Option Value} {s : Shared} {Q E : Value → Shared → Prop}
section
theorem fright_core {src : Addr} {o : Obj} {rest : List (Addr × Obj)}
    (C : Cx w pT lT mean mg mb A A₀ 400 1000 base h₀ outer env L m s.heap) (XB : (theHeap w.params).In base) (TB : Top pT lT mean mg mb base) (Dk : KtsDicts (framesOf outer) h₀) (CB : CodeHd base 213 209)
    (N : News h₀ L s.heap ((src, o) :: (209, tabObj #[]) :: rest)) (hs : SrcOk o) (h9 : @Ne Nat 209 src) (hr1 : AllNe src rest) (hr2 : AllNe 209 rest)
    (k : ∀ h₀' o' ps h' tk', KtsTurn (framesOf outer) h₀ h₀' → SrcOk o' → Fr h₀' L h' m → News h₀' L h' ((src, o') :: (209, tabObj ps) :: rest) → Below A₀ base outer h₀' → (theHeap w.params).In h₀' → Top pT lT mean mg mb h₀' → KtsDicts (framesOf outer) h₀' → Q (.bool true) { s with heap := h', toks := tk' }) :
    wpAny (model PySem.Challenge.rw_on0233_01.row.prog w) A (call (.ref 214) [.ref src]) Q E s := by
  k_with_none
  k_with "omega" => first | with_reducible assumption | decide | (with_reducible exact oN1 (by with_reducible assumption) (by decide)) | (with_reducible exact oN2 (by with_reducible assumption) (by decide)) | (with_reducible exact oN3 (by with_reducible assumption) (by decide)) | (with_reducible exact oN4 (by with_reducible assumption) (by decide)) | (with_reducible exact oN5 (by with_reducible assumption) (by decide)) | (with_reducible exact oN6 (by with_reducible assumption) (by decide)) | (with_reducible exact oN7 (by with_reducible assumption) (by decide)) | (with_reducible exact oN8 (by with_reducible assumption) (by decide)) | (with_reducible exact oI1 (by with_reducible assumption) (by decide)) | (with_reducible exact oI2 (by with_reducible assumption) (by decide)) | (with_reducible exact oI3 (by with_reducible assumption) (by decide)) | (with_reducible exact oI4 (by with_reducible assumption) (by decide)) | (with_reducible exact oI5 (by with_reducible assumption) (by decide)) | (with_reducible exact oI6 (by with_reducible assumption) (by decide)) | (with_reducible exact oI7 (by with_reducible assumption) (by decide)) | (with_reducible exact oI8 (by with_reducible assumption) (by decide)) | fail
  k_with "k_pk" => first | exact lA0 | exact lA1 | exact lA2 | exact lA3 | exact lA4 | exact lE1 | exact lE2 | exact lE3 | exact lE4 | exact lE5 | (refine cF ?_; k_extra "k_pk")
  k_with "k_pe" => first | exact eA0 | exact eA1 | exact eA2 | exact eA3 | exact eA4 | exact eE1 | exact eE2 | exact eE3 | exact eE4 | exact eE5 | (refine cF ?_; k_extra "k_pe")
  k_with "k_ltN" => with_reducible first | assumption | exact pL (by with_reducible assumption) (by k_extra "k_pk")
  k_with "k_ne" => (refine neN ?_; (try dsimp only); first | (with_reducible first | exact n01 | exact n02 | exact n03 | exact n04 | exact n05 | exact n01.symm | exact n02.symm | exact n03.symm | exact n04.symm | exact n05.symm | with_reducible assumption | exact Ne.symm (by with_reducible assumption) | exact Nat.ne_of_lt (by k_extra "k_ltN") | exact Nat.ne_of_gt (by k_extra "k_ltN") | exact nS1 (by k_extra "k_ltN") | exact Ne.symm (nS1 (by k_extra "k_ltN")) | exact nS2 (by k_extra "k_ltN") | exact Ne.symm (nS2 (by k_extra "k_ltN")) | exact nS3 (by k_extra "k_ltN") | exact Ne.symm (nS3 (by k_extra "k_ltN")) | exact nS4 (by k_extra "k_ltN") | exact Ne.symm (nS4 (by k_extra "k_ltN")) | exact nS5 (by k_extra "k_ltN") | exact Ne.symm (nS5 (by k_extra "k_ltN")) | exact nS6 (by k_extra "k_ltN") | exact Ne.symm (nS6 (by k_extra "k_ltN")) | exact nT (by with_reducible assumption) (by k_extra "k_ltN") | exact Ne.symm (nT (by with_reducible assumption) (by k_extra "k_ltN")) | exact pN (by with_reducible assumption) (by k_extra "k_pe") | exact Ne.symm (pN (by with_reducible assumption) (by k_extra "k_pe"))) | (first | exact ne_of_all (by with_reducible assumption) (by k_mem) | exact Ne.symm (ne_of_all (by with_reducible assumption) (by k_mem))) | omega | exact ne_of_all (by assumption) (by k_mem) | exact Ne.symm (ne_of_all (by assumption) (by k_mem)))
  k_with "k_all" => (first | exact List.forall_mem_nil _ | (refine' List.forall_mem_cons.mpr ⟨?qza, ?qzb⟩; (case qza => k_ne); (case qzb => k_all)) | exact allNe_mem (by assumption) | exact below_ne (by assumption) (by (try dsimp only); first | exact leS1 (by k_extra "k_ltN") | omega))
  k_with "call ref" => ((k_here; (with_reducible show wpAny _ _ (call (Value.ref 193) _) _ _ _); k_dflt (refine' flags_x ?qzC ?qzN ?qzU ?qzhs ?_; (case qzC => exact ⟨⟨rfl, Nat.le_of_ble_eq_true rfl, rfl, rfl, Nat.le_of_ble_eq_true rfl⟩, rfl, rfl, by k_asm, by k_asm, by k_asm, by k_asm⟩); (case qzN => k_asm); (case qzU => k_updF); (case qzhs => assumption); k_whole); intro l'z vs'z ns'z n'z o'z h'z tk'z hi'z hf'z hs'z F'z N'z hne'z; (try dsimp only at N'z); (have hfl'z := flag_of hf'z); (have hln'z := hi'z.length); (try k_sweep)))
  k_with "call ref" => ((k_here; (with_reducible show wpAny _ _ (call (Value.ref 165) _) _ _ _); k_dflt (refine' octets_x ?qzC ?qzN ?qzhm ?qzhi ?qzhf ?_; (case qzC => exact ⟨⟨rfl, Nat.le_of_ble_eq_true rfl, rfl, rfl, Nat.le_of_ble_eq_true rfl⟩, rfl, rfl, by k_asm, by k_asm, by k_asm, by k_asm⟩); (case qzN => k_asm); (case qzhm => k_mem); (case qzhi => assumption); (case qzhf => assumption); k_whole); intro t'z h'z tk'z F'z N'z; (try k_sweep)))
  k_with "call ref" => ((k_here; (with_reducible show wpAny _ _ (call (Value.ref 165) _) _ _ _); k_dflt (refine' octets_five ?qzC ?qzN ?qzhm ?_; (case qzC => exact ⟨⟨rfl, Nat.le_of_ble_eq_true rfl, rfl, rfl, Nat.le_of_ble_eq_true rfl⟩, rfl, rfl, by k_asm, by k_asm, by k_asm, by k_asm⟩); (case qzN => k_asm); (case qzhm => k_mem); k_whole); intro t'z h'z tk'z F'z N'z; (try k_sweep)))
  k_with "call ref" => ((k_here; (with_reducible show wpAny _ _ (call (Value.ref 165) _) _ _ _); k_dflt (refine' octets_nil ?qzC ?qzN ?qzhm ?_; (case qzC => exact ⟨⟨rfl, Nat.le_of_ble_eq_true rfl, rfl, rfl, Nat.le_of_ble_eq_true rfl⟩, rfl, rfl, by k_asm, by k_asm, by k_asm, by k_asm⟩); (case qzN => k_asm); (case qzhm => k_mem); k_whole); intro t'z h'z tk'z F'z N'z; (try k_sweep)))
  k_with "call ref" => ((k_here; (with_reducible show wpAny _ _ (call (Value.ref 200) _) _ _ _); k_dflt (refine' written_x ?qzC ?qzN ?qzhm ?qzhi ?qzhf ?_; (case qzC => exact ⟨⟨rfl, Nat.le_of_ble_eq_true rfl, rfl, rfl, Nat.le_of_ble_eq_true rfl⟩, rfl, rfl, by k_asm, by k_asm, by k_asm, by k_asm⟩); (case qzN => k_asm); (case qzhm => k_mem); (case qzhi => assumption); (case qzhf => assumption); k_whole); intro l'z d'z vs'z n'z tb'z h'z tk'z hi'z F'z N'z hne'z hne2'z; (try k_sweep)))
  k_with "call ref" => ((k_here; (with_reducible show wpAny _ _ (call (Value.ref 126) [Value.bytes (byteArr _) _]) _ _ _); k_dflt (refine' octo_x ?qzC ?qzN ?_; (case qzC => exact ⟨⟨rfl, Nat.le_of_ble_eq_true rfl, rfl, rfl, Nat.le_of_ble_eq_true rfl⟩, rfl, rfl, by k_asm, by k_asm, by k_asm, by k_asm⟩); (case qzN => k_asm); k_whole); intro x'z d'z k1'z k2'z t'z ta'z h'z tk'z F'z N'z l1 l2; have l1'z := l1; have l2'z := ltN l2; (try k_lt l1); (try k_sweep)))
  k_with "call ref" => ((k_here; (with_reducible show wpAny _ _ (call (Value.ref 126) [Value.bytes (KBy.picked _ _ _) _]) _ _ _); k_dflt (refine' octo_cut ?qzC ?qzN ?_; (case qzC => exact ⟨⟨rfl, Nat.le_of_ble_eq_true rfl, rfl, rfl, Nat.le_of_ble_eq_true rfl⟩, rfl, rfl, by k_asm, by k_asm, by k_asm, by k_asm⟩); (case qzN => k_asm); k_whole); intro x'z d'z k1'z k2'z t'z ta'z h'z tk'z F'z N'z l1 l2; have l1'z := l1; have l2'z := ltN l2; (try k_lt l1); (try k_sweep)))
  k_with "call ref" => ((k_here; (with_reducible show wpAny _ _ (call (Value.ref 126) [Value.bytes #[] _]) _ _ _); k_dflt (refine' octo_nil ?qzC ?qzN ?_; (case qzC => exact ⟨⟨rfl, Nat.le_of_ble_eq_true rfl, rfl, rfl, Nat.le_of_ble_eq_true rfl⟩, rfl, rfl, by k_asm, by k_asm, by k_asm, by k_asm⟩); (case qzN => k_asm); k_whole); intro x'z d'z k1'z k2'z t'z ta'z h'z tk'z F'z N'z l1 l2; have l1'z := l1; have l2'z := ltN l2; (try k_lt l1); (try k_sweep)))
  k_with "call ref" => ((k_here; (with_reducible show wpAny _ _ (call (Value.ref 137) _) _ _ _); k_dflt (refine' rflags_zz ?qzC ?qzN ?qzhm ?qzU ?qzhf ?qzhc ?qzhd ?_; (case qzC => exact ⟨⟨rfl, Nat.le_of_ble_eq_true rfl, rfl, rfl, Nat.le_of_ble_eq_true rfl⟩, rfl, rfl, by k_asm, by k_asm, by k_asm, by k_asm⟩); (case qzN => k_asm); (case qzhm => k_mem); (case qzU => k_updF); (case qzhf => assumption); (case qzhc => first | rfl | omega); (case qzhd => assumption); k_whole); intro l'z vs'z n'z ta'z h'z tk'z hi'z F'z N'z hne'z; (try dsimp only at N'z); (try k_sweep)))
  k_with "call ref" => ((k_here; (with_reducible show wpAny _ _ (call (Value.ref 137) _) _ _ _); k_dflt (refine' rflags_nil ?qzC ?qzN ?qzhm ?qzU ?qzhd ?_; (case qzC => exact ⟨⟨rfl, Nat.le_of_ble_eq_true rfl, rfl, rfl, Nat.le_of_ble_eq_true rfl⟩, rfl, rfl, by k_asm, by k_asm, by k_asm, by k_asm⟩); (case qzN => k_asm); (case qzhm => k_mem); (case qzU => k_updF); (case qzhd => assumption); k_whole); intro l'z vs'z n'z ta'z h'z tk'z hi'z F'z N'z hne'z; (try dsimp only at N'z); (try k_sweep)))
  k_with "call ref" => ((k_here; (with_reducible show wpAny _ _ (call (Value.ref 137) _) _ _ _); k_dflt (refine' rflags_94 ?qzC ?qzN ?qzhm ?qzU ?qzhd ?_; (case qzC => exact ⟨⟨rfl, Nat.le_of_ble_eq_true rfl, rfl, rfl, Nat.le_of_ble_eq_true rfl⟩, rfl, rfl, by k_asm, by k_asm, by k_asm, by k_asm⟩); (case qzN => k_asm); (case qzhm => k_mem); (case qzU => k_updF); (case qzhd => assumption); k_whole); intro l'z vs'z n'z ta'z h'z tk'z hi'z F'z N'z hne'z; (try dsimp only at N'z); (try k_sweep)))
  k_with "call ref" => ((k_here; (with_reducible show wpAny _ _ (call (Value.ref 137) _) _ _ _); k_dflt (refine' rflags_93 ?qzC ?qzN ?qzhm ?qzU ?qzhd (fun e1'z h1'z tk1'z R1'z => ?_); (case qzC => exact ⟨⟨rfl, Nat.le_of_ble_eq_true rfl, rfl, rfl, Nat.le_of_ble_eq_true rfl⟩, rfl, rfl, by k_asm, by k_asm, by k_asm, by k_asm⟩); (case qzN => k_asm); (case qzhm => k_mem); (case qzU => k_updF); (case qzhd => assumption); k_whole); (try k_sweep)))
  k_with "call ref" => ((k_here; (with_reducible show wpAny _ _ (call (Value.ref 137) _) _ _ _); k_dflt (refine' rflags_cut ?qzC ?qzN ?qzhm ?qzU ?qzhf ?qzhn ?qzhc ?qzhd (fun e1'z h1'z tk1'z R1'z => ?_); (case qzC => exact ⟨⟨rfl, Nat.le_of_ble_eq_true rfl, rfl, rfl, Nat.le_of_ble_eq_true rfl⟩, rfl, rfl, by k_asm, by k_asm, by k_asm, by k_asm⟩); (case qzN => k_asm); (case qzhm => k_mem); (case qzU => k_updF); (case qzhf => assumption); (case qzhn => exact flags_ne (by assumption)); (case qzhc => first | rfl | omega); (case qzhd => assumption); k_whole); (try k_sweep)))
  k_with "compareOp NotEq bytes bytes" => ((k_here; with_reducible refine by_ne0 ?_))
  k_with "compareOp NotEq ref ref" => ((k_here; k_dflt (refine' ints_ne ?qzN ?qzh1 ?qzh2 ?qzhi ?qzhj ?qze ?qzhu ?_; (case qzN => k_asm); (case qzh1 => k_mem); (case qzh2 => k_mem); (case qzhi => first | assumption | exact IntsAre.nil | l_intsW); (case qzhj => first | assumption | exact IntsAre.nil | l_intsW); (case qze => first | rfl | assumption); (case qzhu => exact Nat.le_of_ble_eq_true rfl); k_whole)))
  k_with "compareOp Eq ref ref" => ((k_here; k_dflt (refine' ints_eq ?qzN ?qzh1 ?qzh2 ?qzhi ?qzhj ?qze ?qzhu ?_; (case qzN => k_asm); (case qzh1 => k_mem); (case qzh2 => k_mem); (case qzhi => first | assumption | exact IntsAre.nil | l_intsW); (case qzhj => first | assumption | exact IntsAre.nil | l_intsW); (case qze => first | rfl | assumption); (case qzhu => exact Nat.le_of_ble_eq_true rfl); k_whole)))
  k_with "binaryOp Mult ref int" => ((k_here; k_dflt (refine' rep1 ?qzF ?qzN ?qzhm ?qzh0 ?qzh1 ?_; (case qzF => k_asm); (case qzN => k_asm); (case qzhm => k_mem); (case qzh0 => omega); (case qzh1 => omega); k_whole); intro l'z h'z F'z N'z hi'z hl'z l1; (try k_lt l1); (try k_sweep)))
  k_with "call type:bytes" => ((k_here; k_dflt (refine' by_make ?qzF ?qzN ?qzhh ?qzhm ?qzhi ?qzhr ?qzhn ?_; (case qzF => k_asm); (case qzN => k_asm); (case qzhh => exact rfl); (case qzhm => k_mem); (case qzhi => first | assumption | l_intsW); (case qzhr => first | assumption | decide); (case qzhn => exact Nat.le_of_ble_eq_true rfl); k_whole); intro h'z t'z k'z F'z N'z z'z; (try k_sweep)))
  k_with "binaryOp Add bytes bytes" => ((k_here; k_dflt (refine' by_zz ?qzha (fun t'z k'z => ?_); (case qzha => first | exact enc_small (by assumption) | omega); k_whole)))
  k_with "call builtin:len" => ((k_here; (with_reducible show wpAny _ _ (call (Value.builtin "len") [Value.ref _]) _ _ _); k_dflt (refine' len_ints ?qzN ?qzhm ?qzhi ?qzhz (fun t'z k'z => ?_); (case qzN => k_asm); (case qzhm => k_mem); (case qzhi => assumption); (case qzhz => first | exact flag_len (by assumption) | assumption | omega); k_whole)))
  k_with "call builtin:len" => ((k_here; (with_reducible show wpAny _ _ (call (Value.builtin "len") [Value.bytes _ _]) _ _ _); k_dflt (refine' len_by ?qzhz (fun t'z k'z => ?_); (case qzhz => first | exact enc_small (by assumption) | assumption | omega); k_whole)))
  k_with "compareOp NotEq int int" => ((k_here; with_reducible refine ne_same ?_))
  k_with "callWith ref" => ((k_here; k_dflt (first | (refine' callWith_K ?qzk1 ?qzk2 ?_; (case qzk1 => k_asm); (case qzk2 => k_is); k_whole) | (refine' callWith_K0 ?qzk1 ?qzk2 ?_; (case qzk1 => k_in); (case qzk2 => k_is); k_whole))))
  k_with "subscriptTail" => ((k_here; (with_reducible show wpAny _ _ (subscriptTail _ (Expr.Slice none _ none _) (Value.bytes _ _) (Value.ref _)) _ _ _); k_dflt (refine' cut_tail (s := ⟨_, _, _, _, _⟩) ?qzF ?qzN ?qzr ?qzz ?_ ?qzhs ?qzht; (case qzF => k_asm); (case qzN => k_asm); (case qzr => first | exact flag_in8 (by assumption) | assumption); (case qzz => first | exact enc_small (by assumption) | assumption | omega); (case qzhs => with_unfolding_all rfl); (case qzht => (intro _; with_unfolding_all rfl)); k_whole); intro h'z t'z k'z F'z N'z))
  k_with "Flies" => ((k_dflt (refine' flies_of ?qzho ?qzhc ?qzhd ?qzhv ?qzhb ?qzco ?qzge ?qzki ?qzce ?_; (case qzho => k_mem); (case qzhc => k_mem); (case qzhd => assumption); (case qzhv => assumption); (case qzhb => exact rfl); (case qzco => exact rfl); (case qzge => exact rfl); (case qzki => exact rfl); (case qzce => decide)); intro s'z en'z g'z L'z h'z tk'z G'z nL'z F'z N'z B'z X'z T'z lt'z; (try dsimp only); (try k_fold)))
  k_with "leaving ref" => ((k_here; refine' leave_pure ?qzR ?qzhA ?qzhf ?qzK ?qzF ?qzN ?qzG ?qzhL ?qzdi ?qzhd ?_; (case qzR => assumption); (case qzhA => exact rfl); (case qzhf => exact rfl); (case qzK => k_asm); (case qzF => k_asm); (case qzN => k_asm); (case qzG => k_asm); (case qzhL => assumption); (case qzdi => exact fresh2 (by assumption) (by assumption) (by k_mem) (by k_mem) (by assumption) (by assumption)); (case qzhd => first | exact fun p hp => hp | exact fun p hp => List.Mem.tail _ (List.Mem.tail _ hp)); k_whole; intro hz'z fz'z; exact FlewAt.intro fz'z))
  k_with "call ref" => ((k_here; (with_reducible show wpAny _ _ (call (Value.ref 207) _) _ _ _); k_dflt (refine' refused_core ?qzC ?qzXB ?qzTB ?qzDk ?qzN ?qzhlm ?_ (fun h0'z h'z tk'z Tt'z F'z N'z B'z X'z T'z D'z => ?_); (case qzC => exact ⟨⟨rfl, Nat.le_of_ble_eq_true rfl, rfl, rfl, Nat.le_of_ble_eq_true rfl⟩, rfl, rfl, by k_asm, by k_asm, by k_asm, by k_asm⟩); (case qzXB => assumption); (case qzTB => assumption); (case qzDk => assumption); (case qzN => k_asm); (case qzhlm => k_mem); k_whole); (all_goals (try k_sweep))))
  k_with "LeaveT" => ((k_dflt (refine' LeaveT.intro ?qzT ?qzF ?qzN ?_; (case qzF => k_asm); (case qzN => k_asm); (case qzT => first | assumption | exact KtsTurn.refl | exact KtsTurn.trans (by assumption) (by assumption)); k_whole); intro h0'z Tt'z Ft'z Nt'z Bt'z Xt'z Pt'z Dt'z))
  k_dflt (refine' enter_turnC C XB TB Dk N ?k6 ?k7 ?k8 ?k9 ?kB ?nd ?_ ?c2 ?c3 ?c4; (case k6 => k_is); (case k7 => k_is); (case k8 => decide); (case k9 => exact BindsTo.of_eq rfl); (case kB => exact rfl); (case nd => decide +kernel); (case c2 => exact rfl); (case c3 => exact rfl); (case c4 => exact rfl))
  intro g' L' h' tk' cells' X0' T0' G' nL' F' N' Y' B' X' T' D' lt'
  have hab : AllBelow L' rest := fun p hp => lt' p (.tail _ (.tail _ hp))
  have hsl : @LT.lt Nat _ src L' := lt' _ (.head _)
  have h9l : @LT.lt Nat _ 209 L' := lt' _ (.tail _ (.head _))
  clear lt'
  k_cells Y'
  (try simp only [List.cons_append, List.nil_append] at N')
  (try dsimp only)
  (try k_fold)
  clear C N
  w_top off
  k_steps
  refine' k _ _ _ _ _ ?T ?hs ?F ?N ?B ?X ?P ?D
  case F => assumption
  case N => exact news_sub (by assumption) (List.forall_mem_cons.mpr ⟨by k_mem, List.forall_mem_cons.mpr ⟨by k_mem, fun p hp => by (repeat (first | exact hp | apply List.Mem.tail))⟩⟩)
  case T => assumption
  case hs => assumption
  case B => assumption
  case X => assumption
  case P => assumption
  case D => assumption
end
end
end Mine

namespace Mine
theorem two_out {src P : Addr} {o t : Obj} {news : List (Addr × Obj)} {g : Obj → List (Addr × Obj)} {g2 : Obj → Obj → List (Addr × Obj)} (U : UpdF src o news g) (U2 : ∀ o', UpdF P t (g o') (g2 o')) :
    ∃ rest, (∀ p ∈ (src, o) :: (P, t) :: rest, p ∈ news) ∧ (∀ o' t', ∀ p ∈ g2 o' t', p ∈ (src, o') :: (P, t') :: rest) ∧ AllNe src rest ∧ AllNe P rest ∧ ∀ p ∈ news, p.1 = src ∨ p.1 = P ∨ p ∈ rest := by
  classical
  obtain ⟨pre, post, rfl, hg, a, b⟩ := U.split
  let rest := (pre ++ (src, o) :: post).filter fun p => decide (p.1 ≠ src ∧ p.1 ≠ P)
  have mr : ∀ p, p ∈ rest ↔ (p ∈ pre ++ (src, o) :: post) ∧ p.1 ≠ src ∧ p.1 ≠ P := fun p => by
    show p ∈ List.filter _ _ ↔ _
    rw [List.mem_filter]; simp
  have hself := updf_self (U2 o)
  refine ⟨rest, fun p hp => ?_, fun o' t' p hp => ?_, allNe_of fun p hp => ((mr p).mp hp).2.1, allNe_of fun p hp => ((mr p).mp hp).2.2, fun p hp => ?_⟩
  · rcases List.mem_cons.mp hp with rfl | hp
    · exact List.mem_append_right _ (.head _)
    · rcases List.mem_cons.mp hp with rfl | hp
      · rw [← hg o]; exact hself.2
      · exact ((mr p).mp hp).1
  · obtain ⟨pre2, post2, e2, hg2, a2, b2⟩ := (U2 o').split
    rw [hg2] at hp
    have old : p ∈ g o' → p.1 ≠ P → p ∈ (src, o') :: (P, t') :: rest := fun hm hne => by
      rw [hg] at hm
      rcases List.mem_append.mp hm with hm | hm
      · exact .tail _ (.tail _ ((mr p).mpr ⟨List.mem_append_left _ hm, a p hm, hne⟩))
      · rcases List.mem_cons.mp hm with rfl | hm
        · exact .head _
        · exact .tail _ (.tail _ ((mr p).mpr ⟨List.mem_append_right _ (.tail _ hm), b p hm, hne⟩))
    rcases List.mem_append.mp hp with hp | hp
    · exact old (e2 ▸ List.mem_append_left _ hp) (a2 p hp)
    · rcases List.mem_cons.mp hp with rfl | hp
      · exact .tail _ (.head _)
      · exact old (e2 ▸ List.mem_append_right _ (.tail _ hp)) (b2 p hp)
  · by_cases h1 : p.1 = src
    · exact .inl h1
    · by_cases h2 : p.1 = P
      · exact .inr (.inl h2)
      · exact .inr (.inr ((mr p).mpr ⟨hp, h1, h2⟩))
theorem fr_same {h₀ h₀' h : Heap} {L : Addr} {m : Str → Option Value} (T : KtsTurn (framesOf []) h₀ h₀') (F : Fr h₀' L h m) : Fr h₀ L h m :=
  ⟨F.ns, fun b o e => F.keep b o (T.other b o e (fun q => nomatch q)), by rw [← T.size]; exact F.above⟩
theorem news_same {h₀ h₀' h : Heap} {L : Addr} {news : List (Addr × Obj)} (T : KtsTurn (framesOf []) h₀ h₀') (N : News h₀' L h news) : News h₀ L h news := fun p hp => by
  refine ⟨(N p hp).1, (N p hp).2.1, ?_⟩
  cases q : h₀.get? p.1 with
  | none => rfl
  | some o =>
    have := (N p hp).2.2
    rw [T.other _ _ q (fun q => nomatch q)] at this; cases this
section
variable {w : World} {pT : Program} {lT : List Str} {mean : ExcName → Option Value} {mg mb : Str → Option Value} {A A₀ : Around} {base h₀ : Heap} {env : Env} {L : Addr} {m : Str → Option Value} {s : Shared} {Q E : Value → Shared → Prop} {news : List (Addr × Obj)} {g : Obj → List (Addr × Obj)} {g2 : Obj → Obj → List (Addr × Obj)} {src : Addr} {o : Obj}
theorem no_dicts : KtsDicts (framesOf []) h₀ := fun _ hb => nomatch hb
theorem fright_o (C : Cx w pT lT mean mg mb A A₀ 400 1000 base h₀ [] env L m s.heap) (XB : (theHeap w.params).In base) (TB : Top pT lT mean mg mb base) (CB : CodeHd base 213 209)
    (N : News h₀ L s.heap news) (U : UpdF src o news g) (U2 : ∀ o', UpdF 209 (tabObj #[]) (g o') (g2 o')) (hs : SrcOk o) (h9 : @Ne Nat 209 src)
    (k : ∀ o' ps h' tk', SrcOk o' → Fr h₀ L h' m → News h₀ L h' (g2 o' (tabObj ps)) → Q (.bool true) { s with heap := h', toks := tk' }) :
    wpAny (model PySem.Challenge.rw_on0233_01.row.prog w) A (call (.ref 214) [.ref src]) Q E s := by
  obtain ⟨rest, r1, r2, n1, n2, _⟩ := two_out U U2
  exact fright_core C XB TB no_dicts CB (news_sub N r1) hs h9 n1 n2 fun h₀' o' ps h' tk' T hs' F' N' _ _ _ _ => k o' ps h' tk' hs' (fr_same T F') (news_sub (news_same T N') (r2 o' _))
theorem eright_o (C : Cx w pT lT mean mg mb A A₀ 400 1000 base h₀ [] env L m s.heap) (XB : (theHeap w.params).In base) (TB : Top pT lT mean mg mb base) (CB : CodeHd base 237 235)
    (N : News h₀ L s.heap news) (U : UpdF src o news g) (U2 : ∀ o', UpdF 235 (tabObj #[]) (g o') (g2 o')) (hs : SrcOk o) (h9 : @Ne Nat 235 src)
    (k : ∀ o' ps h' tk', SrcOk o' → Fr h₀ L h' m → News h₀ L h' (g2 o' (tabObj ps)) → Q (.bool true) { s with heap := h', toks := tk' }) :
    wpAny (model PySem.Challenge.rw_on0233_01.row.prog w) A (call (.ref 238) [.ref src]) Q E s := by
  obtain ⟨rest, r1, r2, n1, n2, _⟩ := two_out U U2
  exact eright_core C XB TB no_dicts CB (news_sub N r1) hs h9 n1 n2 fun h₀' o' ps h' tk' T hs' F' N' _ _ _ _ => k o' ps h' tk' hs' (fr_same T F') (news_sub (news_same T N') (r2 o' _))
noncomputable abbrev aQual : Str := Str.ofString "_law_axis_right.<locals>.<lambda>"
noncomputable abbrev aPos : Pos := ⟨178, 41, 178, 101⟩
theorem aright_o1 {sh sm : Int} {t1 t2 : Tok} (C : Cx w pT lT mean mg mb A A₀ 400 1000 base h₀ [] env L m s.heap) (XB : (theHeap w.params).In base) (TB : Top pT lT mean mg mb base) (CB : CodeHd base 232 230)
    (N : News h₀ L s.heap news) (U : UpdF src o news g) (U2 : ∀ o', UpdF 230 (tabObj #[]) (g o') (g2 o')) (hs : SrcOk o) (hsh : ShSm sh sm) (h9 : @Ne Nat 230 src)
    (kA : ∀ o' h' tk', SrcOk o' → Fr h₀ L h' m → News h₀ L h' (g2 o' (tabObj #[])) → Q (.bool true) { s with heap := h', toks := tk' })
    (kB : ∀ o' c' oc vs t h' tk', SrcOk o' → Fr h₀ L h' m → News h₀ L h' ((c', oc) :: g2 o' (tabObj #[rawInt aPos.line, rawInt aPos.col, .ref c'])) → oc.data = .fields vs → vs[1]? = some (.str aQual t) → (∀ p ∈ news, p.1 < c') → Q (.bool true) { s with heap := h', toks := tk' }) :
    wpAny (model PySem.Challenge.rw_on0233_01.row.prog w) A (call (.ref 233) [.ref src, .int sh t1, .int sm t2]) Q E s := by
  obtain ⟨rest, r1, r2, n1, n2, r3⟩ := two_out U U2
  refine aright_core (nt := []) C XB TB no_dicts CB (news_sub N r1) (.inl rfl) (fun _ hp => nomatch hp) hs hsh h9 n1 n2 fun h₀' o' ps' ext h' tk' T hs' F' N' aft _ _ _ _ => ?_
  rcases aft with ⟨rfl, rfl⟩ | ⟨c', oc, vs, t, rfl, rfl, d1, d2, hc⟩
  · exact kA o' h' tk' hs' (fr_same T F') (news_sub (news_same T N') (r2 o' _))
  · rcases hc with hc | hc
    · refine kB o' c' oc vs t h' tk' hs' (fr_same T F') (news_sub (news_same T N') fun p hp => ?_) d1 d2 fun p hp => ?_
      · rcases List.mem_cons.mp hp with rfl | hp
        · exact .tail _ (.tail _ (.head _))
        · rcases List.mem_cons.mp (r2 o' _ p hp) with rfl | hp
          · exact .head _
          · rcases List.mem_cons.mp hp with rfl | hp
            · exact .tail _ (.head _)
            · exact .tail _ (.tail _ (.tail _ hp))
      · rcases r3 p hp with e | e | e
        · rw [e]; exact hc _ (.head _)
        · rw [e]; exact hc _ (.tail _ (.head _))
        · exact hc p (.tail _ (.tail _ e))
    · exact nomatch hc
theorem aright_o2 {sh sm : Int} {t1 t2 : Tok} {ps : Array Value} {nt : List (Addr × Obj)} (C : Cx w pT lT mean mg mb A A₀ 400 1000 base h₀ [] env L m s.heap) (XB : (theHeap w.params).In base) (TB : Top pT lT mean mg mb base) (CB : CodeHd base 232 230)
    (N : News h₀ L s.heap news) (U : UpdF src o news g) (U2 : ∀ o', UpdF 230 (tabObj ps) (g o') (g2 o')) (hT : TabSt aQual aPos ps nt) (hnt : ∀ p ∈ nt, p ∈ news ∧ p.1 ≠ src ∧ p.1 ≠ 230) (hs : SrcOk o) (hsh : ShSm sh sm) (h9 : @Ne Nat 230 src)
    (k : ∀ o' ps' h' tk', SrcOk o' → Fr h₀ L h' m → News h₀ L h' (g2 o' (tabObj ps')) → Q (.bool true) { s with heap := h', toks := tk' }) :
    wpAny (model PySem.Challenge.rw_on0233_01.row.prog w) A (call (.ref 233) [.ref src, .int sh t1, .int sm t2]) Q E s := by
  obtain ⟨rest, r1, r2, n1, n2, r3⟩ := two_out U U2
  refine aright_core (nt := nt) C XB TB no_dicts CB (news_sub N r1) hT (fun p hp => ?_) hs hsh h9 n1 n2 fun h₀' o' ps' ext h' tk' T hs' F' N' _ _ _ _ _ => ?_
  · obtain ⟨a, b, c⟩ := hnt p hp
    rcases r3 p a with e | e | e
    · exact absurd e b
    · exact absurd e c
    · exact e
  · refine k o' ps' h' tk' hs' (fr_same T F') (news_sub (news_same T N') fun p hp => ?_)
    rcases List.mem_cons.mp (r2 o' _ p hp) with rfl | hp
    · exact .head _
    · rcases List.mem_cons.mp hp with rfl | hp
      · exact .tail _ (.head _)
      · exact .tail _ (.tail _ (List.mem_append_right _ hp))
theorem refused_o {lam : Addr} {oc : Value} {od : Option Addr} {fd : FuncData} {sl : Array (Option Value)}
    (C : Cx w pT lT mean mg mb A A₀ 420 1100 base h₀ [] env L m s.heap) (XB : (theHeap w.params).In base) (TB : Top pT lT mean mg mb base) (N : News h₀ L s.heap news)
    (hlm : (lam, (⟨oc, od, .func fd, sl⟩ : Obj)) ∈ news) (fl' : Flies w pT lT mean mg mb base lam (AtD 420 1100 env []) [env] news)
    (k : ∀ h' tk', Fr h₀ L h' m → News h₀ L h' news → Q (.bool true) { s with heap := h', toks := tk' }) :
    wpAny (model PySem.Challenge.rw_on0233_01.row.prog w) A (call (.ref 207) [.ref lam]) Q E s :=
  refused_core C XB TB no_dicts N hlm fl' fun h₀' h' tk' T F' N' _ _ _ _ => k h' tk' (fr_same T F') (news_same T N')
end
section
variable {w : World} {pT : Program} {lT : List Str} {mean : ExcName → Option Value} {mg mb : Str → Option Value} {A A₀ : Around} {base h₀ : Heap} {outer : List Env} {env : Env} {L : Addr} {m : Str → Option Value} {s : Shared} {Q E : Value → Shared → Prop} {news : List (Addr × Obj)}
theorem axis_low {sh sm : Int} {t ta tb : Tok}
    (C : Cx w pT lT mean mg mb A A₀ 540 1700 base h₀ outer env L m s.heap) (N : News h₀ L s.heap news) (hs : ShSm sh sm)
    (k : ∀ l tf tb h' tk', Fr h₀ L h' m → News h₀ L h' ((l, pairO 0 tf [128, 0] tb) :: news) → AllNe l news → Q (.ref l) { s with heap := h', toks := tk' }) :
    wpAny (model PySem.Challenge.rw_on0233_01.row.prog w) A (call (.ref 158) [.int (-32768) t, .int sh ta, .int sm tb]) Q E s := by
  have e : axF (-32768) sh sm = some (0, [128, 0]) := ax_mid (by omega) (by omega)
  refine axis_x C N hs (fun f b e' l tf tb h' tk' F' N' hne => ?_) (fun e' => ?_)
  · rw [e] at e'
    have e1 := Option.some.inj e'
    have q1 : 0 = f := congrArg Prod.fst e1
    have q2 : [128, 0] = b := congrArg Prod.snd e1
    subst q1 q2
    exact k l tf tb h' tk' F' N' hne
  · rw [e] at e'; cases e'
theorem axis_far {step sh sm : Int} {t ta tb : Tok}
    (C : Cx w pT lT mean mg mb A A₀ 540 1700 base h₀ outer env L m s.heap) (N : News h₀ L s.heap news) (hs : ShSm sh sm) (hf : step < -32768 ∨ 32767 < step)
    (ke : ∀ e h' tk', Flew s.heap [] (env :: outer) e h' → E (.ref e) { s with heap := h', toks := tk' }) :
    wpAny (model PySem.Challenge.rw_on0233_01.row.prog w) A (call (.ref 158) [.int step t, .int sh ta, .int sm tb]) Q E s := by
  refine axis_x C N hs (fun f b e' l tf tb h' tk' F' N' hne => ?_) (fun _ => ke)
  rw [ax_far hf] at e'; cases e'
theorem pair_lit {l b : Addr} {t t' u u' : Tok} {n : Nat} (N : News h₀ L s.heap news) (h1 : (l, pairO 0 t [128, 0] u) ∈ news) (h2 : (b, ({ cls := .type "tuple", data := .seq #[.int 0 t', .bytes #[128, 0] u'] n } : Obj)) ∈ news) (hu : A.units < cLine) (h : Q (.bool false) s) :
    wpAny (model PySem.Challenge.rw_on0233_01.row.prog w) A (compareOp .NotEq (.ref l) (.ref b)) Q E s := by
  have e : (#[128, 0] : Array UInt8) = byteArr [128, 0] := by decide +kernel
  rw [e] at h2
  have := SeqAt.RcNeAt.tuples (A := A) (s := s) (e := fun _ => true) (isTuple_of N h1) (isTuple_of N h2) hu (fun j h1 h2 => by
    rcases j with _ | _ | j
    · exact eq_int _ _ rfl
    · exact eq_by _ _ rfl
    · simp at h1; omega)
  exact cmp_ofNotEq (this _ w E Q h)
theorem shsm_x : ShSm 2 16 := .inl ⟨rfl, rfl⟩
theorem shsm_y : ShSm 4 32 := .inr ⟨rfl, rfl⟩
theorem max_nn (c : Int) : 0 ≤ if -1 - c > c then -1 - c else c := by split <;> omega
theorem pool_src {M X : Int} {P : Prop} [Decidable P] {ta tb : Tok} {n : Nat} (hM : 0 ≤ M) : SrcOk (W.listOf #[.int (M * if P then 1 else 0) ta, .int (X.fmod 2147483647) tb] n) :=
  ⟨_, _, _, _, _, rfl, by split <;> omega, (fmod_in _ (by decide)).1, (fmod_in _ (by decide)).2⟩
end
end Mine

namespace Mine
section
variable {w : World} {pT : Program} {lT : List Str} {mean : ExcName → Option Value} {mg mb : Str → Option Value} {A A₀ : Around} {base h₀ : Heap} {outer : List Env} {env : Env} {L : Addr} {m : Str → Option Value} {s : Shared} {Q E : Value → Shared → Prop} {news : List (Addr × Obj)}
theorem base_list {A : Around} {base g : Heap} {outer : List Env} {sc : Addr} {its : Array Value} (B : Below A base outer g) (hl : base.IsList sc its) : g.IsList sc its := by
  obtain ⟨o, ho, r⟩ := hl
  exact ⟨o, B.stays _ _ ho, r⟩
theorem pool_core {sc : Addr} {ws : List Value} {ns : List Int} {t : Tok}
    (C : Cx w pT lT mean mg mb A A₀ 500 1500 base h₀ outer env L m s.heap) (N : News h₀ L s.heap []) (hl : base.IsList sc ws.toArray) (hi : IntsAre ws ns) (hn : ns.length ≤ 63)
    (k : ∀ l o h' tk', SrcOk o → Fr h₀ L h' m → News h₀ L h' [(l, o)] → Kept [] s.heap h' → s.heap.get? l = none → Q (.ref l) { s with heap := h', toks := tk' }) :
    wpAny (model PySem.Challenge.rw_on0233_01.row.prog w) A (call (.ref 172) [.ref sc, .int 0 t]) Q E s := by
  k_with_none
  k_with "omega" => first | with_reducible assumption | decide | (with_reducible exact oN1 (by with_reducible assumption) (by decide)) | (with_reducible exact oN2 (by with_reducible assumption) (by decide)) | (with_reducible exact oN3 (by with_reducible assumption) (by decide)) | (with_reducible exact oN4 (by with_reducible assumption) (by decide)) | (with_reducible exact oN5 (by with_reducible assumption) (by decide)) | (with_reducible exact oN6 (by with_reducible assumption) (by decide)) | (with_reducible exact oN7 (by with_reducible assumption) (by decide)) | (with_reducible exact oN8 (by with_reducible assumption) (by decide)) | (with_reducible exact oI1 (by with_reducible assumption) (by decide)) | (with_reducible exact oI2 (by with_reducible assumption) (by decide)) | (with_reducible exact oI3 (by with_reducible assumption) (by decide)) | (with_reducible exact oI4 (by with_reducible assumption) (by decide)) | (with_reducible exact oI5 (by with_reducible assumption) (by decide)) | (with_reducible exact oI6 (by with_reducible assumption) (by decide)) | (with_reducible exact oI7 (by with_reducible assumption) (by decide)) | (with_reducible exact oI8 (by with_reducible assumption) (by decide)) | fail
  k_with "k_pk" => first | exact lA0 | exact lA1 | exact lA2 | exact lA3 | exact lA4 | exact lE1 | exact lE2 | exact lE3 | exact lE4 | exact lE5 | (refine cF ?_; k_extra "k_pk")
  k_with "k_pe" => first | exact eA0 | exact eA1 | exact eA2 | exact eA3 | exact eA4 | exact eE1 | exact eE2 | exact eE3 | exact eE4 | exact eE5 | (refine cF ?_; k_extra "k_pe")
  k_with "k_ltN" => with_reducible first | assumption | exact pL (by with_reducible assumption) (by k_extra "k_pk")
  k_with "k_ne" => (refine neN ?_; (try dsimp only); first | (with_reducible first | exact n01 | exact n02 | exact n03 | exact n04 | exact n05 | exact n01.symm | exact n02.symm | exact n03.symm | exact n04.symm | exact n05.symm | with_reducible assumption | exact Ne.symm (by with_reducible assumption) | exact Nat.ne_of_lt (by k_extra "k_ltN") | exact Nat.ne_of_gt (by k_extra "k_ltN") | exact nS1 (by k_extra "k_ltN") | exact Ne.symm (nS1 (by k_extra "k_ltN")) | exact nS2 (by k_extra "k_ltN") | exact Ne.symm (nS2 (by k_extra "k_ltN")) | exact nS3 (by k_extra "k_ltN") | exact Ne.symm (nS3 (by k_extra "k_ltN")) | exact nS4 (by k_extra "k_ltN") | exact Ne.symm (nS4 (by k_extra "k_ltN")) | exact nS5 (by k_extra "k_ltN") | exact Ne.symm (nS5 (by k_extra "k_ltN")) | exact nS6 (by k_extra "k_ltN") | exact Ne.symm (nS6 (by k_extra "k_ltN")) | exact nT (by with_reducible assumption) (by k_extra "k_ltN") | exact Ne.symm (nT (by with_reducible assumption) (by k_extra "k_ltN")) | exact pN (by with_reducible assumption) (by k_extra "k_pe") | exact Ne.symm (pN (by with_reducible assumption) (by k_extra "k_pe"))) | omega)
  k_with "cell_enter" => ((refine' enter_call ?qzC ?qzN ?qzk6 ?qzk7 ?qzk8 ?qzk9 ?qzkB ?_ ?qzc2 ?qzc3 ?qzc4 ?qzc5; (case qzC => assumption); (case qzN => assumption); (case qzk6 => k_is); (case qzk7 => k_is); (case qzk8 => decide); (case qzk9 => exact BindsTo.of_eq rfl); (case qzc5 => decide); (case qzkB => exact locs rfl); (case qzc2 => exact rfl); (case qzc3 => exact rfl); (case qzc4 => exact rfl); k_whole; intro g'z L'z h'z X0'z T0'z G'z nL'z F'z N'z B'z X'z T'z; (try dsimp only); (try k_fold)))
  have hwl := hi.length
  k_dflt cell_enter
  clear C N
  have lifted := base_list (by assumption) hl
  w_top off
  k_steps
  all_goals refine k _ _ _ _ ?_ (by assumption) (news_sub (by assumption) (List.forall_mem_cons.mpr ⟨by k_mem, List.forall_mem_nil _⟩)) (kept_of (by assumption) (by assumption) (by rfl)) (Gr.fresh (by assumption) (by assumption) (by k_mem) (by simp))
  all_goals exact pool_src (by first | exact max_nn _ | decide)
theorem pool_x {sc : Addr} {ws : List Value} {ns : List Int} {t : Tok}
    (C : Cx w pT lT mean mg mb A A₀ 500 1500 base h₀ outer env L m s.heap) (N : News h₀ L s.heap news) (hl : base.IsList sc ws.toArray) (hi : IntsAre ws ns) (hn : ns.length ≤ 63)
    (k : ∀ l o h' tk', SrcOk o → Fr h₀ L h' m → News h₀ L h' ((l, o) :: news) → AllNe l news → Q (.ref l) { s with heap := h', toks := tk' }) :
    wpAny (model PySem.Challenge.rw_on0233_01.row.prog w) A (call (.ref 172) [.ref sc, .int 0 t]) Q E s :=
  pool_core C (fun p hp => absurd hp (by simp)) hl hi hn fun l o h' tk' hs F' N' K' hf => k l o h' tk' hs F' (List.forall_mem_cons.mpr ⟨N' _ (.head _), fun p hp => ⟨K' _ _ (N p hp).1 (by simp), (N p hp).2⟩⟩) (new_ne N hf)
/-- the same, what the call may have made told as a tail -/
theorem aright_o3 {src : Addr} {o : Obj} {g : Obj → List (Addr × Obj)} {g2 : Obj → Obj → List (Addr × Obj)} {sh sm : Int} {t1 t2 : Tok} (C : Cx w pT lT mean mg mb A A₀ 400 1000 base h₀ [] env L m s.heap) (XB : (theHeap w.params).In base) (TB : Top pT lT mean mg mb base) (CB : CodeHd base 232 230)
    (N : News h₀ L s.heap news) (U : UpdF src o news g) (U2 : ∀ o', UpdF 230 (tabObj #[]) (g o') (g2 o')) (hs : SrcOk o) (hsh : ShSm sh sm) (h9 : @Ne Nat 230 src)
    (k : ∀ o' ps ext h' tk', SrcOk o' → Fr h₀ L h' m → News h₀ L h' (g2 o' (tabObj ps) ++ ext) → TabSt aQual aPos ps ext → (∀ q ∈ ext, AllNe q.1 news) → Q (.bool true) { s with heap := h', toks := tk' }) :
    wpAny (model PySem.Challenge.rw_on0233_01.row.prog w) A (call (.ref 233) [.ref src, .int sh t1, .int sm t2]) Q E s := by
  refine aright_o1 C XB TB CB N U U2 hs hsh h9 (fun o' h' tk' hs' F' N' => ?_) fun o' c' oc vs t h' tk' hs' F' N' d1 d2 l => ?_
  · exact k o' #[] [] h' tk' hs' F' (by rwa [List.append_nil]) (.inl rfl) fun _ hq => nomatch hq
  · refine k o' _ [(c', oc)] h' tk' hs' F' (news_sub N' fun p hp => ?_) (tab_fin (rest := []) d1 d2) fun q hq => ?_
    · rcases List.mem_append.mp hp with hp | hp
      · exact .tail _ hp
      · rw [List.mem_singleton.mp hp]; exact .head _
    · rw [List.mem_singleton.mp hq]
      exact allNe_of fun p hp => Nat.ne_of_lt (l p hp)
theorem grown4 {h : Heap} {a b c d : Array Value} (N : News h₀ L h news) (m1 : ((235 : Nat), tabObj a) ∈ news) (m2 : ((230 : Nat), tabObj b) ∈ news) (m3 : ((209 : Nat), tabObj c) ∈ news) (m4 : ((240 : Nat), tabObj d) ∈ news) : GrownAll [(237, 235), (232, 230), (213, 209), (244, 240)] h :=
  ⟨⟨a, (N _ m1).1⟩, ⟨b, (N _ m2).1⟩, ⟨c, (N _ m3).1⟩, ⟨d, (N _ m4).1⟩, trivial⟩
end
end Mine

namespace Mine
section
theorem law_walk : PySem.Challenge.rw_on0233_01.Holds := hd rfl rfl rfl (by
  k_with_none
  k_with "omega" => first | with_reducible assumption | decide | (with_reducible exact oN1 (by with_reducible assumption) (by decide)) | (with_reducible exact oN2 (by with_reducible assumption) (by decide)) | (with_reducible exact oN3 (by with_reducible assumption) (by decide)) | (with_reducible exact oN4 (by with_reducible assumption) (by decide)) | (with_reducible exact oN5 (by with_reducible assumption) (by decide)) | (with_reducible exact oN6 (by with_reducible assumption) (by decide)) | (with_reducible exact oN7 (by with_reducible assumption) (by decide)) | (with_reducible exact oN8 (by with_reducible assumption) (by decide)) | (with_reducible exact oI1 (by with_reducible assumption) (by decide)) | (with_reducible exact oI2 (by with_reducible assumption) (by decide)) | (with_reducible exact oI3 (by with_reducible assumption) (by decide)) | (with_reducible exact oI4 (by with_reducible assumption) (by decide)) | (with_reducible exact oI5 (by with_reducible assumption) (by decide)) | (with_reducible exact oI6 (by with_reducible assumption) (by decide)) | (with_reducible exact oI7 (by with_reducible assumption) (by decide)) | (with_reducible exact oI8 (by with_reducible assumption) (by decide)) | fail
  k_with "k_pk" => first | exact lA0 | exact lA1 | exact lA2 | exact lA3 | exact lA4 | exact lE1 | exact lE2 | exact lE3 | exact lE4 | exact lE5 | (refine cF ?_; k_extra "k_pk")
  k_with "k_pe" => first | exact eA0 | exact eA1 | exact eA2 | exact eA3 | exact eA4 | exact eE1 | exact eE2 | exact eE3 | exact eE4 | exact eE5 | (refine cF ?_; k_extra "k_pe")
  k_with "k_ltN" => with_reducible first | assumption | exact pL (by with_reducible assumption) (by k_extra "k_pk")
  k_with "k_ne" => (refine neN ?_; (try dsimp only); first | (with_reducible first | exact n01 | exact n02 | exact n03 | exact n04 | exact n05 | exact n01.symm | exact n02.symm | exact n03.symm | exact n04.symm | exact n05.symm | with_reducible assumption | exact Ne.symm (by with_reducible assumption) | exact Nat.ne_of_lt (by k_extra "k_ltN") | exact Nat.ne_of_gt (by k_extra "k_ltN") | exact nS1 (by k_extra "k_ltN") | exact Ne.symm (nS1 (by k_extra "k_ltN")) | exact nS2 (by k_extra "k_ltN") | exact Ne.symm (nS2 (by k_extra "k_ltN")) | exact nS3 (by k_extra "k_ltN") | exact Ne.symm (nS3 (by k_extra "k_ltN")) | exact nS4 (by k_extra "k_ltN") | exact Ne.symm (nS4 (by k_extra "k_ltN")) | exact nS5 (by k_extra "k_ltN") | exact Ne.symm (nS5 (by k_extra "k_ltN")) | exact nS6 (by k_extra "k_ltN") | exact Ne.symm (nS6 (by k_extra "k_ltN")) | exact nT (by with_reducible assumption) (by k_extra "k_ltN") | exact Ne.symm (nT (by with_reducible assumption) (by k_extra "k_ltN")) | exact pN (by with_reducible assumption) (by k_extra "k_pe") | exact Ne.symm (pN (by with_reducible assumption) (by k_extra "k_pe"))) | (first | exact ne_of_all (by with_reducible assumption) (by k_mem) | exact Ne.symm (ne_of_all (by with_reducible assumption) (by k_mem))) | omega | exact ne_of_all (by assumption) (by k_mem) | exact Ne.symm (ne_of_all (by assumption) (by k_mem)))
  k_with "k_all" => (first | exact List.forall_mem_nil _ | (refine' List.forall_mem_cons.mpr ⟨?qza, ?qzb⟩; (case qza => k_ne); (case qzb => k_all)) | exact apart_ne (by with_reducible assumption) (by k_mem) | exact allNe_mem (by with_reducible assumption) | exact allNe_sub (by with_reducible assumption) (fun p hp => by (repeat (first | exact hp | exact List.mem_append_right _ hp | exact List.mem_append_left _ hp | apply List.Mem.tail))) | exact below_sub (by with_reducible assumption) (fun p hp => by (repeat (first | exact hp | exact List.mem_append_right _ hp | exact List.mem_append_left _ hp | apply List.Mem.tail))))
  k_with "callWith ref" => ((k_here; k_dflt (first | (refine' callWith_K ?qzk1 ?qzk2 ?_; (case qzk1 => k_asm); (case qzk2 => k_is); k_whole) | (refine' callWith_K0 ?qzk1 ?qzk2 ?_; (case qzk1 => k_in); (case qzk2 => k_is); k_whole))))
  k_with "Flies" => ((k_dflt (refine' flies_of ?qzho ?qzhc ?qzhd ?qzhv ?qzhb ?qzco ?qzge ?qzki ?qzce ?_; (case qzho => k_mem); (case qzhc => k_mem); (case qzhd => assumption); (case qzhv => assumption); (case qzhb => exact rfl); (case qzco => exact rfl); (case qzge => exact rfl); (case qzki => exact rfl); (case qzce => decide)); intro s'z en'z g'z L'z h'z tk'z G'z nL'z F'z N'z B'z X'z T'z lt'z; (try dsimp only); (try k_fold)))
  k_with "GrownAll" => ((k_dflt (exact grown4 (by k_asm) (by k_mem) (by k_mem) (by k_mem) (by k_mem))))
  k_with "call ref" => ((k_here; (with_reducible show wpAny _ _ (call (Value.ref 172) _) _ _ _); k_dflt (refine' pool_x ?qzC ?qzN ?qzhl ?qzhi ?qzhn ?_; (case qzC => exact ⟨⟨rfl, Nat.le_of_ble_eq_true rfl, rfl, rfl, Nat.le_of_ble_eq_true rfl⟩, rfl, rfl, by k_asm, by k_asm, by k_asm, by k_asm⟩); (case qzN => k_asm); (case qzhl => k_asm); (case qzhi => k_asm); (case qzhn => omega); k_whole); intro l'z o'z h'z tk'z hs'z F'z N'z hne'z; (try k_sweep)))
  k_with "call ref" => ((k_here; (with_reducible show wpAny _ _ (call (Value.ref 214) _) _ _ _); k_dflt (refine' fright_o ?qzC ?qzXB ?qzTB ?qzCB ?qzN ?qzU ?qzU2 ?qzhs ?qzh9 ?_; (case qzC => exact ⟨⟨rfl, Nat.le_of_ble_eq_true rfl, rfl, rfl, Nat.le_of_ble_eq_true rfl⟩, rfl, rfl, by k_asm, by k_asm, by k_asm, by k_asm⟩); (case qzXB => k_asm); (case qzTB => k_asm); (case qzCB => k_asm); (case qzN => k_asm); (case qzU => k_updF); (case qzU2 => (intro o2x; (try dsimp only); k_updF)); (case qzhs => k_asm); (case qzh9 => k_ne); k_whole); intro o'z ps'z h'z tk'z hs'z F'z N'z; (try dsimp only at N'z); (try k_sweep)))
  k_with "call ref" => ((k_here; (with_reducible show wpAny _ _ (call (Value.ref 238) _) _ _ _); k_dflt (refine' eright_o ?qzC ?qzXB ?qzTB ?qzCB ?qzN ?qzU ?qzU2 ?qzhs ?qzh9 ?_; (case qzC => exact ⟨⟨rfl, Nat.le_of_ble_eq_true rfl, rfl, rfl, Nat.le_of_ble_eq_true rfl⟩, rfl, rfl, by k_asm, by k_asm, by k_asm, by k_asm⟩); (case qzXB => k_asm); (case qzTB => k_asm); (case qzCB => k_asm); (case qzN => k_asm); (case qzU => k_updF); (case qzU2 => (intro o2x; (try dsimp only); k_updF)); (case qzhs => k_asm); (case qzh9 => k_ne); k_whole); intro o'z ps'z h'z tk'z hs'z F'z N'z; (try dsimp only at N'z); (try k_sweep)))
  k_with "call ref" => ((k_here; (with_reducible show wpAny _ _ (call (Value.ref 233) _) _ _ _); k_dflt (k_extra "axis")))
  k_with "call ref" => ((k_here; (with_reducible show wpAny _ _ (call (Value.ref 207) _) _ _ _); k_dflt (refine' refused_o ?qzC ?qzXB ?qzTB ?qzN ?qzhlm ?_ (fun h'z tk'z F'z N'z => ?_); (case qzC => exact ⟨⟨rfl, Nat.le_of_ble_eq_true rfl, rfl, rfl, Nat.le_of_ble_eq_true rfl⟩, rfl, rfl, by k_asm, by k_asm, by k_asm, by k_asm⟩); (case qzXB => k_asm); (case qzTB => k_asm); (case qzN => k_asm); (case qzhlm => k_mem); k_whole); (all_goals (try k_sweep))))
  k_with "call ref" => ((k_here; (with_reducible show wpAny _ _ (call (Value.ref 158) [Value.int (-32768) _, _, _]) _ _ _); k_dflt (refine' axis_low ?qzC ?qzN ?qzhs ?_; (case qzC => exact ⟨⟨rfl, Nat.le_of_ble_eq_true rfl, rfl, rfl, Nat.le_of_ble_eq_true rfl⟩, rfl, rfl, by k_asm, by k_asm, by k_asm, by k_asm⟩); (case qzN => k_asm); (case qzhs => first | exact shsm_x | exact shsm_y); k_whole); intro l'z tf'z tb'z h'z tk'z F'z N'z hne'z; (try k_sweep)))
  k_with "call ref" => ((k_here; (with_reducible show wpAny _ _ (call (Value.ref 158) _) _ _ _); k_dflt (refine' axis_far ?qzC ?qzN ?qzhs ?qzhf (fun e1'z h1'z tk1'z R1'z => ?_); (case qzC => exact ⟨⟨rfl, Nat.le_of_ble_eq_true rfl, rfl, rfl, Nat.le_of_ble_eq_true rfl⟩, rfl, rfl, by k_asm, by k_asm, by k_asm, by k_asm⟩); (case qzN => k_asm); (case qzhs => first | exact shsm_x | exact shsm_y); (case qzhf => decide); k_whole); (try k_sweep)))
  k_with "leaving ref" => ((k_here; refine' leave_pure ?qzR ?qzhA ?qzhf ?qzK ?qzF ?qzN ?qzG ?qzhL ?qzdi ?qzhd ?_; (case qzR => k_asm); (case qzhA => exact rfl); (case qzhf => exact rfl); (case qzK => k_asm); (case qzF => k_asm); (case qzN => k_asm); (case qzG => k_asm); (case qzhL => k_asm); (case qzdi => exact fun _ hb => nomatch hb); (case qzhd => exact fun p hp => hp); k_whole; intro hz'z fz'z; exact FlewAt.intro fz'z))
  k_with "compareOp NotEq ref ref" => ((k_here; k_dflt (refine' pair_lit ?qzN ?qzh1 ?qzh2 ?qzhu ?_; (case qzN => k_asm); (case qzh1 => k_mem); (case qzh2 => k_mem); (case qzhu => exact Nat.le_of_ble_eq_true rfl); k_whole)))
  k_go0
  (all_goals try k_fold)
  k_with "axis" => first
    | ((with_reducible show wpAny _ _ (call (Value.ref 233) [_, Value.int 2 _, _]) _ _ _)
       refine' aright_o1 ?Ca ?XBa ?TBa ?CBa ?Na ?Ua ?U2a ?hsa ?hsha ?h9a ?kAa ?kBa
       case Ca => exact ⟨⟨rfl, Nat.le_of_ble_eq_true rfl, rfl, rfl, Nat.le_of_ble_eq_true rfl⟩, rfl, rfl, by k_asm, by k_asm, by k_asm, by k_asm⟩
       case XBa => k_asm
       case TBa => k_asm
       case CBa => k_asm
       case Na => k_asm
       case Ua => k_updF
       case U2a => (intro o2x; (try dsimp only); k_updF)
       case hsa => k_asm
       case hsha => exact shsm_x
       case h9a => k_ne
       case' kAa => (intro oA hA tkA hsA FA NA; (try dsimp only at NA); have hStA : TabSt aQual aPos #[] [] := .inl rfl)
       case' kBa => (intro oA cA ocA vsA tA hA tkA hsA FA NA d1A d2A lA; (try dsimp only at NA); have hStA : TabSt aQual aPos #[rawInt aPos.line, rawInt aPos.col, .ref cA] [(cA, ocA)] := tab_fin (rest := []) d1A d2A; (try k_lt lA)))
    | (refine' aright_o2 ?Cb ?XBb ?TBb ?CBb ?Nb ?Ub ?U2b hStA ?hntb ?hsb ?hshb ?h9b ?_
       case Cb => exact ⟨⟨rfl, Nat.le_of_ble_eq_true rfl, rfl, rfl, Nat.le_of_ble_eq_true rfl⟩, rfl, rfl, by k_asm, by k_asm, by k_asm, by k_asm⟩
       case XBb => k_asm
       case TBb => k_asm
       case CBb => k_asm
       case Nb => k_asm
       case Ub => k_updF
       case U2b => (intro o2x; (try dsimp only); k_updF)
       case hntb => first | exact List.forall_mem_nil _ | exact List.forall_mem_cons.mpr ⟨⟨by k_mem, by k_ne, by k_ne⟩, List.forall_mem_nil _⟩
       case hsb => k_asm
       case hshb => exact shsm_y
       case h9b => k_ne
       (intro oB psB hB tkB hsB FB NB; (try dsimp only at NB)))
  repeat' ((fail_if_success (with_reducible show GoodW _ _ _ _ _ _ _)); first | (k_unfold; (try dsimp only)) | walk1 | (dsimp only; walk1))
  all_goals (
    show GoodW _ _ _ _ _ (.ok (.ret (.bool true))) _
    refine goodW_bool (by with_reducible assumption) (by with_reducible assumption) (raisesW_false ?_) ?_
    · wrow_none_raised
    · wrow_post))
end
end Mine

theorem PySem.Challenge.cw_on0233_01_holds : PySem.Challenge.rw_on0233_01.Holds :=
  Mine.law_walk
