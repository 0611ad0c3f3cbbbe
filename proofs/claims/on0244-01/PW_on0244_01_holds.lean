import PyProof.Rows.All
import Wide.All
import OpenK.AllK
import Wide.FinOn
import PySem.Challenge.RW_on0244_01
set_option autoImplicit false
set_option Elab.async false
set_option maxRecDepth 100000
set_option linter.all false
set_option maxHeartbeats 4000000
set_option compiler.extract_closed false
namespace Mine
open PySem PySem.W PySem.Calls PyProof.Rows
noncomputable abbrev pw : Program := PySem.Challenge.pw_on0244_01
noncomputable def stAt : List Stmt → Nat → Stmt
  | [], _ => .Pass ⟨0, 0, 0, 0⟩
  | a :: _, 0 => a
  | _ :: r, i + 1 => stAt r i
noncomputable def sA (i : Nat) : Stmt := stAt pw.main.body i
noncomputable def sM (i j : Nat) : Stmt := match sA i with
  | .ClassDef _ _ _ b _ _ _ _ _ _ _ => stAt b j
  | s => s
noncomputable def fO (s : Stmt) (q : Str) : Obj := match s with
  | .FunctionDef n ps b _ _ _ sc _ _ _ => { cls := .none, data := .func { name := n, qualname := q, params := ps, body := .stmts b, scope := sc, globals := 0, closure := [], defaults := .none, kwdefaults := .none } }
  | _ => { cls := .none }
noncomputable def hO (s : Stmt) (q : Str) (d m c : Value) : Obj := match s with
  | .FunctionDef n ps b _ _ _ sc _ _ _ => { cls := .type "function", data := .func { name := n, qualname := q, params := ps, body := .stmts b, scope := sc, globals := 3, closure := [], defaults := d, kwdefaults := .none, pyModule := m, code := c } }
  | _ => { cls := .none }
noncomputable def dO (P : Params) (c : Value) (n : Nat) (l : List (String × Nat × Value)) : Obj := { cls := c, data := .dict (l.map fun x => ⟨PyData.keyHash P (Str.ofString x.1), .str (Str.ofString x.1) x.2.1, x.2.2⟩).toArray n }
noncomputable def qO (c : Value) (l : List Value) : Obj := { cls := c, data := .seq l.toArray }
noncomputable def gO (c : Value) (l : List Value) : Obj := { cls := c, data := .fields l.toArray }
noncomputable def nO (c : Value) (l : List (Option Value)) : Obj := { cls := c, slots := l.toArray }
noncomputable def cO (c : Value) (n : Str) (b m : List Value) (ns : Addr) (q : Str) (su : List Value) (l : List (Option Value)) : Obj := { cls := c, data := .cls { name := n, bases := b, mro := m, ns := ns, qualname := q, subclasses := su }, slots := l.toArray }
noncomputable def lf (o : Obj) : BT := .node o .nil .nil
noncomputable def nd (o : Obj) (a b : BT) : BT := .node o a b
noncomputable def kO (m n : Str) (a : Nat) (l p : Int) (r : Addr) (b : Bool) (q : Addr) (d : Nat) : Obj := gO (.type "code") [.str m a, .str n (a + 1), .str "/claim/cut.py" (a + 2), .int l 0, .int p 0, .int 0 0, .int 0 0, .int 3 0, .ref r, .bool b, .int 181 0, .ref q, .none, .ref (q + 1), .ref (q + 2), .ref (q + 3), .int d 0, .int l 0, .str "/claim/cut.py" (d + 1)]
noncomputable def hh (a x : Obj) (_ : a = x) : Obj := x
local macro_rules | `(tactic| walk_at "h") => `(tactic| (rotate_left; conv => lhs; whnf))
noncomputable abbrev b0 := boot_o_0
noncomputable abbrev b1 := boot_o_1
noncomputable abbrev b2 := boot_o_2
noncomputable abbrev b3 := boot_o_3
noncomputable abbrev b4 := boot_o_4
noncomputable abbrev b5 := boot_o_5
noncomputable abbrev b6 := boot_o_6
noncomputable abbrev b7 := boot_o_7
noncomputable abbrev b8 := boot_o_8
noncomputable abbrev b9 := boot_o_9
noncomputable abbrev b10 := boot_o_10
noncomputable def o0 : Obj := qO (.type "tuple") []
noncomputable def o1 : Obj := gO .none []
noncomputable def o2 : Obj := gO (.type "code") [.str "<module>" 182, .str "<module>" 183, .str "/claim/cut.py" 184, .int 1 0, .int 0 0, .int 0 0, .int 0 0, .int 0 0, .ref 11, .bool false, .int 181 0, .ref 12, .none, .none, .none, .none, .int 185 0, .int 1 0, .str "/claim/cut.py" 186]
noncomputable def o3 : Obj := nO (.type "frame") [some (.ref 13), some (.ref 3), some (.ref 3), none, some (.str "__main__" 164), none, some (.ref 0)]
noncomputable def o4 (P : Params) : Obj := dO P (.type "dict") 21 [("__name__", 165, .str "outlinemill.hint_moves" 227), ("__doc__", 166, .none), ("__package__", 167, .none), ("__loader__", 168, .builtin "__main__.__loader__#opaque"), ("__spec__", 169, .none), ("__annotations__", 170, .ref 6), ("__builtins__", 171, .ref 4), ("__file__", 173, .str "/claim/cut.py" 172), ("__cached__", 174, .none), ("_wall", 193, .ref 21), ("ONE14", 197, .int 16384 196), ("muldiv", 207, .ref 28), ("cut_div", 217, .ref 35), ("dot14", 226, .ref 42), ("apart", 236, .ref 49), ("measured", 245, .ref 56), ("dual_measured", 254, .ref 63), ("place_of", 263, .ref 70), ("touch", 272, .ref 77), ("step_of", 281, .ref 84), ("shifted", 294, .ref 91)]
noncomputable def o5 : Obj := gO .none [.int 1 0, .int 0 0, .ref 20, .int 6 0, .int 0 0, .ref 27, .int 13 0, .int 0 0, .ref 34, .int 18 0, .int 0 0, .ref 41, .int 21 0, .int 0 0, .ref 48, .int 23 0, .int 0 0, .ref 55, .int 25 0, .int 0 0, .ref 62, .int 27 0, .int 0 0, .ref 69, .int 29 0, .int 0 0, .ref 76, .int 34 0, .int 0 0, .ref 83, .int 37 0, .int 0 0, .ref 90]
noncomputable def o6 : Obj := qO (.type "tuple") [.str "k" 190]
noncomputable def o7 : Obj := fO (sA 0) "_wall"
noncomputable def o8 : Obj := kO "_wall" "_wall" 187 1 1 15 true 16 191
noncomputable def o9 : Obj := by refine hh (hO (sA 0) "_wall" .none (.str "__main__" 164) (.ref 20)) ?_ ?_; walk_at "h"
noncomputable def o10 : Obj := qO (.type "tuple") [.str "a" 201, .str "b" 202, .str "c" 203, .str "top" 204]
noncomputable def o11 : Obj := fO (sA 3) "muldiv"
noncomputable def o12 : Obj := kO "muldiv" "muldiv" 198 6 3 22 true 23 205
noncomputable def o13 : Obj := by refine hh (hO (sA 3) "muldiv" .none (.str "outlinemill.hint_numbers" 194) (.ref 27)) ?_ ?_; walk_at "h"
noncomputable def o14 : Obj := qO (.type "tuple") [.str "a" 211, .str "b" 212, .str "c" 213, .str "top" 214]
noncomputable def o15 : Obj := fO (sA 4) "cut_div"
noncomputable def o16 : Obj := kO "cut_div" "cut_div" 208 13 3 29 true 30 215
noncomputable def o17 : Obj := by refine hh (hO (sA 4) "cut_div" .none (.str "outlinemill.hint_numbers" 194) (.ref 34)) ?_ ?_; walk_at "h"
noncomputable def o18 : Obj := qO (.type "tuple") [.str "x" 221, .str "y" 222, .str "vector" 223]
noncomputable def o19 : Obj := fO (sA 5) "dot14"
noncomputable def o20 : Obj := kO "dot14" "dot14" 218 18 3 36 true 37 224
noncomputable def o21 : Obj := by refine hh (hO (sA 5) "dot14" .none (.str "outlinemill.hint_numbers" 194) (.ref 41)) ?_ ?_; walk_at "h"
noncomputable def o22 : Obj := qO (.type "tuple") [.str "one" 232, .str "other" 233]
noncomputable def o23 : Obj := fO (sA 7) "apart"
noncomputable def o24 : Obj := kO "apart" "apart" 229 21 2 43 true 44 234
noncomputable def o25 : Obj := by refine hh (hO (sA 7) "apart" .none (.str "outlinemill.hint_moves" 227) (.ref 48)) ?_ ?_; walk_at "h"
noncomputable def o26 : Obj := qO (.type "tuple") [.str "state" 240, .str "one" 241, .str "other" 242]
noncomputable def o27 : Obj := fO (sA 8) "measured"
noncomputable def o28 : Obj := kO "measured" "measured" 237 23 3 50 true 51 243
noncomputable def o29 : Obj := by refine hh (hO (sA 8) "measured" .none (.str "outlinemill.hint_moves" 227) (.ref 55)) ?_ ?_; walk_at "h"
noncomputable def o30 : Obj := qO (.type "tuple") [.str "state" 249, .str "one" 250, .str "other" 251]
noncomputable def o31 : Obj := fO (sA 9) "dual_measured"
noncomputable def o32 : Obj := kO "dual_measured" "dual_measured" 246 25 3 57 true 58 252
noncomputable def o33 : Obj := by refine hh (hO (sA 9) "dual_measured" .none (.str "outlinemill.hint_moves" 227) (.ref 62)) ?_ ?_; walk_at "h"
noncomputable def o34 : Obj := qO (.type "tuple") [.str "state" 258, .str "zone" 259, .str "i" 260]
noncomputable def o35 : Obj := fO (sA 10) "place_of"
noncomputable def o36 : Obj := kO "place_of" "place_of" 255 27 3 64 true 65 261
noncomputable def o37 : Obj := by refine hh (hO (sA 10) "place_of" .none (.str "outlinemill.hint_moves" 227) (.ref 69)) ?_ ?_; walk_at "h"
noncomputable def o38 : Obj := qO (.type "tuple") [.str "state" 267, .str "zone" 268, .str "i" 269]
noncomputable def o39 : Obj := fO (sA 11) "touch"
noncomputable def o40 : Obj := kO "touch" "touch" 264 29 3 71 true 72 270
noncomputable def o41 : Obj := by refine hh (hO (sA 11) "touch" .none (.str "outlinemill.hint_moves" 227) (.ref 76)) ?_ ?_; walk_at "h"
noncomputable def o42 : Obj := qO (.type "tuple") [.str "state" 276, .str "distance" 277, .str "dot" 278]
noncomputable def o43 : Obj := fO (sA 12) "step_of"
noncomputable def o44 : Obj := kO "step_of" "step_of" 273 34 2 78 true 79 279
noncomputable def o45 : Obj := by refine hh (hO (sA 12) "step_of" .none (.str "outlinemill.hint_moves" 227) (.ref 83)) ?_ ?_; walk_at "h"
noncomputable def o46 : Obj := qO (.type "tuple") [.str "state" 285, .str "zone" 286, .str "i" 287, .str "step" 288, .str "is_touching" 289, .str "x" 290, .str "y" 291]
noncomputable def o47 : Obj := fO (sA 13) "shifted"
noncomputable def o48 : Obj := kO "shifted" "shifted" 282 37 5 85 true 86 292
noncomputable def o49 : Obj := by refine hh (hO (sA 13) "shifted" .none (.str "outlinemill.hint_moves" 227) (.ref 90)) ?_ ?_; walk_at "h"
noncomputable def o50 (P : Params) : Obj := dO P (.type "dict") 32 [("__name__", 165, .str "outlinemill.errors" 427), ("__doc__", 166, .none), ("__package__", 167, .none), ("__loader__", 168, .builtin "__main__.__loader__#opaque"), ("__spec__", 169, .none), ("__annotations__", 170, .ref 6), ("__builtins__", 171, .ref 4), ("__file__", 173, .str "/claim/cut.py" 172), ("__cached__", 174, .none), ("_wall", 193, .ref 21), ("ONE14", 197, .int 16384 196), ("muldiv", 207, .ref 28), ("cut_div", 217, .ref 35), ("dot14", 226, .ref 42), ("apart", 236, .ref 49), ("measured", 245, .ref 56), ("dual_measured", 254, .ref 63), ("place_of", 263, .ref 70), ("touch", 272, .ref 77), ("step_of", 281, .ref 84), ("shifted", 294, .ref 91), ("move_point", 304, .ref 98), ("NOUGHT", 309, .ref 99), ("do_gc", 319, .ref 106), ("do_scfs", 330, .ref 113), ("do_md", 343, .ref 120), ("crossing", 360, .ref 127), ("do_isect", 378, .ref 134), ("do_alignpts", 393, .ref 141), ("do_utp", 403, .ref 148), ("do_flippt", 414, .ref 155), ("do_flip_row", 426, .ref 162)]
noncomputable def o51 : Obj := gO .none [.int 1 0, .int 0 0, .ref 20, .int 6 0, .int 0 0, .ref 27, .int 13 0, .int 0 0, .ref 34, .int 18 0, .int 0 0, .ref 41, .int 21 0, .int 0 0, .ref 48, .int 23 0, .int 0 0, .ref 55, .int 25 0, .int 0 0, .ref 62, .int 27 0, .int 0 0, .ref 69, .int 29 0, .int 0 0, .ref 76, .int 34 0, .int 0 0, .ref 83, .int 37 0, .int 0 0, .ref 90, .int 46 0, .int 0 0, .ref 97, .int 50 0, .int 0 0, .ref 105, .int 57 0, .int 0 0, .ref 112, .int 64 0, .int 0 0, .ref 119, .int 74 0, .int 0 0, .ref 126, .int 84 0, .int 0 0, .ref 133, .int 94 0, .int 0 0, .ref 140, .int 102 0, .int 0 0, .ref 147, .int 109 0, .int 0 0, .ref 154, .int 114 0, .int 0 0, .ref 161]
noncomputable def o52 : Obj := qO (.type "tuple") [.str "work" 298, .str "zone" 299, .str "i" 300, .str "distance" 301]
noncomputable def o53 : Obj := fO (sA 14) "move_point"
noncomputable def o54 : Obj := kO "move_point" "move_point" 295 46 4 92 true 93 302
noncomputable def o55 : Obj := by refine hh (hO (sA 14) "move_point" .none (.str "outlinemill.hint_moves" 227) (.ref 97)) ?_ ?_; walk_at "h"
noncomputable def o56 : Obj := qO (.type "tuple") [.int 0 307, .int 0 308]
noncomputable def o57 : Obj := qO (.type "tuple") [.str "work" 313, .str "code" 314, .str "zone" 315, .str "i" 316]
noncomputable def o58 : Obj := fO (sA 17) "do_gc"
noncomputable def o59 : Obj := kO "do_gc" "do_gc" 310 50 2 100 true 101 317
noncomputable def o60 : Obj := by refine hh (hO (sA 17) "do_gc" .none (.str "outlinemill.hint_marks" 305) (.ref 105)) ?_ ?_; walk_at "h"
noncomputable def o61 : Obj := qO (.type "tuple") [.str "work" 323, .str "code" 324, .str "zone" 325, .str "value" 326, .str "i" 327]
noncomputable def o62 : Obj := fO (sA 18) "do_scfs"
noncomputable def o63 : Obj := kO "do_scfs" "do_scfs" 320 57 2 107 true 108 328
noncomputable def o64 : Obj := by refine hh (hO (sA 18) "do_scfs" .none (.str "outlinemill.hint_marks" 305) (.ref 112)) ?_ ?_; walk_at "h"
noncomputable def o65 : Obj := qO (.type "tuple") [.str "work" 334, .str "code" 335, .str "state" 336, .str "other" 337, .str "one" 338, .str "first" 339, .str "second" 340]
noncomputable def o66 : Obj := fO (sA 19) "do_md"
noncomputable def o67 : Obj := kO "do_md" "do_md" 331 64 2 114 true 115 341
noncomputable def o68 : Obj := by refine hh (hO (sA 19) "do_md" .none (.str "outlinemill.hint_marks" 305) (.ref 119)) ?_ ?_; walk_at "h"
noncomputable def o69 : Obj := qO (.type "tuple") [.str "first" 347, .str "second" 348, .str "third" 349, .str "fourth" 350, .str "one" 351, .str "other" 352, .str "turn" 353, .str "along" 354, .str "way" 355, .str "share" 356, .str "x" 357]
noncomputable def o70 : Obj := fO (sA 20) "crossing"
noncomputable def o71 : Obj := kO "crossing" "crossing" 344 74 4 121 true 122 358
noncomputable def o72 : Obj := by refine hh (hO (sA 20) "crossing" .none (.str "outlinemill.hint_marks" 305) (.ref 126)) ?_ ?_; walk_at "h"
noncomputable def o73 : Obj := qO (.type "tuple") [.str "work" 364, .str "code" 365, .str "state" 366, .str "fourth" 367, .str "third" 368, .str "second" 369, .str "first" 370, .str "own" 371, .str "i" 372, .str "one" 373, .str "other" 374, .str "places" 375]
noncomputable def o74 : Obj := fO (sA 21) "do_isect"
noncomputable def o75 : Obj := kO "do_isect" "do_isect" 361 84 2 128 true 129 376
noncomputable def o76 : Obj := by refine hh (hO (sA 21) "do_isect" .none (.str "outlinemill.hint_marks" 305) (.ref 133)) ?_ ?_; walk_at "h"
noncomputable def o77 : Obj := qO (.type "tuple") [.str "work" 382, .str "code" 383, .str "state" 384, .str "second" 385, .str "first" 386, .str "other" 387, .str "one" 388, .str "way" 389, .str "half" 390]
noncomputable def o78 : Obj := fO (sA 22) "do_alignpts"
noncomputable def o79 : Obj := kO "do_alignpts" "do_alignpts" 379 94 2 135 true 136 391
noncomputable def o80 : Obj := by refine hh (hO (sA 22) "do_alignpts" .none (.str "outlinemill.hint_marks" 305) (.ref 140)) ?_ ?_; walk_at "h"
noncomputable def o81 : Obj := qO (.type "tuple") [.str "work" 397, .str "code" 398, .str "zone" 399, .str "i" 400]
noncomputable def o82 : Obj := fO (sA 23) "do_utp"
noncomputable def o83 : Obj := kO "do_utp" "do_utp" 394 102 2 142 true 143 401
noncomputable def o84 : Obj := by refine hh (hO (sA 23) "do_utp" .none (.str "outlinemill.hint_marks" 305) (.ref 147)) ?_ ?_; walk_at "h"
noncomputable def o85 : Obj := qO (.type "tuple") [.str "work" 407, .str "code" 408, .str "zone" 409, .str "turn" 410, .str "i" 411]
noncomputable def o86 : Obj := fO (sA 24) "do_flippt"
noncomputable def o87 : Obj := kO "do_flippt" "do_flippt" 404 109 2 149 true 150 412
noncomputable def o88 : Obj := by refine hh (hO (sA 24) "do_flippt" .none (.str "outlinemill.hint_marks" 305) (.ref 154)) ?_ ?_; walk_at "h"
noncomputable def o89 : Obj := qO (.type "tuple") [.str "work" 418, .str "code" 419, .str "zone" 420, .str "last" 421, .str "first" 422, .str "i" 423]
noncomputable def o90 : Obj := fO (sA 25) "do_flip_row"
noncomputable def o91 : Obj := kO "do_flip_row" "do_flip_row" 415 114 2 156 true 157 424
noncomputable def o92 : Obj := by refine hh (hO (sA 25) "do_flip_row" .none (.str "outlinemill.hint_marks" 305) (.ref 161)) ?_ ?_; walk_at "h"
noncomputable def o93 (P : Params) : Obj := dO P .none 2 [("type.__subclasses__.Exception.0", 454, .int 179 0), ("type.__subclasses__.Exception.n", 455, .int 1 0)]
noncomputable def o94 (P : Params) : Obj := dO P (.type "dict") 33 [("__name__", 165, .str "outlinemill.errors" 427), ("__doc__", 166, .none), ("__package__", 167, .none), ("__loader__", 168, .builtin "__main__.__loader__#opaque"), ("__spec__", 169, .none), ("__annotations__", 170, .ref 6), ("__builtins__", 171, .ref 4), ("__file__", 173, .str "/claim/cut.py" 172), ("__cached__", 174, .none), ("_wall", 193, .ref 21), ("ONE14", 197, .int 16384 196), ("muldiv", 207, .ref 28), ("cut_div", 217, .ref 35), ("dot14", 226, .ref 42), ("apart", 236, .ref 49), ("measured", 245, .ref 56), ("dual_measured", 254, .ref 63), ("place_of", 263, .ref 70), ("touch", 272, .ref 77), ("step_of", 281, .ref 84), ("shifted", 294, .ref 91), ("move_point", 304, .ref 98), ("NOUGHT", 309, .ref 99), ("do_gc", 319, .ref 106), ("do_scfs", 330, .ref 113), ("do_md", 343, .ref 120), ("crossing", 360, .ref 127), ("do_isect", 378, .ref 134), ("do_alignpts", 393, .ref 141), ("do_utp", 403, .ref 148), ("do_flippt", 414, .ref 155), ("do_flip_row", 426, .ref 162), ("MillError", 457, .ref 179)]
noncomputable def o95 : Obj := gO .none [.int 1 0, .int 0 0, .ref 20, .int 6 0, .int 0 0, .ref 27, .int 13 0, .int 0 0, .ref 34, .int 18 0, .int 0 0, .ref 41, .int 21 0, .int 0 0, .ref 48, .int 23 0, .int 0 0, .ref 55, .int 25 0, .int 0 0, .ref 62, .int 27 0, .int 0 0, .ref 69, .int 29 0, .int 0 0, .ref 76, .int 34 0, .int 0 0, .ref 83, .int 37 0, .int 0 0, .ref 90, .int 46 0, .int 0 0, .ref 97, .int 50 0, .int 0 0, .ref 105, .int 57 0, .int 0 0, .ref 112, .int 64 0, .int 0 0, .ref 119, .int 74 0, .int 0 0, .ref 126, .int 84 0, .int 0 0, .ref 133, .int 94 0, .int 0 0, .ref 140, .int 102 0, .int 0 0, .ref 147, .int 109 0, .int 0 0, .ref 154, .int 114 0, .int 0 0, .ref 161, .int 121 0, .int 0 0, .ref 168]
noncomputable def o96 : Obj := qO (.type "tuple") [.type "Exception"]
noncomputable def o97 : Obj := gO (.type "builtin_function_or_method") [.builtin "type.__prepare__", .type "type"]
noncomputable def o98 (P : Params) : Obj := dO P (.type "dict") 5 [("__module__", 436, .str "outlinemill.errors" 427), ("__qualname__", 438, .str "MillError" 437), ("__firstlineno__", 440, .int 121 439), ("__init__", 448, .ref 176), ("__static_attributes__", 450, .ref 177)]
noncomputable def o99 : Obj := gO .none [.int 123 0, .int 4 0, .ref 175]
noncomputable def o100 : Obj := gO (.type "code") [.str "MillError" 431, .str "MillError" 432, .str "/claim/cut.py" 433, .int 121 0, .int 0 0, .int 0 0, .int 0 0, .int 0 0, .ref 166, .bool false, .int 181 0, .ref 167, .none, .none, .none, .none, .int 434 0, .int 121 0, .str "/claim/cut.py" 435]
noncomputable def o101 : Obj := nO (.type "frame") [some (.ref 168), some (.ref 3), some (.ref 165), none, some (.str "outlinemill.errors" 427), none, some (.ref 0)]
noncomputable def o102 : Obj := qO (.type "tuple") [.str "self" 444, .str "message" 445]
noncomputable def o103 : Obj := fO (sM 27 0) "MillError.__init__"
noncomputable def o104 : Obj := kO "__init__" "MillError.__init__" 441 123 2 170 true 171 446
noncomputable def o105 : Obj := by refine hh (hO (sM 27 0) "MillError.__init__" .none (.str "outlinemill.errors" 427) (.ref 175)) ?_ ?_; walk_at "h"
noncomputable def o106 : Obj := qO (.type "tuple") [.str "message" 449]
noncomputable def o107 (P : Params) : Obj := dO P (.type "dict") 3 [("__module__", 436, .str "outlinemill.errors" 427), ("__firstlineno__", 440, .int 121 439), ("__init__", 448, .ref 176), ("__static_attributes__", 450, .ref 177), ("__weakref__", 452, .ref 180), ("__doc__", 453, .none)]
noncomputable def o108 : Obj := cO (.type "type") "MillError" [.type "Exception"] [.ref 179, .type "Exception", .type "BaseException", .type "object"] 178 "MillError" [] [some (.ref 163), none, some (.str "MillError" 429), some (.str "MillError" 437), some (.builtin "Exception.__new__"), some (.bool true)]
noncomputable def o109 : Obj := gO (.type "getset_descriptor") [.str "__weakref__" 451, .ref 179, .builtin "ExceptionGroup.__weakref__", .none]
noncomputable def o110 : Obj := gO (.type "super") [.ref 179, .ref 179, .ref 179]
noncomputable def o111 : Obj := gO (.type "builtin_function_or_method") [.builtin "object.__init_subclass__", .ref 179]
noncomputable def o112 (P : Params) : Obj := dO P (.type "dict") 34 [("__name__", 165, .str "outlinemill.hint_rounds" 474), ("__doc__", 166, .none), ("__package__", 167, .none), ("__loader__", 168, .builtin "__main__.__loader__#opaque"), ("__spec__", 169, .none), ("__annotations__", 170, .ref 6), ("__builtins__", 171, .ref 4), ("__file__", 173, .str "/claim/cut.py" 172), ("__cached__", 174, .none), ("_wall", 193, .ref 21), ("ONE14", 197, .int 16384 196), ("muldiv", 207, .ref 28), ("cut_div", 217, .ref 35), ("dot14", 226, .ref 42), ("apart", 236, .ref 49), ("measured", 245, .ref 56), ("dual_measured", 254, .ref 63), ("place_of", 263, .ref 70), ("touch", 272, .ref 77), ("step_of", 281, .ref 84), ("shifted", 294, .ref 91), ("move_point", 304, .ref 98), ("NOUGHT", 309, .ref 99), ("do_gc", 319, .ref 106), ("do_scfs", 330, .ref 113), ("do_md", 343, .ref 120), ("crossing", 360, .ref 127), ("do_isect", 378, .ref 134), ("do_alignpts", 393, .ref 141), ("do_utp", 403, .ref 148), ("do_flippt", 414, .ref 155), ("do_flip_row", 426, .ref 162), ("MillError", 457, .ref 179), ("HintFault", 473, .ref 192)]
noncomputable def o113 : Obj := gO .none [.int 1 0, .int 0 0, .ref 20, .int 6 0, .int 0 0, .ref 27, .int 13 0, .int 0 0, .ref 34, .int 18 0, .int 0 0, .ref 41, .int 21 0, .int 0 0, .ref 48, .int 23 0, .int 0 0, .ref 55, .int 25 0, .int 0 0, .ref 62, .int 27 0, .int 0 0, .ref 69, .int 29 0, .int 0 0, .ref 76, .int 34 0, .int 0 0, .ref 83, .int 37 0, .int 0 0, .ref 90, .int 46 0, .int 0 0, .ref 97, .int 50 0, .int 0 0, .ref 105, .int 57 0, .int 0 0, .ref 112, .int 64 0, .int 0 0, .ref 119, .int 74 0, .int 0 0, .ref 126, .int 84 0, .int 0 0, .ref 133, .int 94 0, .int 0 0, .ref 140, .int 102 0, .int 0 0, .ref 147, .int 109 0, .int 0 0, .ref 154, .int 114 0, .int 0 0, .ref 161, .int 121 0, .int 0 0, .ref 168, .int 125 0, .int 0 0, .ref 188]
noncomputable def o114 : Obj := cO (.type "type") "MillError" [.type "Exception"] [.ref 179, .type "Exception", .type "BaseException", .type "object"] 178 "MillError" [.ref 192] [some (.ref 163), none, some (.str "MillError" 429), some (.str "MillError" 437), some (.builtin "Exception.__new__"), some (.bool true)]
noncomputable def o115 : Obj := qO (.type "tuple") [.ref 179]
noncomputable def o116 (P : Params) : Obj := dO P (.type "dict") 4 [("__module__", 465, .str "outlinemill.errors" 427), ("__qualname__", 467, .str "HintFault" 466), ("__firstlineno__", 469, .int 125 468), ("__static_attributes__", 470, .ref 190)]
noncomputable def o117 : Obj := gO (.type "code") [.str "HintFault" 460, .str "HintFault" 461, .str "/claim/cut.py" 462, .int 125 0, .int 0 0, .int 0 0, .int 0 0, .int 0 0, .ref 186, .bool false, .int 181 0, .ref 187, .none, .none, .none, .none, .int 463 0, .int 125 0, .str "/claim/cut.py" 464]
noncomputable def o118 : Obj := nO (.type "frame") [some (.ref 188), some (.ref 3), some (.ref 185), none, some (.str "outlinemill.errors" 427), none, some (.ref 0)]
noncomputable def o119 (P : Params) : Obj := dO P (.type "dict") 2 [("__module__", 465, .str "outlinemill.errors" 427), ("__firstlineno__", 469, .int 125 468), ("__static_attributes__", 470, .ref 190), ("__doc__", 471, .none)]
noncomputable def o120 : Obj := cO (.type "type") "HintFault" [.ref 179] [.ref 192, .ref 179, .type "Exception", .type "BaseException", .type "object"] 191 "HintFault" [] [some (.ref 183), none, some (.str "HintFault" 458), some (.str "HintFault" 466), some (.builtin "Exception.__new__"), some (.bool true)]
noncomputable def o121 : Obj := gO (.type "super") [.ref 192, .ref 192, .ref 192]
noncomputable def o122 : Obj := gO (.type "builtin_function_or_method") [.builtin "object.__init_subclass__", .ref 192]
noncomputable def o123 (P : Params) : Obj := dO P (.type "dict") 37 [("__name__", 165, .str "outlinemill.hint_state" 527), ("__doc__", 166, .none), ("__package__", 167, .none), ("__loader__", 168, .builtin "__main__.__loader__#opaque"), ("__spec__", 169, .none), ("__annotations__", 170, .ref 6), ("__builtins__", 171, .ref 4), ("__file__", 173, .str "/claim/cut.py" 172), ("__cached__", 174, .none), ("_wall", 193, .ref 21), ("ONE14", 197, .int 16384 196), ("muldiv", 207, .ref 28), ("cut_div", 217, .ref 35), ("dot14", 226, .ref 42), ("apart", 236, .ref 49), ("measured", 245, .ref 56), ("dual_measured", 254, .ref 63), ("place_of", 263, .ref 70), ("touch", 272, .ref 77), ("step_of", 281, .ref 84), ("shifted", 294, .ref 91), ("move_point", 304, .ref 98), ("NOUGHT", 309, .ref 99), ("do_gc", 319, .ref 106), ("do_scfs", 330, .ref 113), ("do_md", 343, .ref 120), ("crossing", 360, .ref 127), ("do_isect", 378, .ref 134), ("do_alignpts", 393, .ref 141), ("do_utp", 403, .ref 148), ("do_flippt", 414, .ref 155), ("do_flip_row", 426, .ref 162), ("MillError", 457, .ref 179), ("HintFault", 473, .ref 192), ("Rounding", 515, .ref 218), ("named", 526, .ref 229), ("LEAST_DOT", 530, .int 1024 529)]
noncomputable def o124 : Obj := gO .none [.int 1 0, .int 0 0, .ref 20, .int 6 0, .int 0 0, .ref 27, .int 13 0, .int 0 0, .ref 34, .int 18 0, .int 0 0, .ref 41, .int 21 0, .int 0 0, .ref 48, .int 23 0, .int 0 0, .ref 55, .int 25 0, .int 0 0, .ref 62, .int 27 0, .int 0 0, .ref 69, .int 29 0, .int 0 0, .ref 76, .int 34 0, .int 0 0, .ref 83, .int 37 0, .int 0 0, .ref 90, .int 46 0, .int 0 0, .ref 97, .int 50 0, .int 0 0, .ref 105, .int 57 0, .int 0 0, .ref 112, .int 64 0, .int 0 0, .ref 119, .int 74 0, .int 0 0, .ref 126, .int 84 0, .int 0 0, .ref 133, .int 94 0, .int 0 0, .ref 140, .int 102 0, .int 0 0, .ref 147, .int 109 0, .int 0 0, .ref 154, .int 114 0, .int 0 0, .ref 161, .int 121 0, .int 0 0, .ref 168, .int 125 0, .int 0 0, .ref 188, .int 128 0, .int 0 0, .ref 200, .int 137 0, .int 0 0, .ref 228]
noncomputable def o125 (P : Params) : Obj := dO P (.type "dict") 6 [("__module__", 483, .str "outlinemill.hint_rounds" 474), ("__qualname__", 485, .str "Rounding" 484), ("__firstlineno__", 487, .int 128 486), ("__init__", 497, .ref 208), ("row", 504, .ref 215), ("__static_attributes__", 508, .ref 216)]
noncomputable def o126 : Obj := gO .none [.int 130 0, .int 4 0, .ref 207, .int 135 0, .int 4 0, .ref 214]
noncomputable def o127 : Obj := gO (.type "code") [.str "Rounding" 478, .str "Rounding" 479, .str "/claim/cut.py" 480, .int 128 0, .int 0 0, .int 0 0, .int 0 0, .int 0 0, .ref 198, .bool false, .int 181 0, .ref 199, .none, .none, .none, .none, .int 481 0, .int 128 0, .str "/claim/cut.py" 482]
noncomputable def o128 : Obj := nO (.type "frame") [some (.ref 200), some (.ref 3), some (.ref 197), none, some (.str "outlinemill.hint_rounds" 474), none, some (.ref 0)]
noncomputable def o129 : Obj := qO (.type "tuple") [.str "self" 491, .str "period" 492, .str "phase" 493, .str "threshold" 494]
noncomputable def o130 : Obj := fO (sM 30 0) "Rounding.__init__"
noncomputable def o131 : Obj := kO "__init__" "Rounding.__init__" 488 130 4 202 true 203 495
noncomputable def o132 : Obj := by refine hh (hO (sM 30 0) "Rounding.__init__" .none (.str "outlinemill.hint_rounds" 474) (.ref 207)) ?_ ?_; walk_at "h"
noncomputable def o133 : Obj := qO (.type "tuple") [.str "self" 501]
noncomputable def o134 : Obj := fO (sM 30 1) "Rounding.row"
noncomputable def o135 : Obj := kO "row" "Rounding.row" 498 135 1 209 true 210 502
noncomputable def o136 : Obj := by refine hh (hO (sM 30 1) "Rounding.row" .none (.str "outlinemill.hint_rounds" 474) (.ref 214)) ?_ ?_; walk_at "h"
noncomputable def o137 : Obj := qO (.type "tuple") [.str "period" 505, .str "phase" 506, .str "threshold" 507]
noncomputable def o138 (P : Params) : Obj := dO P (.type "dict") 4 [("__module__", 483, .str "outlinemill.hint_rounds" 474), ("__firstlineno__", 487, .int 128 486), ("__init__", 497, .ref 208), ("row", 504, .ref 215), ("__static_attributes__", 508, .ref 216), ("__dict__", 510, .ref 219), ("__weakref__", 512, .ref 220), ("__doc__", 513, .none)]
noncomputable def o139 : Obj := cO (.type "type") "Rounding" [.type "object"] [.ref 218, .type "object"] 217 "Rounding" [] [none, none, some (.str "Rounding" 476), some (.str "Rounding" 484), some (.builtin "object.__new__"), some (.bool true)]
noncomputable def o140 : Obj := gO (.type "getset_descriptor") [.str "__dict__" 509, .ref 218, .builtin "function.__dict__", .builtin "function.__dict__#set"]
noncomputable def o141 : Obj := gO (.type "getset_descriptor") [.str "__weakref__" 511, .ref 218, .builtin "ExceptionGroup.__weakref__", .none]
noncomputable def o142 : Obj := gO (.type "super") [.ref 218, .ref 218, .ref 218]
noncomputable def o143 : Obj := gO (.type "builtin_function_or_method") [.builtin "object.__init_subclass__", .ref 218]
noncomputable def o144 : Obj := qO (.type "tuple") [.str "word" 519, .str "rows" 520, .str "period" 521, .str "phase" 522, .str "threshold" 523]
noncomputable def o145 : Obj := fO (sA 31) "named"
noncomputable def o146 : Obj := kO "named" "named" 516 137 1 223 true 224 524
noncomputable def o147 : Obj := by refine hh (hO (sA 31) "named" .none (.str "outlinemill.hint_rounds" 474) (.ref 228)) ?_ ?_; walk_at "h"
noncomputable def o148 (P : Params) : Obj := dO P (.type "dict") 38 [("__name__", 165, .str "outlinemill.hint_work" 611), ("__doc__", 166, .none), ("__package__", 167, .none), ("__loader__", 168, .builtin "__main__.__loader__#opaque"), ("__spec__", 169, .none), ("__annotations__", 170, .ref 6), ("__builtins__", 171, .ref 4), ("__file__", 173, .str "/claim/cut.py" 172), ("__cached__", 174, .none), ("_wall", 193, .ref 21), ("ONE14", 197, .int 16384 196), ("muldiv", 207, .ref 28), ("cut_div", 217, .ref 35), ("dot14", 226, .ref 42), ("apart", 236, .ref 49), ("measured", 245, .ref 56), ("dual_measured", 254, .ref 63), ("place_of", 263, .ref 70), ("touch", 272, .ref 77), ("step_of", 281, .ref 84), ("shifted", 294, .ref 91), ("move_point", 304, .ref 98), ("NOUGHT", 309, .ref 99), ("do_gc", 319, .ref 106), ("do_scfs", 330, .ref 113), ("do_md", 343, .ref 120), ("crossing", 360, .ref 127), ("do_isect", 378, .ref 134), ("do_alignpts", 393, .ref 141), ("do_utp", 403, .ref 148), ("do_flippt", 414, .ref 155), ("do_flip_row", 426, .ref 162), ("MillError", 457, .ref 179), ("HintFault", 473, .ref 192), ("Rounding", 515, .ref 218), ("named", 526, .ref 229), ("LEAST_DOT", 530, .int 1024 529), ("GraphicsState", 610, .ref 274)]
noncomputable def o149 : Obj := gO .none [.int 1 0, .int 0 0, .ref 20, .int 6 0, .int 0 0, .ref 27, .int 13 0, .int 0 0, .ref 34, .int 18 0, .int 0 0, .ref 41, .int 21 0, .int 0 0, .ref 48, .int 23 0, .int 0 0, .ref 55, .int 25 0, .int 0 0, .ref 62, .int 27 0, .int 0 0, .ref 69, .int 29 0, .int 0 0, .ref 76, .int 34 0, .int 0 0, .ref 83, .int 37 0, .int 0 0, .ref 90, .int 46 0, .int 0 0, .ref 97, .int 50 0, .int 0 0, .ref 105, .int 57 0, .int 0 0, .ref 112, .int 64 0, .int 0 0, .ref 119, .int 74 0, .int 0 0, .ref 126, .int 84 0, .int 0 0, .ref 133, .int 94 0, .int 0 0, .ref 140, .int 102 0, .int 0 0, .ref 147, .int 109 0, .int 0 0, .ref 154, .int 114 0, .int 0 0, .ref 161, .int 121 0, .int 0 0, .ref 168, .int 125 0, .int 0 0, .ref 188, .int 128 0, .int 0 0, .ref 200, .int 137 0, .int 0 0, .ref 228, .int 145 0, .int 0 0, .ref 235]
noncomputable def o150 (P : Params) : Obj := dO P (.type "dict") 9 [("__module__", 538, .str "outlinemill.hint_state" 527), ("__qualname__", 540, .str "GraphicsState" 539), ("__firstlineno__", 542, .int 145 541), ("__init__", 549, .ref 243), ("free_dot", 557, .ref 250), ("projected", 566, .ref 257), ("dual_projected", 575, .ref 264), ("row", 584, .ref 271), ("__static_attributes__", 603, .ref 272)]
noncomputable def o151 : Obj := gO .none [.int 147 0, .int 4 0, .ref 242, .int 167 0, .int 4 0, .ref 249, .int 171 0, .int 4 0, .ref 256, .int 174 0, .int 4 0, .ref 263, .int 177 0, .int 4 0, .ref 270]
noncomputable def o152 : Obj := gO (.type "code") [.str "GraphicsState" 533, .str "GraphicsState" 534, .str "/claim/cut.py" 535, .int 145 0, .int 0 0, .int 0 0, .int 0 0, .int 0 0, .ref 233, .bool false, .int 181 0, .ref 234, .none, .none, .none, .none, .int 536 0, .int 145 0, .str "/claim/cut.py" 537]
noncomputable def o153 : Obj := nO (.type "frame") [some (.ref 235), some (.ref 3), some (.ref 232), none, some (.str "outlinemill.hint_state" 527), none, some (.ref 0)]
noncomputable def o154 : Obj := qO (.type "tuple") [.str "self" 546]
noncomputable def o155 : Obj := fO (sM 34 0) "GraphicsState.__init__"
noncomputable def o156 : Obj := kO "__init__" "GraphicsState.__init__" 543 147 1 237 true 238 547
noncomputable def o157 : Obj := by refine hh (hO (sM 34 0) "GraphicsState.__init__" .none (.str "outlinemill.hint_state" 527) (.ref 242)) ?_ ?_; walk_at "h"
noncomputable def o158 : Obj := qO (.type "tuple") [.str "self" 553, .str "found" 554]
noncomputable def o159 : Obj := fO (sM 34 1) "GraphicsState.free_dot"
noncomputable def o160 : Obj := kO "free_dot" "GraphicsState.free_dot" 550 167 1 244 true 245 555
noncomputable def o161 : Obj := by refine hh (hO (sM 34 1) "GraphicsState.free_dot" .none (.str "outlinemill.hint_state" 527) (.ref 249)) ?_ ?_; walk_at "h"
noncomputable def o162 : Obj := qO (.type "tuple") [.str "self" 561, .str "dx" 562, .str "dy" 563]
noncomputable def o163 : Obj := fO (sM 34 2) "GraphicsState.projected"
noncomputable def o164 : Obj := kO "projected" "GraphicsState.projected" 558 171 3 251 true 252 564
noncomputable def o165 : Obj := by refine hh (hO (sM 34 2) "GraphicsState.projected" .none (.str "outlinemill.hint_state" 527) (.ref 256)) ?_ ?_; walk_at "h"
noncomputable def o166 : Obj := qO (.type "tuple") [.str "self" 570, .str "dx" 571, .str "dy" 572]
noncomputable def o167 : Obj := fO (sM 34 3) "GraphicsState.dual_projected"
noncomputable def o168 : Obj := kO "dual_projected" "GraphicsState.dual_projected" 567 174 3 258 true 259 573
noncomputable def o169 : Obj := by refine hh (hO (sM 34 3) "GraphicsState.dual_projected" .none (.str "outlinemill.hint_state" 527) (.ref 263)) ?_ ?_; walk_at "h"
noncomputable def o170 : Obj := qO (.type "tuple") [.str "self" 579, .str "points" 580, .str "widths" 581]
noncomputable def o171 : Obj := fO (sM 34 4) "GraphicsState.row"
noncomputable def o172 : Obj := kO "row" "GraphicsState.row" 576 177 1 265 true 266 582
noncomputable def o173 : Obj := by refine hh (hO (sM 34 4) "GraphicsState.row" .none (.str "outlinemill.hint_state" 527) (.ref 270)) ?_ ?_; walk_at "h"
noncomputable def o174 : Obj := qO (.type "tuple") [.str "auto_flip" 585, .str "cut_in" 586, .str "delta_base" 587, .str "delta_shift" 588, .str "dual" 589, .str "freedom" 590, .str "loop" 591, .str "minimum" 592, .str "projection" 593, .str "rounding" 594, .str "rp0" 595, .str "rp1" 596, .str "rp2" 597, .str "single_cut_in" 598, .str "single_width" 599, .str "zp0" 600, .str "zp1" 601, .str "zp2" 602]
noncomputable def o175 (P : Params) : Obj := dO P (.type "dict") 4 [("__module__", 538, .str "outlinemill.hint_state" 527), ("__firstlineno__", 542, .int 145 541), ("__init__", 549, .ref 243), ("free_dot", 557, .ref 250), ("projected", 566, .ref 257), ("dual_projected", 575, .ref 264), ("row", 584, .ref 271), ("__static_attributes__", 603, .ref 272), ("__dict__", 605, .ref 275), ("__weakref__", 607, .ref 276), ("__doc__", 608, .none)]
noncomputable def o176 : Obj := cO (.type "type") "GraphicsState" [.type "object"] [.ref 274, .type "object"] 273 "GraphicsState" [] [none, none, some (.str "GraphicsState" 531), some (.str "GraphicsState" 539), some (.builtin "object.__new__"), some (.bool true)]
noncomputable def o177 : Obj := gO (.type "getset_descriptor") [.str "__dict__" 604, .ref 274, .builtin "function.__dict__", .builtin "function.__dict__#set"]
noncomputable def o178 : Obj := gO (.type "getset_descriptor") [.str "__weakref__" 606, .ref 274, .builtin "ExceptionGroup.__weakref__", .none]
noncomputable def o179 : Obj := gO (.type "super") [.ref 274, .ref 274, .ref 274]
noncomputable def o180 : Obj := gO (.type "builtin_function_or_method") [.builtin "object.__init_subclass__", .ref 274]
noncomputable def o181 (P : Params) : Obj := dO P (.type "dict") 39 [("__name__", 165, .str "outlinemill.hint_work" 611), ("__doc__", 166, .none), ("__package__", 167, .none), ("__loader__", 168, .builtin "__main__.__loader__#opaque"), ("__spec__", 169, .none), ("__annotations__", 170, .ref 6), ("__builtins__", 171, .ref 4), ("__file__", 173, .str "/claim/cut.py" 172), ("__cached__", 174, .none), ("_wall", 193, .ref 21), ("ONE14", 197, .int 16384 196), ("muldiv", 207, .ref 28), ("cut_div", 217, .ref 35), ("dot14", 226, .ref 42), ("apart", 236, .ref 49), ("measured", 245, .ref 56), ("dual_measured", 254, .ref 63), ("place_of", 263, .ref 70), ("touch", 272, .ref 77), ("step_of", 281, .ref 84), ("shifted", 294, .ref 91), ("move_point", 304, .ref 98), ("NOUGHT", 309, .ref 99), ("do_gc", 319, .ref 106), ("do_scfs", 330, .ref 113), ("do_md", 343, .ref 120), ("crossing", 360, .ref 127), ("do_isect", 378, .ref 134), ("do_alignpts", 393, .ref 141), ("do_utp", 403, .ref 148), ("do_flippt", 414, .ref 155), ("do_flip_row", 426, .ref 162), ("MillError", 457, .ref 179), ("HintFault", 473, .ref 192), ("Rounding", 515, .ref 218), ("named", 526, .ref 229), ("LEAST_DOT", 530, .int 1024 529), ("GraphicsState", 610, .ref 274), ("HintStack", 679, .ref 330)]
noncomputable def o182 : Obj := gO .none [.int 1 0, .int 0 0, .ref 20, .int 6 0, .int 0 0, .ref 27, .int 13 0, .int 0 0, .ref 34, .int 18 0, .int 0 0, .ref 41, .int 21 0, .int 0 0, .ref 48, .int 23 0, .int 0 0, .ref 55, .int 25 0, .int 0 0, .ref 62, .int 27 0, .int 0 0, .ref 69, .int 29 0, .int 0 0, .ref 76, .int 34 0, .int 0 0, .ref 83, .int 37 0, .int 0 0, .ref 90, .int 46 0, .int 0 0, .ref 97, .int 50 0, .int 0 0, .ref 105, .int 57 0, .int 0 0, .ref 112, .int 64 0, .int 0 0, .ref 119, .int 74 0, .int 0 0, .ref 126, .int 84 0, .int 0 0, .ref 133, .int 94 0, .int 0 0, .ref 140, .int 102 0, .int 0 0, .ref 147, .int 109 0, .int 0 0, .ref 154, .int 114 0, .int 0 0, .ref 161, .int 121 0, .int 0 0, .ref 168, .int 125 0, .int 0 0, .ref 188, .int 128 0, .int 0 0, .ref 200, .int 137 0, .int 0 0, .ref 228, .int 145 0, .int 0 0, .ref 235, .int 182 0, .int 0 0, .ref 284]
noncomputable def o183 (P : Params) : Obj := dO P (.type "dict") 10 [("__module__", 620, .str "outlinemill.hint_work" 611), ("__qualname__", 622, .str "HintStack" 621), ("__firstlineno__", 624, .int 182 623), ("__init__", 632, .ref 292), ("push", 640, .ref 299), ("pop", 647, .ref 306), ("peek", 655, .ref 313), ("depth", 662, .ref 320), ("clear", 669, .ref 327), ("__static_attributes__", 672, .ref 328)]
noncomputable def o184 : Obj := gO .none [.int 184 0, .int 4 0, .ref 291, .int 188 0, .int 4 0, .ref 298, .int 193 0, .int 4 0, .ref 305, .int 198 0, .int 4 0, .ref 312, .int 201 0, .int 4 0, .ref 319, .int 204 0, .int 4 0, .ref 326]
noncomputable def o185 : Obj := gO (.type "code") [.str "HintStack" 615, .str "HintStack" 616, .str "/claim/cut.py" 617, .int 182 0, .int 0 0, .int 0 0, .int 0 0, .int 0 0, .ref 282, .bool false, .int 181 0, .ref 283, .none, .none, .none, .none, .int 618 0, .int 182 0, .str "/claim/cut.py" 619]
noncomputable def o186 : Obj := nO (.type "frame") [some (.ref 284), some (.ref 3), some (.ref 281), none, some (.str "outlinemill.hint_work" 611), none, some (.ref 0)]
noncomputable def o187 : Obj := qO (.type "tuple") [.str "self" 628, .str "most" 629]
noncomputable def o188 : Obj := fO (sM 36 0) "HintStack.__init__"
noncomputable def o189 : Obj := kO "__init__" "HintStack.__init__" 625 184 2 286 true 287 630
noncomputable def o190 : Obj := by refine hh (hO (sM 36 0) "HintStack.__init__" .none (.str "outlinemill.hint_work" 611) (.ref 291)) ?_ ?_; walk_at "h"
noncomputable def o191 : Obj := qO (.type "tuple") [.str "self" 636, .str "number" 637]
noncomputable def o192 : Obj := fO (sM 36 1) "HintStack.push"
noncomputable def o193 : Obj := kO "push" "HintStack.push" 633 188 2 293 true 294 638
noncomputable def o194 : Obj := by refine hh (hO (sM 36 1) "HintStack.push" .none (.str "outlinemill.hint_work" 611) (.ref 298)) ?_ ?_; walk_at "h"
noncomputable def o195 : Obj := qO (.type "tuple") [.str "self" 644]
noncomputable def o196 : Obj := fO (sM 36 2) "HintStack.pop"
noncomputable def o197 : Obj := kO "pop" "HintStack.pop" 641 193 1 300 true 301 645
noncomputable def o198 : Obj := by refine hh (hO (sM 36 2) "HintStack.pop" .none (.str "outlinemill.hint_work" 611) (.ref 305)) ?_ ?_; walk_at "h"
noncomputable def o199 : Obj := qO (.type "tuple") [.str "self" 651, .str "many" 652]
noncomputable def o200 : Obj := fO (sM 36 3) "HintStack.peek"
noncomputable def o201 : Obj := kO "peek" "HintStack.peek" 648 198 2 307 true 308 653
noncomputable def o202 : Obj := by refine hh (hO (sM 36 3) "HintStack.peek" .none (.str "outlinemill.hint_work" 611) (.ref 312)) ?_ ?_; walk_at "h"
noncomputable def o203 : Obj := qO (.type "tuple") [.str "self" 659]
noncomputable def o204 : Obj := fO (sM 36 4) "HintStack.depth"
noncomputable def o205 : Obj := kO "depth" "HintStack.depth" 656 201 1 314 true 315 660
noncomputable def o206 : Obj := by refine hh (hO (sM 36 4) "HintStack.depth" .none (.str "outlinemill.hint_work" 611) (.ref 319)) ?_ ?_; walk_at "h"
noncomputable def o207 : Obj := qO (.type "tuple") [.str "self" 666]
noncomputable def o208 : Obj := fO (sM 36 5) "HintStack.clear"
noncomputable def o209 : Obj := kO "clear" "HintStack.clear" 663 204 1 321 true 322 667
noncomputable def o210 : Obj := by refine hh (hO (sM 36 5) "HintStack.clear" .none (.str "outlinemill.hint_work" 611) (.ref 326)) ?_ ?_; walk_at "h"
noncomputable def o211 : Obj := qO (.type "tuple") [.str "most" 670, .str "numbers" 671]
noncomputable def o212 (P : Params) : Obj := dO P (.type "dict") 4 [("__module__", 620, .str "outlinemill.hint_work" 611), ("__firstlineno__", 624, .int 182 623), ("__init__", 632, .ref 292), ("push", 640, .ref 299), ("pop", 647, .ref 306), ("peek", 655, .ref 313), ("depth", 662, .ref 320), ("clear", 669, .ref 327), ("__static_attributes__", 672, .ref 328), ("__dict__", 674, .ref 331), ("__weakref__", 676, .ref 332), ("__doc__", 677, .none)]
noncomputable def o213 : Obj := cO (.type "type") "HintStack" [.type "object"] [.ref 330, .type "object"] 329 "HintStack" [] [none, none, some (.str "HintStack" 613), some (.str "HintStack" 621), some (.builtin "object.__new__"), some (.bool true)]
noncomputable def o214 : Obj := gO (.type "getset_descriptor") [.str "__dict__" 673, .ref 330, .builtin "function.__dict__", .builtin "function.__dict__#set"]
noncomputable def o215 : Obj := gO (.type "getset_descriptor") [.str "__weakref__" 675, .ref 330, .builtin "ExceptionGroup.__weakref__", .none]
noncomputable def o216 : Obj := gO (.type "super") [.ref 330, .ref 330, .ref 330]
noncomputable def o217 : Obj := gO (.type "builtin_function_or_method") [.builtin "object.__init_subclass__", .ref 330]
noncomputable def o218 (P : Params) : Obj := dO P (.type "dict") 40 [("__name__", 165, .str "outlinemill.hint_zones" 759), ("__doc__", 166, .none), ("__package__", 167, .none), ("__loader__", 168, .builtin "__main__.__loader__#opaque"), ("__spec__", 169, .none), ("__annotations__", 170, .ref 6), ("__builtins__", 171, .ref 4), ("__file__", 173, .str "/claim/cut.py" 172), ("__cached__", 174, .none), ("_wall", 193, .ref 21), ("ONE14", 197, .int 16384 196), ("muldiv", 207, .ref 28), ("cut_div", 217, .ref 35), ("dot14", 226, .ref 42), ("apart", 236, .ref 49), ("measured", 245, .ref 56), ("dual_measured", 254, .ref 63), ("place_of", 263, .ref 70), ("touch", 272, .ref 77), ("step_of", 281, .ref 84), ("shifted", 294, .ref 91), ("move_point", 304, .ref 98), ("NOUGHT", 309, .ref 99), ("do_gc", 319, .ref 106), ("do_scfs", 330, .ref 113), ("do_md", 343, .ref 120), ("crossing", 360, .ref 127), ("do_isect", 378, .ref 134), ("do_alignpts", 393, .ref 141), ("do_utp", 403, .ref 148), ("do_flippt", 414, .ref 155), ("do_flip_row", 426, .ref 162), ("MillError", 457, .ref 179), ("HintFault", 473, .ref 192), ("Rounding", 515, .ref 218), ("named", 526, .ref 229), ("LEAST_DOT", 530, .int 1024 529), ("GraphicsState", 610, .ref 274), ("HintStack", 679, .ref 330), ("HintWork", 758, .ref 381)]
noncomputable def o219 : Obj := gO .none [.int 1 0, .int 0 0, .ref 20, .int 6 0, .int 0 0, .ref 27, .int 13 0, .int 0 0, .ref 34, .int 18 0, .int 0 0, .ref 41, .int 21 0, .int 0 0, .ref 48, .int 23 0, .int 0 0, .ref 55, .int 25 0, .int 0 0, .ref 62, .int 27 0, .int 0 0, .ref 69, .int 29 0, .int 0 0, .ref 76, .int 34 0, .int 0 0, .ref 83, .int 37 0, .int 0 0, .ref 90, .int 46 0, .int 0 0, .ref 97, .int 50 0, .int 0 0, .ref 105, .int 57 0, .int 0 0, .ref 112, .int 64 0, .int 0 0, .ref 119, .int 74 0, .int 0 0, .ref 126, .int 84 0, .int 0 0, .ref 133, .int 94 0, .int 0 0, .ref 140, .int 102 0, .int 0 0, .ref 147, .int 109 0, .int 0 0, .ref 154, .int 114 0, .int 0 0, .ref 161, .int 121 0, .int 0 0, .ref 168, .int 125 0, .int 0 0, .ref 188, .int 128 0, .int 0 0, .ref 200, .int 137 0, .int 0 0, .ref 228, .int 145 0, .int 0 0, .ref 235, .int 182 0, .int 0 0, .ref 284, .int 206 0, .int 0 0, .ref 340]
noncomputable def o220 (P : Params) : Obj := dO P (.type "dict") 9 [("__module__", 687, .str "outlinemill.hint_work" 611), ("__qualname__", 689, .str "HintWork" 688), ("__firstlineno__", 691, .int 206 690), ("__init__", 709, .ref 350), ("zone", 717, .ref 357), ("cvt_value", 725, .ref 364), ("put_cvt", 734, .ref 371), ("next_loop", 742, .ref 378), ("__static_attributes__", 751, .ref 379)]
noncomputable def o221 : Obj := gO .none [.int 208 0, .int 4 0, .ref 349, .int 218 0, .int 4 0, .ref 356, .int 223 0, .int 4 0, .ref 363, .int 226 0, .int 4 0, .ref 370, .int 229 0, .int 4 0, .ref 377]
noncomputable def o222 : Obj := gO (.type "code") [.str "HintWork" 682, .str "HintWork" 683, .str "/claim/cut.py" 684, .int 206 0, .int 0 0, .int 0 0, .int 0 0, .int 0 0, .ref 338, .bool false, .int 181 0, .ref 339, .none, .none, .none, .none, .int 685 0, .int 206 0, .str "/claim/cut.py" 686]
noncomputable def o223 : Obj := nO (.type "frame") [some (.ref 340), some (.ref 3), some (.ref 337), none, some (.str "outlinemill.hint_work" 611), none, some (.ref 0)]
noncomputable def o224 : Obj := qO (.type "tuple") [.int 1 695, .int 1 696]
noncomputable def o225 : Obj := qO (.type "tuple") [.int 64 692, .int 12 693, .int 768 694, .ref 342]
noncomputable def o226 : Obj := qO (.type "tuple") [.str "self" 700, .str "zones" 701, .str "cvt" 702, .str "stack_most" 703, .str "ppem" 704, .str "point_size" 705, .str "scale" 706]
noncomputable def o227 : Obj := fO (sM 37 0) "HintWork.__init__"
noncomputable def o228 : Obj := kO "__init__" "HintWork.__init__" 697 208 7 344 true 345 707
noncomputable def o229 : Obj := by refine hh (hO (sM 37 0) "HintWork.__init__" (.ref 343) (.str "outlinemill.hint_work" 611) (.ref 349)) ?_ ?_; walk_at "h"
noncomputable def o230 : Obj := qO (.type "tuple") [.str "self" 713, .str "number" 714]
noncomputable def o231 : Obj := fO (sM 37 1) "HintWork.zone"
noncomputable def o232 : Obj := kO "zone" "HintWork.zone" 710 218 2 351 true 352 715
noncomputable def o233 : Obj := by refine hh (hO (sM 37 1) "HintWork.zone" .none (.str "outlinemill.hint_work" 611) (.ref 356)) ?_ ?_; walk_at "h"
noncomputable def o234 : Obj := qO (.type "tuple") [.str "self" 721, .str "i" 722]
noncomputable def o235 : Obj := fO (sM 37 2) "HintWork.cvt_value"
noncomputable def o236 : Obj := kO "cvt_value" "HintWork.cvt_value" 718 223 2 358 true 359 723
noncomputable def o237 : Obj := by refine hh (hO (sM 37 2) "HintWork.cvt_value" .none (.str "outlinemill.hint_work" 611) (.ref 363)) ?_ ?_; walk_at "h"
noncomputable def o238 : Obj := qO (.type "tuple") [.str "self" 729, .str "i" 730, .str "value" 731]
noncomputable def o239 : Obj := fO (sM 37 3) "HintWork.put_cvt"
noncomputable def o240 : Obj := kO "put_cvt" "HintWork.put_cvt" 726 226 3 365 true 366 732
noncomputable def o241 : Obj := by refine hh (hO (sM 37 3) "HintWork.put_cvt" .none (.str "outlinemill.hint_work" 611) (.ref 370)) ?_ ?_; walk_at "h"
noncomputable def o242 : Obj := qO (.type "tuple") [.str "self" 738, .str "found" 739]
noncomputable def o243 : Obj := fO (sM 37 4) "HintWork.next_loop"
noncomputable def o244 : Obj := kO "next_loop" "HintWork.next_loop" 735 229 1 372 true 373 740
noncomputable def o245 : Obj := by refine hh (hO (sM 37 4) "HintWork.next_loop" .none (.str "outlinemill.hint_work" 611) (.ref 377)) ?_ ?_; walk_at "h"
noncomputable def o246 : Obj := qO (.type "tuple") [.str "cvt" 743, .str "point_size" 744, .str "ppem" 745, .str "scale" 746, .str "stack" 747, .str "state" 748, .str "storage" 749, .str "zones" 750]
noncomputable def o247 (P : Params) : Obj := dO P (.type "dict") 4 [("__module__", 687, .str "outlinemill.hint_work" 611), ("__firstlineno__", 691, .int 206 690), ("__init__", 709, .ref 350), ("zone", 717, .ref 357), ("cvt_value", 725, .ref 364), ("put_cvt", 734, .ref 371), ("next_loop", 742, .ref 378), ("__static_attributes__", 751, .ref 379), ("__dict__", 753, .ref 382), ("__weakref__", 755, .ref 383), ("__doc__", 756, .none)]
noncomputable def o248 : Obj := cO (.type "type") "HintWork" [.type "object"] [.ref 381, .type "object"] 380 "HintWork" [] [none, none, some (.str "HintWork" 680), some (.str "HintWork" 688), some (.builtin "object.__new__"), some (.bool true)]
noncomputable def o249 : Obj := gO (.type "getset_descriptor") [.str "__dict__" 752, .ref 381, .builtin "function.__dict__", .builtin "function.__dict__#set"]
noncomputable def o250 : Obj := gO (.type "getset_descriptor") [.str "__weakref__" 754, .ref 381, .builtin "ExceptionGroup.__weakref__", .none]
noncomputable def o251 : Obj := gO (.type "super") [.ref 381, .ref 381, .ref 381]
noncomputable def o252 : Obj := gO (.type "builtin_function_or_method") [.builtin "object.__init_subclass__", .ref 381]
noncomputable def o253 (P : Params) : Obj := dO P (.type "dict") 43 [("__name__", 165, .str "law_on0244_01" 816), ("__doc__", 166, .none), ("__package__", 167, .none), ("__loader__", 168, .builtin "__main__.__loader__#opaque"), ("__spec__", 169, .none), ("__annotations__", 170, .ref 6), ("__builtins__", 171, .ref 4), ("__file__", 173, .str "/claim/cut.py" 172), ("__cached__", 174, .none), ("_wall", 193, .ref 21), ("ONE14", 197, .int 16384 196), ("muldiv", 207, .ref 28), ("cut_div", 217, .ref 35), ("dot14", 226, .ref 42), ("apart", 236, .ref 49), ("measured", 245, .ref 56), ("dual_measured", 254, .ref 63), ("place_of", 263, .ref 70), ("touch", 272, .ref 77), ("step_of", 281, .ref 84), ("shifted", 294, .ref 91), ("move_point", 304, .ref 98), ("NOUGHT", 309, .ref 99), ("do_gc", 319, .ref 106), ("do_scfs", 330, .ref 113), ("do_md", 343, .ref 120), ("crossing", 360, .ref 127), ("do_isect", 378, .ref 134), ("do_alignpts", 393, .ref 141), ("do_utp", 403, .ref 148), ("do_flippt", 414, .ref 155), ("do_flip_row", 426, .ref 162), ("MillError", 457, .ref 179), ("HintFault", 473, .ref 192), ("Rounding", 515, .ref 218), ("named", 526, .ref 229), ("LEAST_DOT", 530, .int 1024 529), ("GraphicsState", 610, .ref 274), ("HintStack", 679, .ref 330), ("HintWork", 758, .ref 381), ("Zone", 815, .ref 423), ("_law_pool", 826, .ref 434), ("_law_take", 835, .ref 441)]
noncomputable def o254 : Obj := gO .none [.int 1 0, .int 0 0, .ref 20, .int 6 0, .int 0 0, .ref 27, .int 13 0, .int 0 0, .ref 34, .int 18 0, .int 0 0, .ref 41, .int 21 0, .int 0 0, .ref 48, .int 23 0, .int 0 0, .ref 55, .int 25 0, .int 0 0, .ref 62, .int 27 0, .int 0 0, .ref 69, .int 29 0, .int 0 0, .ref 76, .int 34 0, .int 0 0, .ref 83, .int 37 0, .int 0 0, .ref 90, .int 46 0, .int 0 0, .ref 97, .int 50 0, .int 0 0, .ref 105, .int 57 0, .int 0 0, .ref 112, .int 64 0, .int 0 0, .ref 119, .int 74 0, .int 0 0, .ref 126, .int 84 0, .int 0 0, .ref 133, .int 94 0, .int 0 0, .ref 140, .int 102 0, .int 0 0, .ref 147, .int 109 0, .int 0 0, .ref 154, .int 114 0, .int 0 0, .ref 161, .int 121 0, .int 0 0, .ref 168, .int 125 0, .int 0 0, .ref 188, .int 128 0, .int 0 0, .ref 200, .int 137 0, .int 0 0, .ref 228, .int 145 0, .int 0 0, .ref 235, .int 182 0, .int 0 0, .ref 284, .int 206 0, .int 0 0, .ref 340, .int 234 0, .int 0 0, .ref 391, .int 254 0, .int 0 0, .ref 433, .int 260 0, .int 0 0, .ref 440]
noncomputable def o255 (P : Params) : Obj := dO P (.type "dict") 8 [("__module__", 768, .str "outlinemill.hint_zones" 759), ("__qualname__", 770, .str "Zone" 769), ("__firstlineno__", 772, .int 234 771), ("__init__", 778, .ref 399), ("count", 785, .ref 406), ("check", 793, .ref 413), ("put", 802, .ref 420), ("__static_attributes__", 808, .ref 421)]
noncomputable def o256 : Obj := gO .none [.int 236 0, .int 4 0, .ref 398, .int 243 0, .int 4 0, .ref 405, .int 246 0, .int 4 0, .ref 412, .int 251 0, .int 4 0, .ref 419]
noncomputable def o257 : Obj := gO (.type "code") [.str "Zone" 763, .str "Zone" 764, .str "/claim/cut.py" 765, .int 234 0, .int 0 0, .int 0 0, .int 0 0, .int 0 0, .ref 389, .bool false, .int 181 0, .ref 390, .none, .none, .none, .none, .int 766 0, .int 234 0, .str "/claim/cut.py" 767]
noncomputable def o258 : Obj := nO (.type "frame") [some (.ref 391), some (.ref 3), some (.ref 388), none, some (.str "outlinemill.hint_zones" 759), none, some (.ref 0)]
noncomputable def o259 : Obj := qO (.type "tuple") [.ref 393, .none]
noncomputable def o260 : Obj := fO (sM 39 0) "Zone.__init__"
noncomputable def o261 : Obj := gO (.type "code") [.str "__init__" 773, .str "Zone.__init__" 774, .str "/claim/cut.py" 775, .int 236 0, .int 4 0, .int 0 0, .int 0 0, .int 3 0, .ref 395, .bool true, .int 181 0, .ref 396, .none, .none, .none, .ref 397, .int 776 0, .int 236 0, .str "/claim/cut.py" 777]
noncomputable def o262 : Obj := by refine hh (hO (sM 39 0) "Zone.__init__" (.ref 394) (.str "outlinemill.hint_zones" 759) (.ref 398)) ?_ ?_; walk_at "h"
noncomputable def o263 : Obj := qO (.type "tuple") [.str "self" 782]
noncomputable def o264 : Obj := fO (sM 39 1) "Zone.count"
noncomputable def o265 : Obj := kO "count" "Zone.count" 779 243 1 400 true 401 783
noncomputable def o266 : Obj := by refine hh (hO (sM 39 1) "Zone.count" .none (.str "outlinemill.hint_zones" 759) (.ref 405)) ?_ ?_; walk_at "h"
noncomputable def o267 : Obj := qO (.type "tuple") [.str "self" 789, .str "i" 790]
noncomputable def o268 : Obj := fO (sM 39 2) "Zone.check"
noncomputable def o269 : Obj := kO "check" "Zone.check" 786 246 2 407 true 408 791
noncomputable def o270 : Obj := by refine hh (hO (sM 39 2) "Zone.check" .none (.str "outlinemill.hint_zones" 759) (.ref 412)) ?_ ?_; walk_at "h"
noncomputable def o271 : Obj := qO (.type "tuple") [.str "self" 797, .str "i" 798, .str "place" 799]
noncomputable def o272 : Obj := fO (sM 39 3) "Zone.put"
noncomputable def o273 : Obj := kO "put" "Zone.put" 794 251 3 414 true 415 800
noncomputable def o274 : Obj := by refine hh (hO (sM 39 3) "Zone.put" .none (.str "outlinemill.hint_zones" 759) (.ref 419)) ?_ ?_; walk_at "h"
noncomputable def o275 : Obj := qO (.type "tuple") [.str "current" 803, .str "ends" 804, .str "on_curve" 805, .str "original" 806, .str "touched" 807]
noncomputable def o276 (P : Params) : Obj := dO P (.type "dict") 4 [("__module__", 768, .str "outlinemill.hint_zones" 759), ("__firstlineno__", 772, .int 234 771), ("__init__", 778, .ref 399), ("count", 785, .ref 406), ("check", 793, .ref 413), ("put", 802, .ref 420), ("__static_attributes__", 808, .ref 421), ("__dict__", 810, .ref 424), ("__weakref__", 812, .ref 425), ("__doc__", 813, .none)]
noncomputable def o277 : Obj := cO (.type "type") "Zone" [.type "object"] [.ref 423, .type "object"] 422 "Zone" [] [none, none, some (.str "Zone" 761), some (.str "Zone" 769), some (.builtin "object.__new__"), some (.bool true)]
noncomputable def o278 : Obj := gO (.type "getset_descriptor") [.str "__dict__" 809, .ref 423, .builtin "function.__dict__", .builtin "function.__dict__#set"]
noncomputable def o279 : Obj := gO (.type "getset_descriptor") [.str "__weakref__" 811, .ref 423, .builtin "ExceptionGroup.__weakref__", .none]
noncomputable def o280 : Obj := gO (.type "super") [.ref 423, .ref 423, .ref 423]
noncomputable def o281 : Obj := gO (.type "builtin_function_or_method") [.builtin "object.__init_subclass__", .ref 423]
noncomputable def o282 : Obj := qO (.type "tuple") [.str "script" 821, .str "cell" 822, .str "big" 823]
noncomputable def o283 : Obj := fO (sA 41) "_law_pool"
noncomputable def o284 : Obj := kO "_law_pool" "_law_pool" 818 254 1 428 true 429 824
noncomputable def o285 : Obj := by refine hh (hO (sA 41) "_law_pool" .none (.str "law_on0244_01" 816) (.ref 433)) ?_ ?_; walk_at "h"
noncomputable def o286 : Obj := qO (.type "tuple") [.str "source" 830, .str "top" 831, .str "picked" 832]
noncomputable def o287 : Obj := fO (sA 42) "_law_take"
noncomputable def o288 : Obj := kO "_law_take" "_law_take" 827 260 2 435 true 436 833
noncomputable def o289 : Obj := by refine hh (hO (sA 42) "_law_take" .none (.str "law_on0244_01" 816) (.ref 440)) ?_ ?_; walk_at "h"
noncomputable def o290 (P : Params) : Obj := dO P (.type "dict") 55 [("__name__", 165, .str "law_on0244_01" 816), ("__doc__", 166, .none), ("__package__", 167, .none), ("__loader__", 168, .builtin "__main__.__loader__#opaque"), ("__spec__", 169, .none), ("__annotations__", 170, .ref 6), ("__builtins__", 171, .ref 4), ("__file__", 173, .str "/claim/cut.py" 172), ("__cached__", 174, .none), ("_wall", 193, .ref 21), ("ONE14", 197, .int 16384 196), ("muldiv", 207, .ref 28), ("cut_div", 217, .ref 35), ("dot14", 226, .ref 42), ("apart", 236, .ref 49), ("measured", 245, .ref 56), ("dual_measured", 254, .ref 63), ("place_of", 263, .ref 70), ("touch", 272, .ref 77), ("step_of", 281, .ref 84), ("shifted", 294, .ref 91), ("move_point", 304, .ref 98), ("NOUGHT", 309, .ref 99), ("do_gc", 319, .ref 106), ("do_scfs", 330, .ref 113), ("do_md", 343, .ref 120), ("crossing", 360, .ref 127), ("do_isect", 378, .ref 134), ("do_alignpts", 393, .ref 141), ("do_utp", 403, .ref 148), ("do_flippt", 414, .ref 155), ("do_flip_row", 426, .ref 162), ("MillError", 457, .ref 179), ("HintFault", 473, .ref 192), ("Rounding", 515, .ref 218), ("named", 526, .ref 229), ("LEAST_DOT", 530, .int 1024 529), ("GraphicsState", 610, .ref 274), ("HintStack", 679, .ref 330), ("HintWork", 758, .ref 381), ("Zone", 815, .ref 423), ("_law_pool", 826, .ref 434), ("_law_take", 835, .ref 441), ("_law_one", 843, .ref 448), ("_law_spot", 850, .ref 455), ("_law_begun", 856, .ref 460), ("_law_told", 867, .ref 467), ("_law_half", 876, .ref 474), ("_law_cut", 884, .ref 481), ("_law_moved", 897, .ref 488), ("_law_crossing", 912, .ref 495), ("_law_isect", 918, .ref 500), ("_law_align", 932, .ref 507), ("_law_utp", 945, .ref 514), ("_law_flips", 951, .ref 519)]
noncomputable def o291 : Obj := gO .none [.int 1 0, .int 0 0, .ref 20, .int 6 0, .int 0 0, .ref 27, .int 13 0, .int 0 0, .ref 34, .int 18 0, .int 0 0, .ref 41, .int 21 0, .int 0 0, .ref 48, .int 23 0, .int 0 0, .ref 55, .int 25 0, .int 0 0, .ref 62, .int 27 0, .int 0 0, .ref 69, .int 29 0, .int 0 0, .ref 76, .int 34 0, .int 0 0, .ref 83, .int 37 0, .int 0 0, .ref 90, .int 46 0, .int 0 0, .ref 97, .int 50 0, .int 0 0, .ref 105, .int 57 0, .int 0 0, .ref 112, .int 64 0, .int 0 0, .ref 119, .int 74 0, .int 0 0, .ref 126, .int 84 0, .int 0 0, .ref 133, .int 94 0, .int 0 0, .ref 140, .int 102 0, .int 0 0, .ref 147, .int 109 0, .int 0 0, .ref 154, .int 114 0, .int 0 0, .ref 161, .int 121 0, .int 0 0, .ref 168, .int 125 0, .int 0 0, .ref 188, .int 128 0, .int 0 0, .ref 200, .int 137 0, .int 0 0, .ref 228, .int 145 0, .int 0 0, .ref 235, .int 182 0, .int 0 0, .ref 284, .int 206 0, .int 0 0, .ref 340, .int 234 0, .int 0 0, .ref 391, .int 254 0, .int 0 0, .ref 433, .int 260 0, .int 0 0, .ref 440, .int 267 0, .int 0 0, .ref 447, .int 269 0, .int 0 0, .ref 454, .int 271 0, .int 0 0, .ref 459, .int 284 0, .int 0 0, .ref 466, .int 289 0, .int 0 0, .ref 473, .int 294 0, .int 0 0, .ref 480, .int 296 0, .int 0 0, .ref 487, .int 300 0, .int 0 0, .ref 494, .int 307 0, .int 0 0, .ref 499, .int 315 0, .int 0 0, .ref 506, .int 323 0, .int 0 0, .ref 513, .int 330 0, .int 0 0, .ref 518]
noncomputable def o292 : Obj := qO (.type "tuple") [.str "source" 839, .str "things" 840]
noncomputable def o293 : Obj := fO (sA 43) "_law_one"
noncomputable def o294 : Obj := kO "_law_one" "_law_one" 836 267 2 442 true 443 841
noncomputable def o295 : Obj := by refine hh (hO (sA 43) "_law_one" .none (.str "law_on0244_01" 816) (.ref 447)) ?_ ?_; walk_at "h"
noncomputable def o296 : Obj := qO (.type "tuple") [.str "source" 847]
noncomputable def o297 : Obj := fO (sA 44) "_law_spot"
noncomputable def o298 : Obj := kO "_law_spot" "_law_spot" 844 269 1 449 true 450 848
noncomputable def o299 : Obj := by refine hh (hO (sA 44) "_law_spot" .none (.str "law_on0244_01" 816) (.ref 454)) ?_ ?_; walk_at "h"
noncomputable def o300 : Obj := fO (sA 45) "_law_begun"
noncomputable def o301 : Obj := gO (.type "code") [.str "_law_begun" 851, .str "_law_begun" 852, .str "/claim/cut.py" 853, .int 271 0, .int 1 0, .int 0 0, .int 0 0, .int 3 0, .ref 456, .bool true, .int 181 0, .ref 457, .none, .none, .none, .ref 458, .int 854 0, .int 271 0, .str "/claim/cut.py" 855]
noncomputable def o302 : Obj := by refine hh (hO (sA 45) "_law_begun" .none (.str "law_on0244_01" 816) (.ref 459)) ?_ ?_; walk_at "h"
noncomputable def o303 : Obj := qO (.type "tuple") [.str "work" 860, .str "rows" 861, .str "due" 862, .str "zone" 863, .str "row" 864]
noncomputable def o304 : Obj := fO (sA 46) "_law_told"
noncomputable def o305 : Obj := kO "_law_told" "_law_told" 857 284 3 461 true 462 865
noncomputable def o306 : Obj := by refine hh (hO (sA 46) "_law_told" .none (.str "law_on0244_01" 816) (.ref 466)) ?_ ?_; walk_at "h"
noncomputable def o307 : Obj := qO (.type "tuple") [.str "top" 871, .str "bottom" 872, .str "size" 873]
noncomputable def o308 : Obj := fO (sA 47) "_law_half"
noncomputable def o309 : Obj := kO "_law_half" "_law_half" 868 289 2 468 true 469 874
noncomputable def o310 : Obj := by refine hh (hO (sA 47) "_law_half" .none (.str "law_on0244_01" 816) (.ref 473)) ?_ ?_; walk_at "h"
noncomputable def o311 : Obj := qO (.type "tuple") [.str "top" 880, .str "bottom" 881]
noncomputable def o312 : Obj := fO (sA 48) "_law_cut"
noncomputable def o313 : Obj := kO "_law_cut" "_law_cut" 877 294 2 475 true 476 882
noncomputable def o314 : Obj := by refine hh (hO (sA 48) "_law_cut" .none (.str "law_on0244_01" 816) (.ref 480)) ?_ ?_; walk_at "h"
noncomputable def o315 : Obj := qO (.type "tuple") [.str "rows" 888, .str "number" 889, .str "i" 890, .str "axis" 891, .str "step" 892, .str "x" 893, .str "y" 894]
noncomputable def o316 : Obj := fO (sA 49) "_law_moved"
noncomputable def o317 : Obj := kO "_law_moved" "_law_moved" 885 296 5 482 true 483 895
noncomputable def o318 : Obj := by refine hh (hO (sA 49) "_law_moved" .none (.str "law_on0244_01" 816) (.ref 487)) ?_ ?_; walk_at "h"
noncomputable def o319 : Obj := qO (.type "tuple") [.str "a" 901, .str "b" 902, .str "c" 903, .str "d" 904, .str "one" 905, .str "other" 906, .str "way" 907, .str "turned_by" 908, .str "top_part" 909]
noncomputable def o320 : Obj := fO (sA 50) "_law_crossing"
noncomputable def o321 : Obj := kO "_law_crossing" "_law_crossing" 898 300 4 489 true 490 910
noncomputable def o322 : Obj := by refine hh (hO (sA 50) "_law_crossing" .none (.str "law_on0244_01" 816) (.ref 494)) ?_ ?_; walk_at "h"
noncomputable def o323 : Obj := fO (sA 51) "_law_isect"
noncomputable def o324 : Obj := gO (.type "code") [.str "_law_isect" 913, .str "_law_isect" 914, .str "/claim/cut.py" 915, .int 307 0, .int 5 0, .int 0 0, .int 0 0, .int 3 0, .ref 496, .bool true, .int 181 0, .ref 497, .none, .none, .none, .ref 498, .int 916 0, .int 307 0, .str "/claim/cut.py" 917]
noncomputable def o325 : Obj := by refine hh (hO (sA 51) "_law_isect" .none (.str "law_on0244_01" 816) (.ref 499)) ?_ ?_; walk_at "h"
noncomputable def o326 : Obj := qO (.type "tuple") [.str "source" 922, .str "work" 923, .str "rows" 924, .str "state" 925, .str "axis" 926, .str "first" 927, .str "second" 928, .str "half" 929]
noncomputable def o327 : Obj := fO (sA 52) "_law_align"
noncomputable def o328 : Obj := kO "_law_align" "_law_align" 919 315 5 501 true 502 930
noncomputable def o329 : Obj := by refine hh (hO (sA 52) "_law_align" .none (.str "law_on0244_01" 816) (.ref 506)) ?_ ?_; walk_at "h"
noncomputable def o330 : Obj := qO (.type "tuple") [.str "source" 936, .str "work" 937, .str "rows" 938, .str "state" 939, .str "axis" 940, .str "i" 941, .str "held" 942]
noncomputable def o331 : Obj := fO (sA 53) "_law_utp"
noncomputable def o332 : Obj := kO "_law_utp" "_law_utp" 933 323 5 508 true 509 943
noncomputable def o333 : Obj := by refine hh (hO (sA 53) "_law_utp" .none (.str "law_on0244_01" 816) (.ref 513)) ?_ ?_; walk_at "h"
noncomputable def o334 : Obj := fO (sA 54) "_law_flips"
noncomputable def o335 : Obj := gO (.type "code") [.str "_law_flips" 946, .str "_law_flips" 947, .str "/claim/cut.py" 948, .int 330 0, .int 5 0, .int 0 0, .int 0 0, .int 3 0, .ref 515, .bool true, .int 181 0, .ref 516, .none, .none, .none, .ref 517, .int 949 0, .int 330 0, .str "/claim/cut.py" 950]
noncomputable def o336 : Obj := by refine hh (hO (sA 54) "_law_flips" .none (.str "law_on0244_01" 816) (.ref 518)) ?_ ?_; walk_at "h"
noncomputable def o337 (P : Params) : Obj := dO P (.type "dict") 59 [("__name__", 165, .str "law_on0244_01" 816), ("__doc__", 166, .none), ("__package__", 167, .none), ("__loader__", 168, .builtin "__main__.__loader__#opaque"), ("__spec__", 169, .none), ("__annotations__", 170, .ref 6), ("__builtins__", 171, .ref 4), ("__file__", 173, .str "/claim/cut.py" 172), ("__cached__", 174, .none), ("_wall", 193, .ref 21), ("ONE14", 197, .int 16384 196), ("muldiv", 207, .ref 28), ("cut_div", 217, .ref 35), ("dot14", 226, .ref 42), ("apart", 236, .ref 49), ("measured", 245, .ref 56), ("dual_measured", 254, .ref 63), ("place_of", 263, .ref 70), ("touch", 272, .ref 77), ("step_of", 281, .ref 84), ("shifted", 294, .ref 91), ("move_point", 304, .ref 98), ("NOUGHT", 309, .ref 99), ("do_gc", 319, .ref 106), ("do_scfs", 330, .ref 113), ("do_md", 343, .ref 120), ("crossing", 360, .ref 127), ("do_isect", 378, .ref 134), ("do_alignpts", 393, .ref 141), ("do_utp", 403, .ref 148), ("do_flippt", 414, .ref 155), ("do_flip_row", 426, .ref 162), ("MillError", 457, .ref 179), ("HintFault", 473, .ref 192), ("Rounding", 515, .ref 218), ("named", 526, .ref 229), ("LEAST_DOT", 530, .int 1024 529), ("GraphicsState", 610, .ref 274), ("HintStack", 679, .ref 330), ("HintWork", 758, .ref 381), ("Zone", 815, .ref 423), ("_law_pool", 826, .ref 434), ("_law_take", 835, .ref 441), ("_law_one", 843, .ref 448), ("_law_spot", 850, .ref 455), ("_law_begun", 856, .ref 460), ("_law_told", 867, .ref 467), ("_law_half", 876, .ref 474), ("_law_cut", 884, .ref 481), ("_law_moved", 897, .ref 488), ("_law_crossing", 912, .ref 495), ("_law_isect", 918, .ref 500), ("_law_align", 932, .ref 507), ("_law_utp", 945, .ref 514), ("_law_flips", 951, .ref 519), ("_law_scfs", 964, .ref 526), ("_law_measures", 978, .ref 533), ("_law_refused", 990, .ref 540), ("law", 1005, .ref 547)]
noncomputable def o338 : Obj := gO .none [.int 1 0, .int 0 0, .ref 20, .int 6 0, .int 0 0, .ref 27, .int 13 0, .int 0 0, .ref 34, .int 18 0, .int 0 0, .ref 41, .int 21 0, .int 0 0, .ref 48, .int 23 0, .int 0 0, .ref 55, .int 25 0, .int 0 0, .ref 62, .int 27 0, .int 0 0, .ref 69, .int 29 0, .int 0 0, .ref 76, .int 34 0, .int 0 0, .ref 83, .int 37 0, .int 0 0, .ref 90, .int 46 0, .int 0 0, .ref 97, .int 50 0, .int 0 0, .ref 105, .int 57 0, .int 0 0, .ref 112, .int 64 0, .int 0 0, .ref 119, .int 74 0, .int 0 0, .ref 126, .int 84 0, .int 0 0, .ref 133, .int 94 0, .int 0 0, .ref 140, .int 102 0, .int 0 0, .ref 147, .int 109 0, .int 0 0, .ref 154, .int 114 0, .int 0 0, .ref 161, .int 121 0, .int 0 0, .ref 168, .int 125 0, .int 0 0, .ref 188, .int 128 0, .int 0 0, .ref 200, .int 137 0, .int 0 0, .ref 228, .int 145 0, .int 0 0, .ref 235, .int 182 0, .int 0 0, .ref 284, .int 206 0, .int 0 0, .ref 340, .int 234 0, .int 0 0, .ref 391, .int 254 0, .int 0 0, .ref 433, .int 260 0, .int 0 0, .ref 440, .int 267 0, .int 0 0, .ref 447, .int 269 0, .int 0 0, .ref 454, .int 271 0, .int 0 0, .ref 459, .int 284 0, .int 0 0, .ref 466, .int 289 0, .int 0 0, .ref 473, .int 294 0, .int 0 0, .ref 480, .int 296 0, .int 0 0, .ref 487, .int 300 0, .int 0 0, .ref 494, .int 307 0, .int 0 0, .ref 499, .int 315 0, .int 0 0, .ref 506, .int 323 0, .int 0 0, .ref 513, .int 330 0, .int 0 0, .ref 518, .int 344 0, .int 0 0, .ref 525, .int 352 0, .int 0 0, .ref 532, .int 361 0, .int 0 0, .ref 539, .int 374 0, .int 0 0, .ref 546]
noncomputable def o339 : Obj := qO (.type "tuple") [.str "source" 955, .str "work" 956, .str "rows" 957, .str "state" 958, .str "axis" 959, .str "i" 960, .str "value" 961]
noncomputable def o340 : Obj := fO (sA 55) "_law_scfs"
noncomputable def o341 : Obj := kO "_law_scfs" "_law_scfs" 952 344 5 520 true 521 962
noncomputable def o342 : Obj := by refine hh (hO (sA 55) "_law_scfs" .none (.str "law_on0244_01" 816) (.ref 525)) ?_ ?_; walk_at "h"
noncomputable def o343 : Obj := qO (.type "tuple") [.str "source" 968, .str "work" 969, .str "rows" 970, .str "state" 971, .str "axis" 972, .str "i" 973, .str "k" 974, .str "is_now" 975]
noncomputable def o344 : Obj := fO (sA 56) "_law_measures"
noncomputable def o345 : Obj := kO "_law_measures" "_law_measures" 965 352 5 527 true 528 976
noncomputable def o346 : Obj := by refine hh (hO (sA 56) "_law_measures" .none (.str "law_on0244_01" 816) (.ref 532)) ?_ ?_; walk_at "h"
noncomputable def o347 : Obj := qO (.type "tuple") [.str "work" 982, .str "rows" 983, .str "some" 984, .str "call" 985, .str "code" 986, .str "numbers" 987]
noncomputable def o348 : Obj := fO (sA 57) "_law_refused"
noncomputable def o349 : Obj := kO "_law_refused" "_law_refused" 979 361 2 534 true 535 988
noncomputable def o350 : Obj := by refine hh (hO (sA 57) "_law_refused" .none (.str "law_on0244_01" 816) (.ref 539)) ?_ ?_; walk_at "h"
noncomputable def o351 : Obj := qO (.type "tuple") [.str "script" 994, .str "source" 995, .str "work" 996, .str "rows" 997, .str "axis" 998, .str "deeds" 999, .str "state" 1000, .str "turn" 1001, .str "due" 1002]
noncomputable def o352 : Obj := fO (sA 58) "law"
noncomputable def o353 : Obj := kO "law" "law" 991 374 1 541 true 542 1003
noncomputable def o354 : Obj := by refine hh (hO (sA 58) "law" .none (.str "law_on0244_01" 816) (.ref 546)) ?_ ?_; walk_at "h"
noncomputable def heapA (P : Params) : Heap := ⟨⟨[(b0 P), (b1 P), (b2 P), (b3 P), (b4 P), (b5 P), (b6 P), (b7 P), (b8 P), (b9 P), (b10 P), o0, o1, o2, o3]⟩, {}⟩
noncomputable def tree0 (P : Params) : BT := (nd (b0 P) (nd (b1 P) (nd (b3 P) (lf (b7 P)) (lf o0)) (nd (b5 P) (lf (b9 P)) (lf o2))) (nd (b2 P) (nd (b4 P) (lf (b8 P)) (lf o1)) (nd (b6 P) (lf (b10 P)) (lf o3))))
noncomputable def tree1 (P : Params) : BT := (nd (b0 P) (nd (b1 P) (nd (o4 P) (nd (b7 P) (nd o0 (nd o14 (lf o33) .nil) (nd o23 (lf o1) .nil)) (nd o1 (nd o0 (lf o0) .nil) (nd o28 (lf o46) .nil))) (nd o0 (nd o7 (nd o17 (lf o0) .nil) (nd o1 (lf o44) .nil)) (nd o12 (nd o0 (lf o39) .nil) (nd o30 (lf o49) .nil)))) (nd (b5 P) (nd (b9 P) (nd o6 (nd o15 (lf o1) .nil) (nd o25 (lf o0) .nil)) (nd o0 (nd o20 (lf o38) .nil) (nd o0 (lf o47) .nil))) (nd o2 (nd o9 (nd o1 (lf o36) .nil) (nd o0 (lf o0) .nil)) (nd o0 (nd o22 (lf o41) .nil) (lf o31))))) (nd (b2 P) (nd (b4 P) (nd (b8 P) (nd o1 (nd o0 (lf o0) .nil) (nd o24 (lf o42) .nil)) (nd o10 (nd o19 (lf o1) .nil) (nd o29 (lf o0) .nil))) (nd o5 (nd o8 (nd o0 (lf o35) .nil) (nd o26 (lf o45) .nil)) (nd o13 (nd o1 (lf o40) .nil) (lf o0)))) (nd (b6 P) (nd (b10 P) (nd o0 (nd o16 (lf o34) .nil) (nd o0 (lf o43) .nil)) (nd o11 (nd o21 (lf o0) .nil) (nd o1 (lf o48) .nil))) (nd o3 (nd o0 (nd o18 (lf o37) .nil) (nd o27 (lf o1) .nil)) (nd o1 (nd o0 (lf o0) .nil) (lf o32))))))
noncomputable def tree2 (P : Params) : BT := (nd (b0 P) (nd (b1 P) (nd (o50 P) (nd (b7 P) (nd o0 (nd o14 (nd o33 (lf o72) .nil) (nd o0 (lf o0) .nil)) (nd o23 (nd o1 (lf o1) .nil) (lf o62))) (nd o1 (nd o0 (nd o0 (lf o0) .nil) (lf o0)) (nd o28 (nd o46 (lf o85) .nil) (lf o67)))) (nd o0 (nd o7 (nd o17 (nd o0 (lf o0) .nil) (lf o56)) (nd o1 (nd o44 (lf o83) .nil) (lf o1))) (nd o12 (nd o0 (nd o39 (lf o78) .nil) (lf o0)) (nd o30 (nd o49 (lf o88) .nil) (lf o69))))) (nd (b5 P) (nd (b9 P) (nd o6 (nd o15 (nd o1 (lf o1) .nil) (nd o54 (lf o91) .nil)) (nd o25 (nd o0 (lf o0) .nil) (lf o64))) (nd o0 (nd o20 (nd o38 (lf o77) .nil) (lf o59)) (nd o0 (nd o47 (lf o86) .nil) (lf o0)))) (nd o2 (nd o9 (nd o1 (nd o36 (lf o75) .nil) (lf o1)) (nd o0 (nd o0 (lf o0) .nil) (lf o0))) (nd o0 (nd o22 (nd o41 (lf o80) .nil) (lf o61)) (nd o31 (nd o1 (lf o1) .nil) (lf o70)))))) (nd (b2 P) (nd (b4 P) (nd (b8 P) (nd o1 (nd o0 (nd o0 (lf o0) .nil) (nd o53 (lf o90) .nil)) (nd o24 (nd o42 (lf o81) .nil) (lf o63))) (nd o10 (nd o19 (nd o1 (lf o1) .nil) (lf o58)) (nd o29 (nd o0 (lf o0) .nil) (lf o68)))) (nd o51 (nd o8 (nd o0 (nd o35 (lf o74) .nil) (lf o0)) (nd o26 (nd o45 (lf o84) .nil) (lf o65))) (nd o13 (nd o1 (nd o40 (lf o79) .nil) (lf o1)) (nd o0 (nd o0 (lf o0) .nil) (lf o0))))) (nd (b6 P) (nd (b10 P) (nd o0 (nd o16 (nd o34 (lf o73) .nil) (nd o55 (lf o92) .nil)) (nd o0 (nd o43 (lf o82) .nil) (lf o0))) (nd o11 (nd o21 (nd o0 (lf o0) .nil) (lf o60)) (nd o1 (nd o48 (lf o87) .nil) (lf o1)))) (nd o3 (nd o0 (nd o18 (nd o37 (lf o76) .nil) (lf o57)) (nd o27 (nd o1 (lf o1) .nil) (lf o66))) (nd o1 (nd o0 (nd o0 (lf o0) .nil) (lf o0)) (nd o32 (nd o52 (lf o89) .nil) (lf o71)))))))
noncomputable def tree3 (P : Params) : BT := (nd (b0 P) (nd (b1 P) (nd (o94 P) (nd (b7 P) (nd o0 (nd o14 (nd o33 (lf o72) .nil) (nd o0 (lf o0) .nil)) (nd o23 (nd o1 (lf o1) .nil) (nd o62 (lf o104) .nil))) (nd o1 (nd o0 (nd o0 (lf o0) .nil) (nd o0 (lf o99) .nil)) (nd o28 (nd o46 (lf o85) .nil) (lf o67)))) (nd o0 (nd o7 (nd o17 (nd o0 (lf o0) .nil) (nd o56 (lf o96) .nil)) (nd o1 (nd o44 (lf o83) .nil) (nd o1 (lf o108) .nil))) (nd o12 (nd o0 (nd o39 (lf o78) .nil) (nd o0 (lf o1) .nil)) (nd o30 (nd o49 (lf o88) .nil) (lf o69))))) (nd (b5 P) (nd (b9 P) (nd o6 (nd o15 (nd o1 (lf o1) .nil) (nd o54 (lf o91) .nil)) (nd o25 (nd o0 (lf o0) .nil) (nd o64 (lf o106) .nil))) (nd o0 (nd o20 (nd o38 (lf o77) .nil) (nd o59 (lf o101) .nil)) (nd o0 (nd o47 (lf o86) .nil) (lf o0)))) (nd o2 (nd o9 (nd o1 (nd o36 (lf o75) .nil) (nd o1 (lf (o98 P)) .nil)) (nd o0 (nd o0 (lf o0) .nil) (nd o0 (lf o110) .nil))) (nd o0 (nd o22 (nd o41 (lf o80) .nil) (nd o61 (lf o0) .nil)) (nd o31 (nd o1 (lf o1) .nil) (lf o70)))))) (nd (o93 P) (nd (b4 P) (nd (b8 P) (nd o1 (nd o0 (nd o0 (lf o0) .nil) (nd o53 (lf o90) .nil)) (nd o24 (nd o42 (lf o81) .nil) (nd o63 (lf o105) .nil))) (nd o10 (nd o19 (nd o1 (lf o1) .nil) (nd o58 (lf o100) .nil)) (nd o29 (nd o0 (lf o0) .nil) (lf o68)))) (nd o95 (nd o8 (nd o0 (nd o35 (lf o74) .nil) (nd o0 (lf o97) .nil)) (nd o26 (nd o45 (lf o84) .nil) (nd o65 (lf o109) .nil))) (nd o13 (nd o1 (nd o40 (lf o79) .nil) (nd o1 (lf o102) .nil)) (nd o0 (nd o0 (lf o0) .nil) (lf o0))))) (nd (b6 P) (nd (b10 P) (nd o0 (nd o16 (nd o34 (lf o73) .nil) (nd o55 (lf o92) .nil)) (nd o0 (nd o43 (lf o82) .nil) (nd o0 (lf (o107 P)) .nil))) (nd o11 (nd o21 (nd o0 (lf o0) .nil) (nd o60 (lf o0) .nil)) (nd o1 (nd o48 (lf o87) .nil) (lf o1)))) (nd o3 (nd o0 (nd o18 (nd o37 (lf o76) .nil) (nd o57 (lf o0) .nil)) (nd o27 (nd o1 (lf o1) .nil) (nd o66 (lf o111) .nil))) (nd o1 (nd o0 (nd o0 (lf o0) .nil) (nd o0 (lf o103) .nil)) (nd o32 (nd o52 (lf o89) .nil) (lf o71)))))))
noncomputable def tree4 (P : Params) : BT := (nd (b0 P) (nd (b1 P) (nd (o112 P) (nd (b7 P) (nd o0 (nd o14 (nd o33 (lf o72) (lf (o119 P))) (nd o0 (lf o0) .nil)) (nd o23 (nd o1 (lf o1) .nil) (nd o62 (lf o104) .nil))) (nd o1 (nd o0 (nd o0 (lf o0) .nil) (nd o0 (lf o99) .nil)) (nd o28 (nd o46 (lf o85) .nil) (nd o67 (lf o115) .nil)))) (nd o0 (nd o7 (nd o17 (nd o0 (lf o0) .nil) (nd o56 (lf o96) .nil)) (nd o1 (nd o44 (lf o83) .nil) (nd o1 (lf o114) .nil))) (nd o12 (nd o0 (nd o39 (lf o78) .nil) (nd o0 (lf o1) .nil)) (nd o30 (nd o49 (lf o88) .nil) (nd o69 (lf o1) .nil))))) (nd (b5 P) (nd (b9 P) (nd o6 (nd o15 (nd o1 (lf o1) (lf o121)) (nd o54 (lf o91) .nil)) (nd o25 (nd o0 (lf o0) .nil) (nd o64 (lf o106) .nil))) (nd o0 (nd o20 (nd o38 (lf o77) .nil) (nd o59 (lf o101) .nil)) (nd o0 (nd o47 (lf o86) .nil) (nd o0 (lf (o116 P)) .nil)))) (nd o2 (nd o9 (nd o1 (nd o36 (lf o75) .nil) (nd o1 (lf (o98 P)) .nil)) (nd o0 (nd o0 (lf o0) .nil) (nd o0 (lf o110) .nil))) (nd o0 (nd o22 (nd o41 (lf o80) .nil) (nd o61 (lf o0) .nil)) (nd o31 (nd o1 (lf o1) .nil) (nd o70 (lf o118) .nil)))))) (nd (o93 P) (nd (b4 P) (nd (b8 P) (nd o1 (nd o0 (nd o0 (lf o0) (lf o120)) (nd o53 (lf o90) .nil)) (nd o24 (nd o42 (lf o81) .nil) (nd o63 (lf o105) .nil))) (nd o10 (nd o19 (nd o1 (lf o1) .nil) (nd o58 (lf o100) .nil)) (nd o29 (nd o0 (lf o0) .nil) (nd o68 (lf o97) .nil)))) (nd o113 (nd o8 (nd o0 (nd o35 (lf o74) .nil) (nd o0 (lf o97) .nil)) (nd o26 (nd o45 (lf o84) .nil) (nd o65 (lf o109) .nil))) (nd o13 (nd o1 (nd o40 (lf o79) .nil) (nd o1 (lf o102) .nil)) (nd o0 (nd o0 (lf o0) .nil) (nd o0 (lf o117) .nil))))) (nd (b6 P) (nd (b10 P) (nd o0 (nd o16 (nd o34 (lf o73) (lf o122)) (nd o55 (lf o92) .nil)) (nd o0 (nd o43 (lf o82) .nil) (nd o0 (lf (o107 P)) .nil))) (nd o11 (nd o21 (nd o0 (lf o0) .nil) (nd o60 (lf o0) .nil)) (nd o1 (nd o48 (lf o87) .nil) (nd o1 (lf o0) .nil)))) (nd o3 (nd o0 (nd o18 (nd o37 (lf o76) .nil) (nd o57 (lf o0) .nil)) (nd o27 (nd o1 (lf o1) .nil) (nd o66 (lf o111) .nil))) (nd o1 (nd o0 (nd o0 (lf o0) .nil) (nd o0 (lf o103) .nil)) (nd o32 (nd o52 (lf o89) .nil) (nd o71 (lf o0) .nil)))))))
noncomputable def tree5 (P : Params) : BT := (nd (b0 P) (nd (b1 P) (nd (o123 P) (nd (b7 P) (nd o0 (nd o14 (nd o33 (lf o72) (lf (o119 P))) (nd o0 (lf o0) (lf o0))) (nd o23 (nd o1 (lf o1) (lf o131)) (nd o62 (lf o104) .nil))) (nd o1 (nd o0 (nd o0 (lf o0) (lf o126)) (nd o0 (lf o99) .nil)) (nd o28 (nd o46 (lf o85) (lf o136)) (nd o67 (lf o115) .nil)))) (nd o0 (nd o7 (nd o17 (nd o0 (lf o0) (lf o0)) (nd o56 (lf o96) (lf o145))) (nd o1 (nd o44 (lf o83) (lf o133)) (nd o1 (lf o114) .nil))) (nd o12 (nd o0 (nd o39 (lf o78) (lf o1)) (nd o0 (lf o1) .nil)) (nd o30 (nd o49 (lf o88) (lf o140)) (nd o69 (lf o1) .nil))))) (nd (b5 P) (nd (b9 P) (nd o6 (nd o15 (nd o1 (lf o1) (lf o121)) (nd o54 (lf o91) (lf o144))) (nd o25 (nd o0 (lf o0) (lf o0)) (nd o64 (lf o106) .nil))) (nd o0 (nd o20 (nd o38 (lf o77) (lf o128)) (nd o59 (lf o101) .nil)) (nd o0 (nd o47 (lf o86) (lf (o138 P))) (nd o0 (lf (o116 P)) .nil)))) (nd o2 (nd o9 (nd o1 (nd o36 (lf o75) (lf (o125 P))) (nd o1 (lf (o98 P)) (lf o147))) (nd o0 (nd o0 (lf o0) (lf o134)) (nd o0 (lf o110) .nil))) (nd o0 (nd o22 (nd o41 (lf o80) (lf o0)) (nd o61 (lf o0) .nil)) (nd o31 (nd o1 (lf o1) (lf o142)) (nd o70 (lf o118) .nil)))))) (nd (o93 P) (nd (b4 P) (nd (b8 P) (nd o1 (nd o0 (nd o0 (lf o0) (lf o120)) (nd o53 (lf o90) (lf o1))) (nd o24 (nd o42 (lf o81) (lf o132)) (nd o63 (lf o105) .nil))) (nd o10 (nd o19 (nd o1 (lf o1) (lf o127)) (nd o58 (lf o100) .nil)) (nd o29 (nd o0 (lf o0) (lf o137)) (nd o68 (lf o97) .nil)))) (nd o124 (nd o8 (nd o0 (nd o35 (lf o74) (lf o97)) (nd o0 (lf o97) (lf o146))) (nd o26 (nd o45 (lf o84) (lf o0)) (nd o65 (lf o109) .nil))) (nd o13 (nd o1 (nd o40 (lf o79) (lf o129)) (nd o1 (lf o102) .nil)) (nd o0 (nd o0 (lf o0) (lf o141)) (nd o0 (lf o117) .nil))))) (nd (b6 P) (nd (b10 P) (nd o0 (nd o16 (nd o34 (lf o73) (lf o122)) (nd o55 (lf o92) (lf o0))) (nd o0 (nd o43 (lf o82) (lf o1)) (nd o0 (lf (o107 P)) .nil))) (nd o11 (nd o21 (nd o0 (lf o0) (lf o0)) (nd o60 (lf o0) .nil)) (nd o1 (nd o48 (lf o87) (lf o139)) (nd o1 (lf o0) .nil)))) (nd o3 (nd o0 (nd o18 (nd o37 (lf o76) (lf o0)) (nd o57 (lf o0) .nil)) (nd o27 (nd o1 (lf o1) (lf o135)) (nd o66 (lf o111) .nil))) (nd o1 (nd o0 (nd o0 (lf o0) (lf o130)) (nd o0 (lf o103) .nil)) (nd o32 (nd o52 (lf o89) (lf o143)) (nd o71 (lf o0) .nil)))))))
noncomputable def tree6 (P : Params) : BT := (nd (b0 P) (nd (b1 P) (nd (o148 P) (nd (b7 P) (nd o0 (nd o14 (nd o33 (nd o72 (lf o163) .nil) (lf (o119 P))) (nd o0 (lf o0) (lf o0))) (nd o23 (nd o1 (nd o1 (lf o173) .nil) (lf o131)) (nd o62 (lf o104) (lf o154)))) (nd o1 (nd o0 (nd o0 (nd o0 (lf o168) .nil) (lf o126)) (nd o0 (lf o99) (lf o97))) (nd o28 (nd o46 (lf o85) (lf o136)) (nd o67 (lf o115) (lf o0))))) (nd o0 (nd o7 (nd o17 (nd o0 (nd o0 (lf o1) .nil) (lf o0)) (nd o56 (lf o96) (lf o145))) (nd o1 (nd o44 (nd o83 (lf o177) .nil) (lf o133)) (nd o1 (lf o114) (lf o157)))) (nd o12 (nd o0 (nd o39 (nd o78 (lf o170) .nil) (lf o1)) (nd o0 (lf o1) (lf o152))) (nd o30 (nd o49 (lf o88) (lf o140)) (nd o69 (lf o1) (lf o0)))))) (nd (b5 P) (nd (b9 P) (nd o6 (nd o15 (nd o1 (nd o1 (lf o165) .nil) (lf o121)) (nd o54 (lf o91) (lf o144))) (nd o25 (nd o0 (nd o0 (lf (o175 P)) .nil) (lf o0)) (nd o64 (lf o106) (lf o155)))) (nd o0 (nd o20 (nd o38 (nd o77 (lf o0) .nil) (lf o128)) (nd o59 (lf o101) (lf o0))) (nd o0 (nd o47 (lf o86) (lf (o138 P))) (nd o0 (lf (o116 P)) (lf o160))))) (nd o2 (nd o9 (nd o1 (nd o36 (nd o75 (lf o0) .nil) (lf (o125 P))) (nd o1 (lf (o98 P)) (lf o147))) (nd o0 (nd o0 (nd o0 (lf o179) .nil) (lf o134)) (nd o0 (lf o110) (lf o1)))) (nd o0 (nd o22 (nd o41 (nd o80 (lf o171) .nil) (lf o0)) (nd o61 (lf o0) (lf o0))) (nd o31 (nd o1 (lf o1) (lf o142)) (nd o70 (lf o118) (lf o162))))))) (nd (o93 P) (nd (b4 P) (nd (b8 P) (nd o1 (nd o0 (nd o0 (nd o0 (lf o164) .nil) (lf o120)) (nd o53 (lf o90) (lf o1))) (nd o24 (nd o42 (nd o81 (lf o174) .nil) (lf o132)) (nd o63 (lf o105) (lf o0)))) (nd o10 (nd o19 (nd o1 (nd o1 (lf o169) .nil) (lf o127)) (nd o58 (lf o100) (lf (o150 P)))) (nd o29 (nd o0 (lf o0) (lf o137)) (nd o68 (lf o97) (lf o159))))) (nd o149 (nd o8 (nd o0 (nd o35 (nd o74 (lf o166) .nil) (lf o97)) (nd o0 (lf o97) (lf o146))) (nd o26 (nd o45 (nd o84 (lf o178) .nil) (lf o0)) (nd o65 (lf o109) (lf o0)))) (nd o13 (nd o1 (nd o40 (nd o79 (lf o0) .nil) (lf o129)) (nd o1 (lf o102) (lf o153))) (nd o0 (nd o0 (lf o0) (lf o141)) (nd o0 (lf o117) (lf o1)))))) (nd (b6 P) (nd (b10 P) (nd o0 (nd o16 (nd o34 (nd o73 (lf o0) .nil) (lf o122)) (nd o55 (lf o92) (lf o0))) (nd o0 (nd o43 (nd o82 (lf o176) .nil) (lf o1)) (nd o0 (lf (o107 P)) (lf o156)))) (nd o11 (nd o21 (nd o0 (nd o0 (lf o1) .nil) (lf o0)) (nd o60 (lf o0) (lf o151))) (nd o1 (nd o48 (lf o87) (lf o139)) (nd o1 (lf o0) (lf o161))))) (nd o3 (nd o0 (nd o18 (nd o37 (nd o76 (lf o167) .nil) (lf o0)) (nd o57 (lf o0) (lf o0))) (nd o27 (nd o1 (nd o1 (lf o180) .nil) (lf o135)) (nd o66 (lf o111) (lf o158)))) (nd o1 (nd o0 (nd o0 (nd o0 (lf o172) .nil) (lf o130)) (nd o0 (lf o103) (lf o1))) (nd o32 (nd o52 (lf o89) (lf o143)) (nd o71 (lf o0) (lf o0))))))))
noncomputable def tree7 (P : Params) : BT := (nd (b0 P) (nd (b1 P) (nd (o181 P) (nd (b7 P) (nd o0 (nd o14 (nd o33 (nd o72 (lf o163) .nil) (nd (o119 P) (lf o205) .nil)) (nd o0 (nd o0 (lf o1) .nil) (lf o0))) (nd o23 (nd o1 (nd o1 (lf o173) .nil) (lf o131)) (nd o62 (nd o104 (lf o0) .nil) (lf o154)))) (nd o1 (nd o0 (nd o0 (nd o0 (lf o168) .nil) (nd o126 (lf o210) .nil)) (nd o0 (nd o99 (lf o191) .nil) (lf o97))) (nd o28 (nd o46 (nd o85 (lf o0) .nil) (lf o136)) (nd o67 (nd o115 (lf o200) .nil) (lf o0))))) (nd o0 (nd o7 (nd o17 (nd o0 (nd o0 (lf o1) .nil) (nd o0 (lf o207) .nil)) (nd o56 (nd o96 (lf o189) .nil) (lf o145))) (nd o1 (nd o44 (nd o83 (lf o177) .nil) (lf o133)) (nd o1 (nd o114 (lf o0) .nil) (lf o157)))) (nd o12 (nd o0 (nd o39 (nd o78 (lf o170) .nil) (nd o1 (lf o214) .nil)) (nd o0 (nd o1 (lf o194) .nil) (lf o152))) (nd o30 (nd o49 (nd o88 (lf o184) .nil) (lf o140)) (nd o69 (nd o1 (lf o1) .nil) (lf o0)))))) (nd (b5 P) (nd (b9 P) (nd o6 (nd o15 (nd o1 (nd o1 (lf o165) .nil) (nd o121 (lf o0) .nil)) (nd o54 (nd o91 (lf o0) .nil) (lf o144))) (nd o25 (nd o0 (nd o0 (lf (o175 P)) .nil) (lf o0)) (nd o64 (nd o106 (lf o197) .nil) (lf o155)))) (nd o0 (nd o20 (nd o38 (nd o77 (lf o0) .nil) (nd o128 (lf (o212 P)) .nil)) (nd o59 (nd o101 (lf o192) .nil) (lf o0))) (nd o0 (nd o47 (nd o86 (lf (o183 P)) .nil) (lf (o138 P))) (nd o0 (nd (o116 P) (lf o202) .nil) (lf o160))))) (nd o2 (nd o9 (nd o1 (nd o36 (nd o75 (lf o0) .nil) (nd (o125 P) (lf o208) .nil)) (nd o1 (nd (o98 P) (lf o0) .nil) (lf o147))) (nd o0 (nd o0 (nd o0 (lf o179) .nil) (lf o134)) (nd o0 (nd o110 (lf o199) .nil) (lf o1)))) (nd o0 (nd o22 (nd o41 (nd o80 (lf o171) .nil) (nd o0 (lf o216) .nil)) (nd o61 (nd o0 (lf o1) .nil) (lf o0))) (nd o31 (nd o1 (nd o1 (lf o186) .nil) (lf o142)) (nd o70 (nd o118 (lf o0) .nil) (lf o162))))))) (nd (o93 P) (nd (b4 P) (nd (b8 P) (nd o1 (nd o0 (nd o0 (nd o0 (lf o164) .nil) (nd o120 (lf o206) .nil)) (nd o53 (nd o90 (lf o187) .nil) (lf o1))) (nd o24 (nd o42 (nd o81 (lf o174) .nil) (lf o132)) (nd o63 (nd o105 (lf o196) .nil) (lf o0)))) (nd o10 (nd o19 (nd o1 (nd o1 (lf o169) .nil) (nd o127 (lf o211) .nil)) (nd o58 (nd o100 (lf o0) .nil) (lf (o150 P)))) (nd o29 (nd o0 (nd o0 (lf o97) .nil) (lf o137)) (nd o68 (nd o97 (lf o201) .nil) (lf o159))))) (nd o182 (nd o8 (nd o0 (nd o35 (nd o74 (lf o166) .nil) (nd o97 (lf o0) .nil)) (nd o0 (nd o97 (lf o190) .nil) (lf o146))) (nd o26 (nd o45 (nd o84 (lf o178) .nil) (lf o0)) (nd o65 (nd o109 (lf o1) .nil) (lf o0)))) (nd o13 (nd o1 (nd o40 (nd o79 (lf o0) .nil) (nd o129 (lf o215) .nil)) (nd o1 (nd o102 (lf o0) .nil) (lf o153))) (nd o0 (nd o0 (nd o0 (lf o185) .nil) (lf o141)) (nd o0 (nd o117 (lf o203) .nil) (lf o1)))))) (nd (b6 P) (nd (b10 P) (nd o0 (nd o16 (nd o34 (nd o73 (lf o0) .nil) (nd o122 (lf o1) .nil)) (nd o55 (nd o92 (lf o188) .nil) (lf o0))) (nd o0 (nd o43 (nd o82 (lf o176) .nil) (lf o1)) (nd o0 (nd (o107 P) (lf o198) .nil) (lf o156)))) (nd o11 (nd o21 (nd o0 (nd o0 (lf o1) .nil) (nd o0 (lf o213) .nil)) (nd o60 (nd o0 (lf o193) .nil) (lf o151))) (nd o1 (nd o48 (nd o87 (lf o0) .nil) (lf o139)) (nd o1 (nd o0 (lf o0) .nil) (lf o161))))) (nd o3 (nd o0 (nd o18 (nd o37 (nd o76 (lf o167) .nil) (nd o0 (lf o209) .nil)) (nd o57 (nd o0 (lf o1) .nil) (lf o0))) (nd o27 (nd o1 (nd o1 (lf o180) .nil) (lf o135)) (nd o66 (nd o111 (lf o0) .nil) (lf o158)))) (nd o1 (nd o0 (nd o0 (nd o0 (lf o172) .nil) (nd o130 (lf o217) .nil)) (nd o0 (nd o103 (lf o195) .nil) (lf o1))) (nd o32 (nd o52 (nd o89 (lf o0) .nil) (lf o143)) (nd o71 (nd o0 (lf o204) .nil) (lf o0))))))))
noncomputable def tree8 (P : Params) : BT := (nd (b0 P) (nd (b1 P) (nd (o218 P) (nd (b7 P) (nd o0 (nd o14 (nd o33 (nd o72 (lf o163) (lf o250)) (nd (o119 P) (lf o205) .nil)) (nd o0 (nd o0 (lf o1) .nil) (nd o0 (lf o0) .nil))) (nd o23 (nd o1 (nd o1 (lf o173) .nil) (nd o131 (lf o0) .nil)) (nd o62 (nd o104 (lf o0) .nil) (nd o154 (lf o238) .nil)))) (nd o1 (nd o0 (nd o0 (nd o0 (lf o168) .nil) (nd o126 (lf o210) .nil)) (nd o0 (nd o99 (lf o191) .nil) (nd o97 (lf o1) .nil))) (nd o28 (nd o46 (nd o85 (lf o0) .nil) (nd o136 (lf o225) .nil)) (nd o67 (nd o115 (lf o200) .nil) (nd o0 (lf o0) .nil))))) (nd o0 (nd o7 (nd o17 (nd o0 (nd o0 (lf o1) .nil) (nd o0 (lf o207) .nil)) (nd o56 (nd o96 (lf o189) .nil) (nd o145 (lf o231) .nil))) (nd o1 (nd o44 (nd o83 (lf o177) .nil) (nd o133 (lf o221) .nil)) (nd o1 (nd o114 (lf o0) .nil) (nd o157 (lf o241) .nil)))) (nd o12 (nd o0 (nd o39 (nd o78 (lf o170) .nil) (nd o1 (lf o214) .nil)) (nd o0 (nd o1 (lf o194) .nil) (nd o152 (lf o236) .nil))) (nd o30 (nd o49 (nd o88 (lf o184) .nil) (nd o140 (lf o0) .nil)) (nd o69 (nd o1 (lf o1) .nil) (nd o0 (lf o246) .nil)))))) (nd (b5 P) (nd (b9 P) (nd o6 (nd o15 (nd o1 (nd o1 (lf o165) (lf o252)) (nd o121 (lf o0) .nil)) (nd o54 (nd o91 (lf o0) .nil) (nd o144 (lf o230) .nil))) (nd o25 (nd o0 (nd o0 (lf (o175 P)) .nil) (nd o0 (lf (o220 P)) .nil)) (nd o64 (nd o106 (lf o197) .nil) (nd o155 (lf o239) .nil)))) (nd o0 (nd o20 (nd o38 (nd o77 (lf o0) .nil) (nd o128 (lf (o212 P)) .nil)) (nd o59 (nd o101 (lf o192) .nil) (nd o0 (lf o0) .nil))) (nd o0 (nd o47 (nd o86 (lf (o183 P)) .nil) (nd (o138 P) (lf o1) .nil)) (nd o0 (nd (o116 P) (lf o202) .nil) (nd o160 (lf o244) .nil))))) (nd o2 (nd o9 (nd o1 (nd o36 (nd o75 (lf o0) .nil) (nd (o125 P) (lf o208) .nil)) (nd o1 (nd (o98 P) (lf o0) .nil) (nd o147 (lf o233) .nil))) (nd o0 (nd o0 (nd o0 (lf o179) .nil) (nd o134 (lf o223) .nil)) (nd o0 (nd o110 (lf o199) .nil) (nd o1 (lf o1) .nil)))) (nd o0 (nd o22 (nd o41 (nd o80 (lf o171) .nil) (nd o0 (lf o216) .nil)) (nd o61 (nd o0 (lf o1) .nil) (nd o0 (lf o0) .nil))) (nd o31 (nd o1 (nd o1 (lf o186) .nil) (nd o142 (lf o228) .nil)) (nd o70 (nd o118 (lf o0) .nil) (nd o162 (lf o248) .nil))))))) (nd (o93 P) (nd (b4 P) (nd (b8 P) (nd o1 (nd o0 (nd o0 (nd o0 (lf o164) (lf o251)) (nd o120 (lf o206) .nil)) (nd o53 (nd o90 (lf o187) .nil) (nd o1 (lf o1) .nil))) (nd o24 (nd o42 (nd o81 (lf o174) .nil) (nd o132 (lf o97) .nil)) (nd o63 (nd o105 (lf o196) .nil) (nd o0 (lf o0) .nil)))) (nd o10 (nd o19 (nd o1 (nd o1 (lf o169) .nil) (nd o127 (lf o211) .nil)) (nd o58 (nd o100 (lf o0) .nil) (nd (o150 P) (lf o234) .nil))) (nd o29 (nd o0 (nd o0 (lf o97) .nil) (nd o137 (lf o0) .nil)) (nd o68 (nd o97 (lf o201) .nil) (nd o159 (lf o243) .nil))))) (nd o219 (nd o8 (nd o0 (nd o35 (nd o74 (lf o166) .nil) (nd o97 (lf o0) .nil)) (nd o0 (nd o97 (lf o190) .nil) (nd o146 (lf o232) .nil))) (nd o26 (nd o45 (nd o84 (lf o178) .nil) (nd o0 (lf o222) .nil)) (nd o65 (nd o109 (lf o1) .nil) (nd o0 (lf o0) .nil)))) (nd o13 (nd o1 (nd o40 (nd o79 (lf o0) .nil) (nd o129 (lf o215) .nil)) (nd o1 (nd o102 (lf o0) .nil) (nd o153 (lf o237) .nil))) (nd o0 (nd o0 (nd o0 (lf o185) .nil) (nd o141 (lf o227) .nil)) (nd o0 (nd o117 (lf o203) .nil) (nd o1 (lf (o247 P)) .nil)))))) (nd (b6 P) (nd (b10 P) (nd o0 (nd o16 (nd o34 (nd o73 (lf o0) .nil) (nd o122 (lf o1) .nil)) (nd o55 (nd o92 (lf o188) .nil) (nd o0 (lf o0) .nil))) (nd o0 (nd o43 (nd o82 (lf o176) .nil) (nd o1 (lf o0) .nil)) (nd o0 (nd (o107 P) (lf o198) .nil) (nd o156 (lf o240) .nil)))) (nd o11 (nd o21 (nd o0 (nd o0 (lf o1) .nil) (nd o0 (lf o213) .nil)) (nd o60 (nd o0 (lf o193) .nil) (nd o151 (lf o235) .nil))) (nd o1 (nd o48 (nd o87 (lf o0) .nil) (nd o139 (lf o226) .nil)) (nd o1 (nd o0 (lf o0) .nil) (nd o161 (lf o245) .nil))))) (nd o3 (nd o0 (nd o18 (nd o37 (nd o76 (lf o167) .nil) (nd o0 (lf o209) .nil)) (nd o57 (nd o0 (lf o1) .nil) (nd o0 (lf o0) .nil))) (nd o27 (nd o1 (nd o1 (lf o180) .nil) (nd o135 (lf o224) .nil)) (nd o66 (nd o111 (lf o0) .nil) (nd o158 (lf o242) .nil)))) (nd o1 (nd o0 (nd o0 (nd o0 (lf o172) .nil) (nd o130 (lf o217) .nil)) (nd o0 (nd o103 (lf o195) .nil) (nd o1 (lf o1) .nil))) (nd o32 (nd o52 (nd o89 (lf o0) .nil) (nd o143 (lf o229) .nil)) (nd o71 (nd o0 (lf o204) .nil) (nd o0 (lf o249) .nil))))))))
noncomputable def tree9 (P : Params) : BT := (nd (b0 P) (nd (b1 P) (nd (o253 P) (nd (b7 P) (nd o0 (nd o14 (nd o33 (nd o72 (lf o163) (lf o250)) (nd (o119 P) (lf o205) .nil)) (nd o0 (nd o0 (lf o1) (lf o1)) (nd o0 (lf o0) .nil))) (nd o23 (nd o1 (nd o1 (lf o173) (lf o262)) (nd o131 (lf o0) .nil)) (nd o62 (nd o104 (lf o0) (lf o0)) (nd o154 (lf o238) .nil)))) (nd o1 (nd o0 (nd o0 (nd o0 (lf o168) (lf o257)) (nd o126 (lf o210) .nil)) (nd o0 (nd o99 (lf o191) (lf o277)) (nd o97 (lf o1) .nil))) (nd o28 (nd o46 (nd o85 (lf o0) (lf o0)) (nd o136 (lf o225) .nil)) (nd o67 (nd o115 (lf o200) (lf o287)) (nd o0 (lf o0) .nil))))) (nd o0 (nd o7 (nd o17 (nd o0 (nd o0 (lf o1) (lf o97)) (nd o0 (lf o207) .nil)) (nd o56 (nd o96 (lf o189) (lf o273)) (nd o145 (lf o231) .nil))) (nd o1 (nd o44 (nd o83 (lf o177) (lf o0)) (nd o133 (lf o221) .nil)) (nd o1 (nd o114 (lf o0) (lf o0)) (nd o157 (lf o241) .nil)))) (nd o12 (nd o0 (nd o39 (nd o78 (lf o170) (lf o0)) (nd o1 (lf o214) .nil)) (nd o0 (nd o1 (lf o194) (lf o281)) (nd o152 (lf o236) .nil))) (nd o30 (nd o49 (nd o88 (lf o184) (lf o268)) (nd o140 (lf o0) .nil)) (nd o69 (nd o1 (lf o1) .nil) (nd o0 (lf o246) .nil)))))) (nd (b5 P) (nd (b9 P) (nd o6 (nd o15 (nd o1 (nd o1 (lf o165) (lf o252)) (nd o121 (lf o0) .nil)) (nd o54 (nd o91 (lf o0) (lf o0)) (nd o144 (lf o230) .nil))) (nd o25 (nd o0 (nd o0 (lf (o175 P)) (lf o1)) (nd o0 (lf (o220 P)) .nil)) (nd o64 (nd o106 (lf o197) (lf o284)) (nd o155 (lf o239) .nil)))) (nd o0 (nd o20 (nd o38 (nd o77 (lf o0) (lf o0)) (nd o128 (lf (o212 P)) .nil)) (nd o59 (nd o101 (lf o192) (lf o279)) (nd o0 (lf o0) .nil))) (nd o0 (nd o47 (nd o86 (lf (o183 P)) (lf o267)) (nd (o138 P) (lf o1) .nil)) (nd o0 (nd (o116 P) (lf o202) (lf o289)) (nd o160 (lf o244) .nil))))) (nd o2 (nd o9 (nd o1 (nd o36 (nd o75 (lf o0) (lf o0)) (nd (o125 P) (lf o208) .nil)) (nd o1 (nd (o98 P) (lf o0) (lf o275)) (nd o147 (lf o233) .nil))) (nd o0 (nd o0 (nd o0 (lf o179) (lf o265)) (nd o134 (lf o223) .nil)) (nd o0 (nd o110 (lf o199) (lf o286)) (nd o1 (lf o1) .nil)))) (nd o0 (nd o22 (nd o41 (nd o80 (lf o171) (lf o260)) (nd o0 (lf o216) .nil)) (nd o61 (nd o0 (lf o1) (lf o1)) (nd o0 (lf o0) .nil))) (nd o31 (nd o1 (nd o1 (lf o186) (lf o270)) (nd o142 (lf o228) .nil)) (nd o70 (nd o118 (lf o0) .nil) (nd o162 (lf o248) .nil))))))) (nd (o93 P) (nd (b4 P) (nd (b8 P) (nd o1 (nd o0 (nd o0 (nd o0 (lf o164) (lf o251)) (nd o120 (lf o206) .nil)) (nd o53 (nd o90 (lf o187) (lf o271)) (nd o1 (lf o1) .nil))) (nd o24 (nd o42 (nd o81 (lf o174) (lf o0)) (nd o132 (lf o97) .nil)) (nd o63 (nd o105 (lf o196) (lf o283)) (nd o0 (lf o0) .nil)))) (nd o10 (nd o19 (nd o1 (nd o1 (lf o169) (lf o258)) (nd o127 (lf o211) .nil)) (nd o58 (nd o100 (lf o0) (lf o278)) (nd (o150 P) (lf o234) .nil))) (nd o29 (nd o0 (nd o0 (lf o97) (lf o1)) (nd o137 (lf o0) .nil)) (nd o68 (nd o97 (lf o201) (lf o288)) (nd o159 (lf o243) .nil))))) (nd o254 (nd o8 (nd o0 (nd o35 (nd o74 (lf o166) (lf (o255 P))) (nd o97 (lf o0) .nil)) (nd o0 (nd o97 (lf o190) (lf o274)) (nd o146 (lf o232) .nil))) (nd o26 (nd o45 (nd o84 (lf o178) (lf o264)) (nd o0 (lf o222) .nil)) (nd o65 (nd o109 (lf o1) (lf o1)) (nd o0 (lf o0) .nil)))) (nd o13 (nd o1 (nd o40 (nd o79 (lf o0) (lf o1)) (nd o129 (lf o215) .nil)) (nd o1 (nd o102 (lf o0) (lf o0)) (nd o153 (lf o237) .nil))) (nd o0 (nd o0 (nd o0 (lf o185) (lf o269)) (nd o141 (lf o227) .nil)) (nd o0 (nd o117 (lf o203) .nil) (nd o1 (lf (o247 P)) .nil)))))) (nd (b6 P) (nd (b10 P) (nd o0 (nd o16 (nd o34 (nd o73 (lf o0) (lf o0)) (nd o122 (lf o1) .nil)) (nd o55 (nd o92 (lf o188) (lf o272)) (nd o0 (lf o0) .nil))) (nd o0 (nd o43 (nd o82 (lf o176) (lf o263)) (nd o1 (lf o0) .nil)) (nd o0 (nd (o107 P) (lf o198) (lf o285)) (nd o156 (lf o240) .nil)))) (nd o11 (nd o21 (nd o0 (nd o0 (lf o1) (lf o259)) (nd o0 (lf o213) .nil)) (nd o60 (nd o0 (lf o193) (lf o280)) (nd o151 (lf o235) .nil))) (nd o1 (nd o48 (nd o87 (lf o0) (lf o0)) (nd o139 (lf o226) .nil)) (nd o1 (nd o0 (lf o0) .nil) (nd o161 (lf o245) .nil))))) (nd o3 (nd o0 (nd o18 (nd o37 (nd o76 (lf o167) (lf o256)) (nd o0 (lf o209) .nil)) (nd o57 (nd o0 (lf o1) (lf (o276 P))) (nd o0 (lf o0) .nil))) (nd o27 (nd o1 (nd o1 (lf o180) (lf o266)) (nd o135 (lf o224) .nil)) (nd o66 (nd o111 (lf o0) (lf o0)) (nd o158 (lf o242) .nil)))) (nd o1 (nd o0 (nd o0 (nd o0 (lf o172) (lf o261)) (nd o130 (lf o217) .nil)) (nd o0 (nd o103 (lf o195) (lf o282)) (nd o1 (lf o1) .nil))) (nd o32 (nd o52 (nd o89 (lf o0) (lf o0)) (nd o143 (lf o229) .nil)) (nd o71 (nd o0 (lf o204) .nil) (nd o0 (lf o249) .nil))))))))
noncomputable def tree10 (P : Params) : BT := (nd (b0 P) (nd (b1 P) (nd (o290 P) (nd (b7 P) (nd o0 (nd o14 (nd o33 (nd o72 (nd o163 (lf o0) .nil) (lf o250)) (nd (o119 P) (lf o205) (lf o294))) (nd o0 (nd o0 (lf o1) (lf o1)) (nd o0 (lf o0) (lf o312)))) (nd o23 (nd o1 (nd o1 (lf o173) (lf o262)) (nd o131 (lf o0) (lf o303))) (nd o62 (nd o104 (lf o0) (lf o0)) (nd o154 (lf o238) (lf o322))))) (nd o1 (nd o0 (nd o0 (nd o0 (nd o168 (lf o336) .nil) (lf o257)) (nd o126 (lf o210) (lf o299))) (nd o0 (nd o99 (lf o191) (lf o277)) (nd o97 (lf o1) (lf o317)))) (nd o28 (nd o46 (nd o85 (lf o0) (lf o0)) (nd o136 (lf o225) (lf o0))) (nd o67 (nd o115 (lf o200) (lf o287)) (nd o0 (lf o0) (lf o326)))))) (nd o0 (nd o7 (nd o17 (nd o0 (nd o0 (nd o1 (lf o0) .nil) (lf o97)) (nd o0 (lf o207) (lf o296))) (nd o56 (nd o96 (lf o189) (lf o273)) (nd o145 (lf o231) (lf o1)))) (nd o1 (nd o44 (nd o83 (lf o177) (lf o0)) (nd o133 (lf o221) (lf o306))) (nd o1 (nd o114 (lf o0) (lf o0)) (nd o157 (lf o241) (lf o324))))) (nd o12 (nd o0 (nd o39 (nd o78 (lf o170) (lf o0)) (nd o1 (lf o214) (lf o301))) (nd o0 (nd o1 (lf o194) (lf o281)) (nd o152 (lf o236) (lf o319)))) (nd o30 (nd o49 (nd o88 (lf o184) (lf o268)) (nd o140 (lf o0) (lf o0))) (nd o69 (nd o1 (lf o1) (lf o1)) (nd o0 (lf o246) (lf o329))))))) (nd (b5 P) (nd (b9 P) (nd o6 (nd o15 (nd o1 (nd o1 (nd o165 (lf o332) .nil) (lf o252)) (nd o121 (lf o0) (lf o0))) (nd o54 (nd o91 (lf o0) (lf o0)) (nd o144 (lf o230) (lf o314)))) (nd o25 (nd o0 (nd o0 (lf (o175 P)) (lf o1)) (nd o0 (lf (o220 P)) (lf o304))) (nd o64 (nd o106 (lf o197) (lf o284)) (nd o155 (lf o239) (lf o1))))) (nd o0 (nd o20 (nd o38 (nd o77 (lf o0) (lf o0)) (nd o128 (lf (o212 P)) (lf o1))) (nd o59 (nd o101 (lf o192) (lf o279)) (nd o0 (lf o0) (lf o0)))) (nd o0 (nd o47 (nd o86 (lf (o183 P)) (lf o267)) (nd (o138 P) (lf o1) (lf o309))) (nd o0 (nd (o116 P) (lf o202) (lf o289)) (nd o160 (lf o244) (lf o327)))))) (nd o2 (nd o9 (nd o1 (nd o36 (nd o75 (nd o0 (lf o334) .nil) (lf o0)) (nd (o125 P) (lf o208) (lf o297))) (nd o1 (nd (o98 P) (lf o0) (lf o275)) (nd o147 (lf o233) (lf o0)))) (nd o0 (nd o0 (nd o0 (lf o179) (lf o265)) (nd o134 (lf o223) (lf o1))) (nd o0 (nd o110 (lf o199) (lf o286)) (nd o1 (lf o1) (lf o0))))) (nd o0 (nd o22 (nd o41 (nd o80 (lf o171) (lf o260)) (nd o0 (lf o216) (lf o0))) (nd o61 (nd o0 (lf o1) (lf o1)) (nd o0 (lf o0) (lf o320)))) (nd o31 (nd o1 (nd o1 (lf o186) (lf o270)) (nd o142 (lf o228) (lf o311))) (nd o70 (nd o118 (lf o0) (lf o0)) (nd o162 (lf o248) (lf o1)))))))) (nd (o93 P) (nd (b4 P) (nd (b8 P) (nd o1 (nd o0 (nd o0 (nd o0 (nd o164 (lf o331) .nil) (lf o251)) (nd o120 (lf o206) (lf o295))) (nd o53 (nd o90 (lf o187) (lf o271)) (nd o1 (lf o1) (lf o313)))) (nd o24 (nd o42 (nd o81 (lf o174) (lf o0)) (nd o132 (lf o97) (lf o0))) (nd o63 (nd o105 (lf o196) (lf o283)) (nd o0 (lf o0) (lf o0))))) (nd o10 (nd o19 (nd o1 (nd o1 (lf o169) (lf o258)) (nd o127 (lf o211) (lf o0))) (nd o58 (nd o100 (lf o0) (lf o278)) (nd (o150 P) (lf o234) (lf o318)))) (nd o29 (nd o0 (nd o0 (lf o97) (lf o1)) (nd o137 (lf o0) (lf o308))) (nd o68 (nd o97 (lf o201) (lf o288)) (nd o159 (lf o243) (lf o0)))))) (nd o291 (nd o8 (nd o0 (nd o35 (nd o74 (nd o166 (lf o1) .nil) (lf (o255 P))) (nd o97 (lf o0) (lf o0))) (nd o0 (nd o97 (lf o190) (lf o274)) (nd o146 (lf o232) (lf o315)))) (nd o26 (nd o45 (nd o84 (lf o178) (lf o264)) (nd o0 (lf o222) (lf o0))) (nd o65 (nd o109 (lf o1) (lf o1)) (nd o0 (lf o0) (lf o325))))) (nd o13 (nd o1 (nd o40 (nd o79 (lf o0) (lf o1)) (nd o129 (lf o215) (lf o302))) (nd o1 (nd o102 (lf o0) (lf o0)) (nd o153 (lf o237) (lf o0)))) (nd o0 (nd o0 (nd o0 (lf o185) (lf o269)) (nd o141 (lf o227) (lf o1))) (nd o0 (nd o117 (lf o203) (lf o292)) (nd o1 (lf (o247 P)) (lf o0))))))) (nd (b6 P) (nd (b10 P) (nd o0 (nd o16 (nd o34 (nd o73 (nd o0 (lf o333) .nil) (lf o0)) (nd o122 (lf o1) (lf o1))) (nd o55 (nd o92 (lf o188) (lf o272)) (nd o0 (lf o0) (lf o0)))) (nd o0 (nd o43 (nd o82 (lf o176) (lf o263)) (nd o1 (lf o0) (lf o305))) (nd o0 (nd (o107 P) (lf o198) (lf o285)) (nd o156 (lf o240) (lf o323))))) (nd o11 (nd o21 (nd o0 (nd o0 (lf o1) (lf o259)) (nd o0 (lf o213) (lf o300))) (nd o60 (nd o0 (lf o193) (lf o280)) (nd o151 (lf o235) (lf o1)))) (nd o1 (nd o48 (nd o87 (lf o0) (lf o0)) (nd o139 (lf o226) (lf o310))) (nd o1 (nd o0 (lf o0) (lf o0)) (nd o161 (lf o245) (lf o328)))))) (nd o3 (nd o0 (nd o18 (nd o37 (nd o76 (nd o167 (lf o335) .nil) (lf o256)) (nd o0 (lf o209) (lf o298))) (nd o57 (nd o0 (lf o1) (lf (o276 P))) (nd o0 (lf o0) (lf o316)))) (nd o27 (nd o1 (nd o1 (lf o180) (lf o266)) (nd o135 (lf o224) (lf o307))) (nd o66 (nd o111 (lf o0) (lf o0)) (nd o158 (lf o242) (lf o1))))) (nd o1 (nd o0 (nd o0 (nd o0 (lf o172) (lf o261)) (nd o130 (lf o217) (lf o1))) (nd o0 (nd o103 (lf o195) (lf o282)) (nd o1 (lf o1) (lf o321)))) (nd o32 (nd o52 (nd o89 (lf o0) (lf o0)) (nd o143 (lf o229) (lf o0))) (nd o71 (nd o0 (lf o204) (lf o293)) (nd o0 (lf o249) (lf o330)))))))))
noncomputable def tree11 (P : Params) : BT := (nd (b0 P) (nd (b1 P) (nd (o337 P) (nd (b7 P) (nd o0 (nd o14 (nd o33 (nd o72 (nd o163 (lf o0) .nil) (lf o250)) (nd (o119 P) (lf o205) (lf o294))) (nd o0 (nd o0 (nd o1 (lf o351) .nil) (lf o1)) (nd o0 (lf o0) (lf o312)))) (nd o23 (nd o1 (nd o1 (nd o173 (lf o0) .nil) (lf o262)) (nd o131 (lf o0) (lf o303))) (nd o62 (nd o104 (lf o0) (lf o0)) (nd o154 (lf o238) (lf o322))))) (nd o1 (nd o0 (nd o0 (nd o0 (nd o168 (lf o336) .nil) (lf o257)) (nd o126 (lf o210) (lf o299))) (nd o0 (nd o99 (lf o191) (lf o277)) (nd o97 (lf o1) (lf o317)))) (nd o28 (nd o46 (nd o85 (nd o0 (lf o1) .nil) (lf o0)) (nd o136 (lf o225) (lf o0))) (nd o67 (nd o115 (lf o200) (lf o287)) (nd o0 (lf o0) (lf o326)))))) (nd o0 (nd o7 (nd o17 (nd o0 (nd o0 (nd o1 (lf o0) .nil) (lf o97)) (nd o0 (lf o207) (lf o296))) (nd o56 (nd o96 (nd o189 (lf o354) .nil) (lf o273)) (nd o145 (lf o231) (lf o1)))) (nd o1 (nd o44 (nd o83 (nd o177 (lf o344) .nil) (lf o0)) (nd o133 (lf o221) (lf o306))) (nd o1 (nd o114 (lf o0) (lf o0)) (nd o157 (lf o241) (lf o324))))) (nd o12 (nd o0 (nd o39 (nd o78 (nd o170 (lf o0) .nil) (lf o0)) (nd o1 (lf o214) (lf o301))) (nd o0 (nd o1 (lf o194) (lf o281)) (nd o152 (lf o236) (lf o319)))) (nd o30 (nd o49 (nd o88 (nd o184 (lf o349) .nil) (lf o268)) (nd o140 (lf o0) (lf o0))) (nd o69 (nd o1 (lf o1) (lf o1)) (nd o0 (lf o246) (lf o329))))))) (nd (b5 P) (nd (b9 P) (nd o6 (nd o15 (nd o1 (nd o1 (nd o165 (lf o332) .nil) (lf o252)) (nd o121 (lf o0) (lf o0))) (nd o54 (nd o91 (nd o0 (lf o352) .nil) (lf o0)) (nd o144 (lf o230) (lf o314)))) (nd o25 (nd o0 (nd o0 (nd (o175 P) (lf o343) .nil) (lf o1)) (nd o0 (lf (o220 P)) (lf o304))) (nd o64 (nd o106 (lf o197) (lf o284)) (nd o155 (lf o239) (lf o1))))) (nd o0 (nd o20 (nd o38 (nd o77 (nd o0 (lf o1) .nil) (lf o0)) (nd o128 (lf (o212 P)) (lf o1))) (nd o59 (nd o101 (lf o192) (lf o279)) (nd o0 (lf o0) (lf o0)))) (nd o0 (nd o47 (nd o86 (nd (o183 P) (lf o0) .nil) (lf o267)) (nd (o138 P) (lf o1) (lf o309))) (nd o0 (nd (o116 P) (lf o202) (lf o289)) (nd o160 (lf o244) (lf o327)))))) (nd o2 (nd o9 (nd o1 (nd o36 (nd o75 (nd o0 (lf o334) .nil) (lf o0)) (nd (o125 P) (lf o208) (lf o297))) (nd o1 (nd (o98 P) (lf o0) (lf o275)) (nd o147 (lf o233) (lf o0)))) (nd o0 (nd o0 (nd o0 (nd o179 (lf o346) .nil) (lf o265)) (nd o134 (lf o223) (lf o1))) (nd o0 (nd o110 (lf o199) (lf o286)) (nd o1 (lf o1) (lf o0))))) (nd o0 (nd o22 (nd o41 (nd o80 (nd o171 (lf o341) .nil) (lf o260)) (nd o0 (lf o216) (lf o0))) (nd o61 (nd o0 (lf o1) (lf o1)) (nd o0 (lf o0) (lf o320)))) (nd o31 (nd o1 (nd o1 (nd o186 (lf o0) .nil) (lf o270)) (nd o142 (lf o228) (lf o311))) (nd o70 (nd o118 (lf o0) (lf o0)) (nd o162 (lf o248) (lf o1)))))))) (nd (o93 P) (nd (b4 P) (nd (b8 P) (nd o1 (nd o0 (nd o0 (nd o0 (nd o164 (lf o331) .nil) (lf o251)) (nd o120 (lf o206) (lf o295))) (nd o53 (nd o90 (nd o187 (lf o0) .nil) (lf o271)) (nd o1 (lf o1) (lf o313)))) (nd o24 (nd o42 (nd o81 (nd o174 (lf o1) .nil) (lf o0)) (nd o132 (lf o97) (lf o0))) (nd o63 (nd o105 (lf o196) (lf o283)) (nd o0 (lf o0) (lf o0))))) (nd o10 (nd o19 (nd o1 (nd o1 (nd o169 (lf o0) .nil) (lf o258)) (nd o127 (lf o211) (lf o0))) (nd o58 (nd o100 (lf o0) (lf o278)) (nd (o150 P) (lf o234) (lf o318)))) (nd o29 (nd o0 (nd o0 (nd o97 (lf o347) .nil) (lf o1)) (nd o137 (lf o0) (lf o308))) (nd o68 (nd o97 (lf o201) (lf o288)) (nd o159 (lf o243) (lf o0)))))) (nd o338 (nd o8 (nd o0 (nd o35 (nd o74 (nd o166 (lf o1) .nil) (lf (o255 P))) (nd o97 (lf o0) (lf o0))) (nd o0 (nd o97 (lf o190) (lf o274)) (nd o146 (lf o232) (lf o315)))) (nd o26 (nd o45 (nd o84 (nd o178 (lf o345) .nil) (lf o264)) (nd o0 (lf o222) (lf o0))) (nd o65 (nd o109 (lf o1) (lf o1)) (nd o0 (lf o0) (lf o325))))) (nd o13 (nd o1 (nd o40 (nd o79 (nd o0 (lf o340) .nil) (lf o1)) (nd o129 (lf o215) (lf o302))) (nd o1 (nd o102 (lf o0) (lf o0)) (nd o153 (lf o237) (lf o0)))) (nd o0 (nd o0 (nd o0 (nd o185 (lf o350) .nil) (lf o269)) (nd o141 (lf o227) (lf o1))) (nd o0 (nd o117 (lf o203) (lf o292)) (nd o1 (lf (o247 P)) (lf o0))))))) (nd (b6 P) (nd (b10 P) (nd o0 (nd o16 (nd o34 (nd o73 (nd o0 (lf o333) .nil) (lf o0)) (nd o122 (lf o1) (lf o1))) (nd o55 (nd o92 (nd o188 (lf o353) .nil) (lf o272)) (nd o0 (lf o0) (lf o0)))) (nd o0 (nd o43 (nd o82 (nd o176 (lf o0) .nil) (lf o263)) (nd o1 (lf o0) (lf o305))) (nd o0 (nd (o107 P) (lf o198) (lf o285)) (nd o156 (lf o240) (lf o323))))) (nd o11 (nd o21 (nd o0 (nd o0 (nd o1 (lf o339) .nil) (lf o259)) (nd o0 (lf o213) (lf o300))) (nd o60 (nd o0 (lf o193) (lf o280)) (nd o151 (lf o235) (lf o1)))) (nd o1 (nd o48 (nd o87 (nd o0 (lf o348) .nil) (lf o0)) (nd o139 (lf o226) (lf o310))) (nd o1 (nd o0 (lf o0) (lf o0)) (nd o161 (lf o245) (lf o328)))))) (nd o3 (nd o0 (nd o18 (nd o37 (nd o76 (nd o167 (lf o335) .nil) (lf o256)) (nd o0 (lf o209) (lf o298))) (nd o57 (nd o0 (lf o1) (lf (o276 P))) (nd o0 (lf o0) (lf o316)))) (nd o27 (nd o1 (nd o1 (nd o180 (lf o0) .nil) (lf o266)) (nd o135 (lf o224) (lf o307))) (nd o66 (nd o111 (lf o0) (lf o0)) (nd o158 (lf o242) (lf o1))))) (nd o1 (nd o0 (nd o0 (nd o0 (nd o172 (lf o342) .nil) (lf o261)) (nd o130 (lf o217) (lf o1))) (nd o0 (nd o103 (lf o195) (lf o282)) (nd o1 (lf o1) (lf o321)))) (nd o32 (nd o52 (nd o89 (nd o0 (lf o1) .nil) (lf o0)) (nd o143 (lf o229) (lf o0))) (nd o71 (nd o0 (lf o204) (lf o293)) (nd o0 (lf o249) (lf o330)))))))))
noncomputable def heapZ (P : Params) : Heap := ⟨⟨[(b0 P), (b1 P), (o93 P), (o337 P), (b4 P), (b5 P), (b6 P), (b7 P), (b8 P), (b9 P), (b10 P), o0, o338, o2, o3, o0, o1, o6, o0, o7, o8, o9, o0, o1, o10, o0, o11, o12, o13, o0, o1, o14, o0, o15, o16, o17, o0, o1, o18, o0, o19, o20, o21, o0, o1, o22, o0, o23, o24, o25, o0, o1, o26, o0, o27, o28, o29, o0, o1, o30, o0, o31, o32, o33, o0, o1, o34, o0, o35, o36, o37, o0, o1, o38, o0, o39, o40, o41, o0, o1, o42, o0, o43, o44, o45, o0, o1, o46, o0, o47, o48, o49, o0, o1, o52, o0, o53, o54, o55, o56, o0, o1, o57, o0, o58, o59, o60, o0, o1, o61, o0, o62, o63, o64, o0, o1, o65, o0, o66, o67, o68, o0, o1, o69, o0, o70, o71, o72, o0, o1, o73, o0, o74, o75, o76, o0, o1, o77, o0, o78, o79, o80, o0, o1, o81, o0, o82, o83, o84, o0, o1, o85, o0, o86, o87, o88, o0, o1, o89, o0, o90, o91, o92, o96, o97, (o98 P), o0, o99, o100, o101, o0, o1, o102, o0, o103, o104, o105, o106, (o107 P), o114, o109, o110, o111, o115, o97, (o116 P), o0, o1, o117, o118, o0, (o119 P), o120, o121, o122, o0, o97, (o125 P), o0, o126, o127, o128, o0, o1, o129, o0, o130, o131, o132, o0, o1, o133, o0, o134, o135, o136, o137, (o138 P), o139, o140, o141, o142, o143, o0, o1, o144, o0, o145, o146, o147, o0, o97, (o150 P), o0, o151, o152, o153, o0, o1, o154, o0, o155, o156, o157, o0, o1, o158, o0, o159, o160, o161, o0, o1, o162, o0, o163, o164, o165, o0, o1, o166, o0, o167, o168, o169, o0, o1, o170, o0, o171, o172, o173, o174, (o175 P), o176, o177, o178, o179, o180, o0, o97, (o183 P), o0, o184, o185, o186, o0, o1, o187, o0, o188, o189, o190, o0, o1, o191, o0, o192, o193, o194, o0, o1, o195, o0, o196, o197, o198, o0, o1, o199, o0, o200, o201, o202, o0, o1, o203, o0, o204, o205, o206, o0, o1, o207, o0, o208, o209, o210, o211, (o212 P), o213, o214, o215, o216, o217, o0, o97, (o220 P), o0, o221, o222, o223, o224, o225, o0, o1, o226, o0, o227, o228, o229, o0, o1, o230, o0, o231, o232, o233, o0, o1, o234, o0, o235, o236, o237, o0, o1, o238, o0, o239, o240, o241, o0, o1, o242, o0, o243, o244, o245, o246, (o247 P), o248, o249, o250, o251, o252, o0, o97, (o255 P), o0, o256, o257, o258, o0, o259, o0, o1, o260, o261, o262, o0, o1, o263, o0, o264, o265, o266, o0, o1, o267, o0, o268, o269, o270, o0, o1, o271, o0, o272, o273, o274, o275, (o276 P), o277, o278, o279, o280, o281, o0, o1, o282, o0, o283, o284, o285, o0, o1, o286, o0, o287, o288, o289, o0, o1, o292, o0, o293, o294, o295, o0, o1, o296, o0, o297, o298, o299, o0, o1, o300, o301, o302, o0, o1, o303, o0, o304, o305, o306, o0, o1, o307, o0, o308, o309, o310, o0, o1, o311, o0, o312, o313, o314, o0, o1, o315, o0, o316, o317, o318, o0, o1, o319, o0, o320, o321, o322, o0, o1, o323, o324, o325, o0, o1, o326, o0, o327, o328, o329, o0, o1, o330, o0, o331, o332, o333, o0, o1, o334, o335, o336, o0, o1, o339, o0, o340, o341, o342, o0, o1, o343, o0, o344, o345, o346, o0, o1, o347, o0, o348, o349, o350, o0, o1, o351, o0, o352, o353, o354]⟩, {}⟩
noncomputable def envT : Env := { scope := pw.main.scope, locals := mainNs, globals := mainNs, cells := [], code := .ref 13, frame := some 14 }
noncomputable def bT : List Stmt := behindTheImports pw
noncomputable def cT : Code := .body bT envT
noncomputable def pcs (a n : Nat) : List Stmt := (bT.drop a).take n
noncomputable def stT (t : BT) (n k : Nat) (os : OsState) : SharedT := ⟨t, n, {}, #[], {}, k, os⟩
noncomputable abbrev an : Option Value := some (.ref 6)
noncomputable abbrev fr0 : List Frame := [topFrame ⟨0, 0, 0, 0⟩]
theorem cv {p : Program} {w : World} {n : Nat} {s : SharedT} {t : Thread} {r : Option (Flow × SharedT × Code × Pos)} (h : PySem.W.Fast.tw10110043849684766642 PySem.W.Fast.tw14364793385576792824 p w 11 an 1 n s t = r) : segRunT treeTable p w 11 an 1 n s t = r := by
  rw [PySem.W.Fast.te10110043849684766642, PySem.W.Fast.te14364793385576792824]; exact h
theorem p1 (w : World) (os : OsState) : segRunT treeTable pw w 11 an 1 372 (stT (tree0 w.params) 15 187 os) (piecesOf (pcs 0 14) envT cT ⟨0, 0, 0, 0⟩ fr0) = some (.next, stT (tree1 w.params) 92 295 os, cT, ⟨37, 0, 45, 29⟩) := cv (by kernel_rfl)
theorem p2 (w : World) (os : OsState) : segRunT treeTable pw w 11 an 1 378 (stT (tree1 w.params) 92 295 os) (piecesOf (pcs 14 13) envT cT ⟨37, 0, 45, 29⟩ fr0) = some (.next, stT (tree2 w.params) 163 429 os, cT, ⟨120, 0, 120, 8⟩) := cv (by kernel_rfl)
theorem p3 (w : World) (os : OsState) : segRunT treeTable pw w 11 an 1 229 (stT (tree2 w.params) 163 429 os) (piecesOf (pcs 27 1) envT cT ⟨120, 0, 120, 8⟩ fr0) = some (.next, stT (tree3 w.params) 183 458 os, cT, ⟨121, 0, 124, 30⟩) := cv (by kernel_rfl)
theorem p4 (w : World) (os : OsState) : segRunT treeTable pw w 11 an 1 223 (stT (tree3 w.params) 183 458 os) (piecesOf (pcs 28 2) envT cT ⟨121, 0, 124, 30⟩ fr0) = some (.next, stT (tree4 w.params) 195 476 os, cT, ⟨127, 0, 127, 8⟩) := cv (by kernel_rfl)
theorem p5 (w : World) (os : OsState) : segRunT treeTable pw w 11 an 1 309 (stT (tree4 w.params) 195 476 os) (piecesOf (pcs 30 4) envT cT ⟨127, 0, 127, 8⟩ fr0) = some (.next, stT (tree5 w.params) 230 531 os, cT, ⟨144, 0, 144, 9⟩) := cv (by kernel_rfl)
theorem p6 (w : World) (os : OsState) : segRunT treeTable pw w 11 an 1 379 (stT (tree5 w.params) 230 531 os) (piecesOf (pcs 34 2) envT cT ⟨144, 0, 144, 9⟩ fr0) = some (.next, stT (tree6 w.params) 279 613 os, cT, ⟨181, 0, 181, 8⟩) := cv (by kernel_rfl)
theorem p7 (w : World) (os : OsState) : segRunT treeTable pw w 11 an 1 381 (stT (tree6 w.params) 279 613 os) (piecesOf (pcs 36 1) envT cT ⟨181, 0, 181, 8⟩ fr0) = some (.next, stT (tree7 w.params) 335 680 os, cT, ⟨182, 0, 205, 16⟩) := cv (by kernel_rfl)
theorem p8 (w : World) (os : OsState) : segRunT treeTable pw w 11 an 1 381 (stT (tree7 w.params) 335 680 os) (piecesOf (pcs 37 2) envT cT ⟨182, 0, 205, 16⟩ fr0) = some (.next, stT (tree8 w.params) 386 761 os, cT, ⟨233, 0, 233, 8⟩) := cv (by kernel_rfl)
theorem p9 (w : World) (os : OsState) : segRunT treeTable pw w 11 an 1 393 (stT (tree8 w.params) 386 761 os) (piecesOf (pcs 39 4) envT cT ⟨233, 0, 233, 8⟩ fr0) = some (.next, stT (tree9 w.params) 442 836 os, cT, ⟨260, 0, 266, 37⟩) := cv (by kernel_rfl)
theorem p10 (w : World) (os : OsState) : segRunT treeTable pw w 11 an 1 375 (stT (tree9 w.params) 442 836 os) (piecesOf (pcs 43 12) envT cT ⟨260, 0, 266, 37⟩ fr0) = some (.next, stT (tree10 w.params) 520 952 os, cT, ⟨330, 0, 343, 13⟩) := cv (by kernel_rfl)
theorem p11 (w : World) (os : OsState) : segRunT treeTable pw w 11 an 1 143 (stT (tree10 w.params) 520 952 os) (piecesOf (pcs 55 4) envT cT ⟨330, 0, 343, 13⟩ fr0) = some (.next, stT (tree11 w.params) 548 1006 os, cT, ⟨374, 0, 387, 65⟩) := cv (by kernel_rfl)
theorem cvB {p : Program} {w : World} {n : Nat} {s : Shared} {t : Thread} {r : Option (Flow × Shared × Code × Pos)} (h : PySem.W.Fast.tw14374325043358763698 PySem.W.Fast.tw14364793385576792824 p w 11 an 1 n s t = r) : segRun treeTable p w 11 an 1 n s t = r := by
  rw [PySem.W.Fast.te14374325043358763698, PySem.W.Fast.te14364793385576792824]; exact h
theorem cvF {p : Program} {w : World} {n : Nat} {s : Shared} {t : Thread} {r : Option Shared} (h : PySem.W.Fast.tw14082659384304107361 PySem.W.Fast.tw14364793385576792824 p w 11 an n s t = r) : topRun treeTable p w 11 an n s t = r := by
  rw [PySem.W.Fast.te14082659384304107361, PySem.W.Fast.te14364793385576792824]; exact h
theorem pA (w : World) (os : OsState) : topGo treeTable pw w 11 an 12 ⟨boot_heap w.params, #[], boot_drawn, boot_toks, os⟩ (topStub pw) = some (⟨heapA w.params, #[], {}, 187, os⟩, ⟨denote treeTable cT, cT, ⟨0, 0, 0, 0⟩, fr0⟩) := by
  rw [PySem.W.Fast.te15667345088766844465, PySem.W.Fast.te11892475500146522536, PySem.W.Fast.te14364793385576792824]; kernel_rfl
theorem pB (w : World) (os : OsState) : segRun treeTable pw w 11 an 1 1 ⟨heapA w.params, #[], {}, 187, os⟩ (blockOf bT envT cT ⟨0, 0, 0, 0⟩ fr0) = some (.next, (stT (tree0 w.params) 15 187 os).abs, cT, ⟨0, 0, 0, 0⟩) := cvB (by kernel_rfl)
theorem pF (w : World) (os : OsState) : topRun treeTable pw w 11 an 2 (stT (tree11 w.params) 548 1006 os).abs ⟨doneF .next, cT, ⟨374, 0, 387, 65⟩, fr0⟩ = some ⟨heapZ w.params, #[], {}, 1006, os⟩ := cvF (by kernel_rfl)
theorem piece_at {w : World} {n N a k : Nat} {s s' r : Shared} {pos p' : Pos} (h : segRun treeTable pw w 11 an 1 n s (piecesOf (pcs a k) envT cT pos fr0) = some (.next, s', cT, p'))
    (g : topRun treeTable pw w 11 an N s' (restOf (bT.drop (a + k)) envT cT p' fr0) = some r) : topRun treeTable pw w 11 an (n + N) s (restOf (bT.drop a) envT cT pos fr0) = some r := by
  have e : bT.drop a = pcs a k ++ bT.drop (a + k) := by
    unfold pcs; rw [← List.drop_drop]; exact (List.take_append_drop k _).symm
  rw [e]
  exact piece_app h g
theorem bT_len : bT.drop 59 = [] := by kernel_rfl
theorem c11 (w : World) (os : OsState) : topRun treeTable pw w 11 an 145 (stT (tree10 w.params) 520 952 os).abs (restOf (bT.drop 55) envT cT ⟨330, 0, 343, 13⟩ fr0) = some ⟨heapZ w.params, #[], {}, 1006, os⟩ :=
  piece_at (n := 143) (N := 2) (a := 55) (k := 4) (segRun_of (p11 w os)) (by rw [bT_len]; exact piece_nil (pF w os))
theorem c10 (w : World) (os : OsState) : topRun treeTable pw w 11 an 520 (stT (tree9 w.params) 442 836 os).abs (restOf (bT.drop 43) envT cT ⟨260, 0, 266, 37⟩ fr0) = some ⟨heapZ w.params, #[], {}, 1006, os⟩ :=
  piece_at (n := 375) (N := 145) (a := 43) (k := 12) (segRun_of (p10 w os)) (c11 w os)
theorem c9 (w : World) (os : OsState) : topRun treeTable pw w 11 an 913 (stT (tree8 w.params) 386 761 os).abs (restOf (bT.drop 39) envT cT ⟨233, 0, 233, 8⟩ fr0) = some ⟨heapZ w.params, #[], {}, 1006, os⟩ :=
  piece_at (n := 393) (N := 520) (a := 39) (k := 4) (segRun_of (p9 w os)) (c10 w os)
theorem c8 (w : World) (os : OsState) : topRun treeTable pw w 11 an 1294 (stT (tree7 w.params) 335 680 os).abs (restOf (bT.drop 37) envT cT ⟨182, 0, 205, 16⟩ fr0) = some ⟨heapZ w.params, #[], {}, 1006, os⟩ :=
  piece_at (n := 381) (N := 913) (a := 37) (k := 2) (segRun_of (p8 w os)) (c9 w os)
theorem c7 (w : World) (os : OsState) : topRun treeTable pw w 11 an 1675 (stT (tree6 w.params) 279 613 os).abs (restOf (bT.drop 36) envT cT ⟨181, 0, 181, 8⟩ fr0) = some ⟨heapZ w.params, #[], {}, 1006, os⟩ :=
  piece_at (n := 381) (N := 1294) (a := 36) (k := 1) (segRun_of (p7 w os)) (c8 w os)
theorem c6 (w : World) (os : OsState) : topRun treeTable pw w 11 an 2054 (stT (tree5 w.params) 230 531 os).abs (restOf (bT.drop 34) envT cT ⟨144, 0, 144, 9⟩ fr0) = some ⟨heapZ w.params, #[], {}, 1006, os⟩ :=
  piece_at (n := 379) (N := 1675) (a := 34) (k := 2) (segRun_of (p6 w os)) (c7 w os)
theorem c5 (w : World) (os : OsState) : topRun treeTable pw w 11 an 2363 (stT (tree4 w.params) 195 476 os).abs (restOf (bT.drop 30) envT cT ⟨127, 0, 127, 8⟩ fr0) = some ⟨heapZ w.params, #[], {}, 1006, os⟩ :=
  piece_at (n := 309) (N := 2054) (a := 30) (k := 4) (segRun_of (p5 w os)) (c6 w os)
theorem c4 (w : World) (os : OsState) : topRun treeTable pw w 11 an 2586 (stT (tree3 w.params) 183 458 os).abs (restOf (bT.drop 28) envT cT ⟨121, 0, 124, 30⟩ fr0) = some ⟨heapZ w.params, #[], {}, 1006, os⟩ :=
  piece_at (n := 223) (N := 2363) (a := 28) (k := 2) (segRun_of (p4 w os)) (c5 w os)
theorem c3 (w : World) (os : OsState) : topRun treeTable pw w 11 an 2815 (stT (tree2 w.params) 163 429 os).abs (restOf (bT.drop 27) envT cT ⟨120, 0, 120, 8⟩ fr0) = some ⟨heapZ w.params, #[], {}, 1006, os⟩ :=
  piece_at (n := 229) (N := 2586) (a := 27) (k := 1) (segRun_of (p3 w os)) (c4 w os)
theorem c2 (w : World) (os : OsState) : topRun treeTable pw w 11 an 3193 (stT (tree1 w.params) 92 295 os).abs (restOf (bT.drop 14) envT cT ⟨37, 0, 45, 29⟩ fr0) = some ⟨heapZ w.params, #[], {}, 1006, os⟩ :=
  piece_at (n := 378) (N := 2815) (a := 14) (k := 13) (segRun_of (p2 w os)) (c3 w os)
theorem c1 (w : World) (os : OsState) : topRun treeTable pw w 11 an 3565 (stT (tree0 w.params) 15 187 os).abs (restOf (bT.drop 0) envT cT ⟨0, 0, 0, 0⟩ fr0) = some ⟨heapZ w.params, #[], {}, 1006, os⟩ :=
  piece_at (n := 372) (N := 3193) (a := 0) (k := 14) (segRun_of (p1 w os)) (c2 w os)
theorem runs (w : World) (os : OsState) : topRun treeTable pw w 11 an 3578 ⟨boot_heap w.params, #[], boot_drawn, boot_toks, os⟩ (topStub pw) = some ⟨heapZ w.params, #[], {}, 1006, os⟩ :=
  go_top (n := 12) (N := 3566) (pA w os) (piece_block (n := 1) (N := 3565) (pB w os) (c1 w os))
noncomputable def heap_39 (P : Params) : Frag := [(2, o93 P), (3, o337 P), (15, o0), (17, o6), (18, o0), (20, o8), (21, o9), (22, o0), (24, o10), (25, o0), (27, o12), (28, o13), (29, o0), (31, o14), (32, o0), (34, o16), (35, o17), (36, o0), (38, o18), (39, o0), (41, o20), (42, o21), (43, o0), (45, o22), (46, o0), (48, o24), (49, o25), (50, o0), (52, o26), (53, o0), (55, o28), (56, o29), (57, o0), (59, o30), (60, o0), (62, o32), (63, o33), (64, o0), (66, o34), (67, o0), (69, o36), (70, o37), (71, o0), (73, o38), (74, o0), (76, o40), (77, o41), (78, o0), (80, o42), (81, o0), (83, o44), (84, o45), (85, o0), (87, o46), (88, o0), (90, o48), (91, o49), (92, o0), (94, o52), (95, o0), (97, o54), (98, o55), (99, o56), (100, o0), (102, o57), (103, o0), (105, o59), (106, o60), (107, o0), (109, o61), (110, o0), (112, o63), (113, o64), (114, o0), (116, o65), (117, o0), (119, o67), (120, o68), (121, o0), (123, o69), (124, o0), (126, o71), (127, o72), (128, o0), (130, o73), (131, o0), (133, o75), (134, o76), (135, o0), (137, o77), (138, o0), (140, o79), (141, o80), (142, o0), (144, o81), (145, o0), (147, o83), (148, o84), (149, o0), (151, o85), (152, o0), (154, o87), (155, o88), (156, o0), (158, o89), (159, o0), (161, o91), (162, o92), (163, o96), (170, o0), (172, o102), (173, o0), (175, o104), (176, o105), (177, o106), (178, o107 P), (179, o114), (180, o109), (183, o115), (190, o0), (191, o119 P), (192, o120), (202, o0), (204, o129), (205, o0), (207, o131), (208, o132), (209, o0), (211, o133), (212, o0), (214, o135), (215, o136), (216, o137), (217, o138 P), (218, o139), (219, o140), (220, o141), (223, o0), (225, o144), (226, o0), (228, o146), (229, o147), (237, o0), (239, o154), (240, o0), (242, o156), (243, o157), (244, o0), (246, o158), (247, o0), (249, o160), (250, o161), (251, o0), (253, o162), (254, o0), (256, o164), (257, o165), (258, o0), (260, o166), (261, o0), (263, o168), (264, o169), (265, o0), (267, o170), (268, o0), (270, o172), (271, o173), (272, o174), (273, o175 P), (274, o176), (275, o177), (276, o178), (286, o0), (288, o187), (289, o0), (291, o189), (292, o190), (293, o0), (295, o191), (296, o0), (298, o193), (299, o194), (300, o0), (302, o195), (303, o0), (305, o197), (306, o198), (307, o0), (309, o199), (310, o0), (312, o201), (313, o202), (314, o0), (316, o203), (317, o0), (319, o205), (320, o206), (321, o0), (323, o207), (324, o0), (326, o209), (327, o210), (328, o211), (329, o212 P), (330, o213), (331, o214), (332, o215), (342, o224), (343, o225), (344, o0), (346, o226), (347, o0), (349, o228), (350, o229), (351, o0), (353, o230), (354, o0), (356, o232), (357, o233), (358, o0), (360, o234), (361, o0), (363, o236), (364, o237), (365, o0), (367, o238), (368, o0), (370, o240), (371, o241), (372, o0), (374, o242), (375, o0), (377, o244), (378, o245), (379, o246), (380, o247 P), (381, o248), (382, o249), (383, o250), (393, o0), (394, o259), (395, o0), (398, o261), (399, o262), (400, o0), (402, o263), (403, o0), (405, o265), (406, o266), (407, o0), (409, o267), (410, o0), (412, o269), (413, o270), (414, o0), (416, o271), (417, o0), (419, o273), (420, o274), (421, o275), (422, o276 P), (423, o277), (424, o278), (425, o279), (428, o0), (430, o282), (431, o0), (433, o284), (434, o285), (435, o0), (437, o286), (438, o0), (440, o288), (441, o289), (442, o0), (444, o292), (445, o0), (447, o294), (448, o295), (449, o0), (451, o296), (452, o0), (454, o298), (455, o299), (456, o0), (459, o301), (460, o302), (461, o0), (463, o303), (464, o0), (466, o305), (467, o306), (468, o0), (470, o307), (471, o0), (473, o309), (474, o310), (475, o0), (477, o311), (478, o0), (480, o313), (481, o314), (482, o0), (484, o315), (485, o0), (487, o317), (488, o318), (489, o0), (491, o319), (492, o0), (494, o321), (495, o322), (496, o0), (499, o324), (500, o325), (501, o0), (503, o326), (504, o0), (506, o328), (507, o329), (508, o0), (510, o330), (511, o0), (513, o332), (514, o333), (515, o0), (518, o335), (519, o336), (520, o0), (522, o339), (523, o0), (525, o341), (526, o342), (527, o0), (529, o343), (530, o0), (532, o345), (533, o346), (534, o0), (536, o347), (537, o0), (539, o349), (540, o350), (541, o0), (543, o351), (544, o0), (546, o353), (547, o354)]
noncomputable def asK : List Addr := [2, 3, 15, 17, 18, 20, 21, 22, 24, 25, 27, 28, 29, 31, 32, 34, 35, 36, 38, 39, 41, 42, 43, 45, 46, 48, 49, 50, 52, 53, 55, 56, 57, 59, 60, 62, 63, 64, 66, 67, 69, 70, 71, 73, 74, 76, 77, 78, 80, 81, 83, 84, 85, 87, 88, 90, 91, 92, 94, 95, 97, 98, 99, 100, 102, 103, 105, 106, 107, 109, 110, 112, 113, 114, 116, 117, 119, 120, 121, 123, 124, 126, 127, 128, 130, 131, 133, 134, 135, 137, 138, 140, 141, 142, 144, 145, 147, 148, 149, 151, 152, 154, 155, 156, 158, 159, 161, 162, 163, 170, 172, 173, 175, 176, 177, 178, 179, 180, 183, 190, 191, 192, 202, 204, 205, 207, 208, 209, 211, 212, 214, 215, 216, 217, 218, 219, 220, 223, 225, 226, 228, 229, 237, 239, 240, 242, 243, 244, 246, 247, 249, 250, 251, 253, 254, 256, 257, 258, 260, 261, 263, 264, 265, 267, 268, 270, 271, 272, 273, 274, 275, 276, 286, 288, 289, 291, 292, 293, 295, 296, 298, 299, 300, 302, 303, 305, 306, 307, 309, 310, 312, 313, 314, 316, 317, 319, 320, 321, 323, 324, 326, 327, 328, 329, 330, 331, 332, 342, 343, 344, 346, 347, 349, 350, 351, 353, 354, 356, 357, 358, 360, 361, 363, 364, 365, 367, 368, 370, 371, 372, 374, 375, 377, 378, 379, 380, 381, 382, 383, 393, 394, 395, 398, 399, 400, 402, 403, 405, 406, 407, 409, 410, 412, 413, 414, 416, 417, 419, 420, 421, 422, 423, 424, 425, 428, 430, 431, 433, 434, 435, 437, 438, 440, 441, 442, 444, 445, 447, 448, 449, 451, 452, 454, 455, 456, 459, 460, 461, 463, 464, 466, 467, 468, 470, 471, 473, 474, 475, 477, 478, 480, 481, 482, 484, 485, 487, 488, 489, 491, 492, 494, 495, 496, 499, 500, 501, 503, 504, 506, 507, 508, 510, 511, 513, 514, 515, 518, 519, 520, 522, 523, 525, 526, 527, 529, 530, 532, 533, 534, 536, 537, 539, 540, 541, 543, 544, 546, 547]
noncomputable def view_39 : Program := { pw with main := { pw.main with body := [sA 58] } }
noncomputable def loo : List Str := (["_wall", "ONE14", "muldiv", "cut_div", "dot14", "apart", "measured", "dual_measured", "place_of", "touch", "step_of", "shifted", "move_point", "NOUGHT", "do_gc", "do_scfs", "do_md", "crossing", "do_isect", "do_alignpts", "do_utp", "do_flippt", "do_flip_row", "MillError", "HintFault", "Rounding", "named", "LEAST_DOT", "GraphicsState", "HintStack", "HintWork", "Zone", "_law_pool", "_law_take", "_law_one", "_law_spot", "_law_begun", "_law_told", "_law_half", "_law_cut", "_law_moved", "_law_crossing", "_law_isect", "_law_align", "_law_utp", "_law_flips", "_law_scfs", "_law_measures", "_law_refused"] : List String).map Str.ofString
theorem asK_eq (P : Params) : asK = (heap_39 P).map (·.1) := by kernel_rfl
noncomputable abbrev hook : Hook := kHook heap_39 asK asK_eq
noncomputable abbrev rw1 : OpenRow := PySem.Challenge.rw_on0244_01.row
noncomputable abbrev Xt1 (s : Shared) : Bool := xlAt view_39 [] s && recOk (RowW.records rw1.toRowW) s
theorem e_open : opening pw = plainProg pw.main.scope.names := by kernel_rfl
theorem e_fence (s : Shared) : fenceModules? pw s = some s := by kernel_rfl
theorem l_size (w : World) : ((boot_heap w.params).isNs mainGlobals && (#[] : Array GenState).size == 0, (boot_heap w.params).objs.size, (boot_heap w.params).nsMap mainGlobals "__annotations__") = (true, 11, an) := by
  rw [PySem.W.Fast.te8920871248978507458]; kernel_rfl
theorem l_ok (w : World) (os : OsState) : (staticsOk (importedModules pw.main.body) (boot_heap w.params) (heapZ w.params) && namesBound pw (heapZ w.params) && gensDone ⟨heapZ w.params, #[], {}, 1006, os⟩ && laidKept (boot_heap w.params) (heapZ w.params)) = true := by
  rw [PySem.W.Fast.te5923862056798008813]; kernel_rfl
theorem l_seen (w : World) (os : OsState) : openSeen view_39 loo (importedModules pw.main.body) Xt1 true ⟨heapZ w.params, #[], {}, 1006, os⟩ = openGood view_39 loo := by
  rw [PySem.W.Fast.te4187177175401517315, PySem.W.Fast.te5923862056798008813]; kernel_rfl
theorem l_obs (w : World) (os : OsState) : hook.obs ⟨heapZ w.params, #[], {}, 1006, os⟩ = hook.val w := by kernel_rfl
theorem left : LeftO pw view_39 loo Xt1 hook.obs hook.val 7230 true :=
  LeftO.of_pieces (H₀ := boot_heap) (H₁ := heapZ) (gs₀ := #[]) (gs₁ := #[]) (d₀ := boot_drawn) (d₁ := {}) (k₀ := boot_toks) (k₁ := 1006) (m₀ := 11) (ann := an) (M := 3578) (boot_open e_open (by decide) e_fence) l_size runs (by decide)
    fun w => funext fun os => by rw [l_ok w os, l_seen w os, l_obs w os]
theorem said : PySem.Challenge.rw_on0244_01.wellSaid = true := by
  rw [PySem.W.Fast.te9446332074065402090]; kernel_rfl
noncomputable def dL : DefRec := match sA 58 with
  | .FunctionDef n ps b _ _ _ sc _ _ pos => ⟨n, ps, b, sc, pos⟩
  | s => ⟨"", ⟨[], [], none, [], [], none, []⟩, [s], { kind := .function, names := [], isGenerator := false, isCoroutine := false }, ⟨0, 0, 0, 0⟩⟩
theorem h_def : defOf view_39 rw1.name = some (dL, []) := by kernel_rfl
theorem h_the : rw1.prog.theDef rw1.name = some (dL.params, dL.body, dL.scope) := by kernel_rfl
theorem h_kw : kwWritten? dL.params.kwonlyargs dL.params.kw_defaults = some [] := by kernel_rfl
theorem h_ok : (chainsOk view_39 && opensWell rw1.prog && (frees rw1.toRowW && rw1.within.isEmpty)) = true := by kernel_rfl
theorem h_tab : rw1.prog.bare := ⟨rfl, rfl, rfl, rfl, rfl, by kernel_rfl⟩
theorem hd (call : WalkO view_39 loo (XL view_39 []) hook.says rw1.toRowW dL [] (fun f vs => PySem.call f vs)) : PySem.Challenge.rw_on0244_01.Holds :=
  holds_law said fun said' => holds_open (r := rw1) (q := view_39) (loose := loo) (Xt := Xt1) (XP := XL view_39 []) (Yf := hook.obs) (Ya := hook.val) (YP := hook.says) (d := dL) (kwd := []) (N := 7230) left hook.of hook.keeps (fun s e => xl_of s (Bool.and_eq_true_iff.mp e).1) XL.keeps
    h_def h_the h_kw (fun s e => recFacts_of (Bool.and_eq_true_iff.mp e).2) rfl said' h_ok h_tab ⟨[.list []], by decide +kernel, by decide +kernel⟩ call
theorem oq0 : ∀ {a : Nat}, a ≤ 10 → a ≤ 1000 := by decide
theorem oq1 : ∀ {a : Nat}, a < 2 → 5 + a < 81 := by decide
theorem oq2 : ∀ {a : Nat}, ¬(16 * a + 16 ≤ 5 + a ∧ 5 + a < 16 * a + 20) := by (intros; simp_all <;> lia)
theorem oq3 : ∀ {a : Nat}, 5 + a ≠ 16 * a + 16 + 0 := by (intros; simp +arith at *; done)
theorem oq4 : ∀ {a b : Nat}, a < 81 ∧ ¬(16 * b + 16 ≤ a ∧ a < 16 * b + 20) → ¬(16 * b + 16 + 1 ≤ a ∧ a < 16 * b + 20) := by (intros; simp_all <;> lia)
theorem oq5 : ∀ {a : Nat}, a < 2 → 16 * a + 16 + 0 < 81 := by decide
theorem oq6 : ∀ {a : Nat}, ¬(16 * a + 16 + 1 ≤ 16 * a + 16 + 0 ∧ 16 * a + 16 + 0 < 16 * a + 20) := by (intros; simp_all)
theorem oq7 : ∀ {a : Nat}, 5 + a ≠ 16 * a + 16 + 1 := by (intros; simp +arith at *; done)
theorem oq8 : ∀ {a b : Nat}, a < 81 ∧ ¬(16 * b + 16 + 1 ≤ a ∧ a < 16 * b + 20) → ¬(16 * b + 16 + 2 ≤ a ∧ a < 16 * b + 20) := by (intros; lia)
theorem oq9 : ∀ {a : Nat}, a < 2 → 16 * a + 16 + 1 < 81 := by decide
theorem oq10 : ∀ {a : Nat}, ¬(16 * a + 16 + 2 ≤ 16 * a + 16 + 1 ∧ 16 * a + 16 + 1 < 16 * a + 20) := by (intros; simp_all)
theorem oq11 : ∀ {a : Nat}, 5 + a ≠ 16 * a + 16 + 2 := by (intros; simp +arith at *; done)
theorem oq12 : ∀ {a b : Nat}, a < 81 ∧ ¬(16 * b + 16 + 2 ≤ a ∧ a < 16 * b + 20) → ¬(16 * b + 16 + 3 ≤ a ∧ a < 16 * b + 20) := by (intros; lia)
theorem oq13 : ∀ {a : Nat}, a < 2 → 16 * a + 16 + 2 < 81 := by decide
theorem oq14 : ∀ {a : Nat}, ¬(16 * a + 16 + 3 ≤ 16 * a + 16 + 2 ∧ 16 * a + 16 + 2 < 16 * a + 20) := by (intros; simp_all)
theorem oq15 : ∀ {a : Nat}, 16 * a + 16 + 0 ≠ 16 * a + 16 + 2 := by (intros; simp_all)
theorem oq16 : ∀ {a : Nat}, 16 * a + 16 + 0 ≠ 16 * a + 16 + 1 := by (intros; simp_all)
theorem oq17 : ∀ {a : Nat}, 16 * a + 16 + 0 ≠ 5 + a := by (intros; simp +arith at *; done)
theorem oq18 : ∀ {a b : Nat}, a ≤ 10 → b = a → b < 2 ^ 62 := by (intros; simp_all <;> lia)
theorem oq19 : ∀ {a b : Nat}, a ≤ (10 : Nat) → b = a → (0 : Int) ≤ (↑b : Int) ∧ (↑b : Int) ≤ (1000 : Int) := by (intros; simp_all <;> lia)
theorem oq20 : ∀ {a : Nat}, 5 + a ≠ 16 * a + 16 + 3 := by (intros; simp +arith at *; done)
theorem oq21 : ∀ {a : Nat}, 16 * a + 16 ≠ 16 * a + 16 + 3 := by (intros; simp_all)
theorem oq22 : ∀ {a : Nat}, 16 * a + 16 ≠ 16 * a + 16 + 2 := by (intros; simp_all)
theorem oq23 : ∀ {a : Nat}, 16 * a + 16 ≠ 16 * a + 16 + 1 := by (intros; simp_all)
theorem oq24 : ∀ {a : Nat}, 16 * a + 16 + 1 ≠ 16 * a + 16 + 3 := by (intros; simp_all)
theorem oq25 : ∀ {a : Nat}, 16 * a + 16 + 1 ≠ 16 * a + 16 + 2 := by (intros; simp_all)
theorem oq26 : ∀ {a : Nat}, 16 * a + 16 + 2 ≠ 16 * a + 16 + 3 := by (intros; simp_all)
theorem oq27 : ∀ {a : Nat}, 16 * a + 16 + 3 ≠ 5 + a := by (intros; simp +arith at *; done)
theorem oq28 : ∀ {a : Nat}, 16 * a + 16 + 2 ≠ 5 + a := by (intros; simp +arith at *; done)
theorem oq29 : ∀ {a : Nat}, 16 * a + 16 + 1 ≠ 5 + a := by (intros; simp +arith at *; done)
theorem oq30 : ∀ {a : Nat}, 16 * a + 16 ≠ 5 + a := by (intros; simp +arith at *; done)
theorem oq31 : ∀ {a b : Nat}, 16 * a + 16 ≤ b ∧ b < 16 * a + 20 → b = 16 * a + 16 + 0 ∨ b = 16 * a + 16 + 1 ∨ b = 16 * a + 16 + 2 ∨ b = 16 * a + 16 + 3 := by (intros; simp_all <;> lia)
theorem oq32 : ∀ {a b : Nat}, ¬(16 * a + 16 ≤ b ∧ b < 16 * a + 20) → b ≠ 16 * a + 16 + 3 := by (intros; simp_all <;> lia)
theorem oq33 : ∀ {a b : Nat}, ¬(16 * a + 16 ≤ b ∧ b < 16 * a + 20) → b ≠ 16 * a + 16 + 2 := by (intros; simp_all <;> lia)
theorem oq34 : ∀ {a b : Nat}, ¬(16 * a + 16 ≤ b ∧ b < 16 * a + 20) → b ≠ 16 * a + 16 + 1 := by (intros; simp_all <;> lia)
theorem oq35 : ∀ {a b : Nat}, ¬(16 * a + 16 ≤ b ∧ b < 16 * a + 20) → b ≠ 16 * a + 16 + 0 := by (intros; simp_all <;> lia)
theorem oq36 : ∀ {a : Nat}, a < 4 → a = 0 ∨ a = 1 ∨ a = 2 ∨ a = 3 := by decide
theorem oq37 : ∀ {a b : Nat}, a = b → (↑a : Int).toNat = b := by (intros; assumption)
theorem oq38 : ∀ {a : Nat}, a ≤ 5 → a ≤ 1000 := by decide
theorem oq39 : ∀ {a b c : Nat}, a ≤ 1000 → b = c → c < a → b ≤ 16777216 := by (intros; simp_all <;> lia)
theorem oq40 : ∀ {a b : Nat}, a < b → b + 1 - (a + 1) < b + 1 - a := by (intros; omega)
theorem oq41 : ∀ {a b : Nat}, a ≤ b → ¬a < b → a = b := by (intros; simp_all <;> lia)
theorem oq42 : ∀ {a : Int}, 0 ≤ a → -2 ^ 62 ≤ a := by (intros; lia)
theorem oq43 : ∀ {a : Int}, a ≤ 1000 → a < 2 ^ 62 := by (intros; omega)
theorem oq44 : ∀ {a : Int}, a ≤ 1000 → a.toNat ≤ 1000 := by (intros; simp_all)
theorem oq45 : ∀ {a b : Nat}, a < b → (0 : Int) < (↑b : Int) - (↑a : Int) := by (intros; simp_all)
theorem oq46 : ∀ {a : Nat}, 0 + ↑a + 1 = 0 + (↑(a + 1) : Int) := by (intros; constructor <;> omega)
theorem oq47 : ∀ {a b : Nat}, ↑a - ↑b - 1 = ↑a - (↑(b + 1) : Int) := by (intros; simp +arith at *; done)
theorem oq48 : ∀ {a : Nat}, (↑a : Int) - (↑a : Int) ≤ (0 : Int) := by (intros; simp_all)
theorem oq49 : ∀ {a : Nat}, a < 2 → a = 0 ∨ a = 1 := by decide
theorem oq50 : ∀ {a b : Nat}, a < 2 → ¬a = b + 2 := by (intros; lia)
theorem oq51 : ∀ {a : Int}, a = 0 ∨ a = 1 → a.toNat < 2 := by exact fun h => h.elim (fun e => by subst e; decide) fun e => by subst e; decide
theorem oq52 : ∀ {a : Int}, a.toNat < 2 → a.toNat + 2 < 4 := by (intros; lia)
theorem oq53 : ∀ {a : Int}, a.toNat + 2 ≠ a.toNat := by (intros; simp_all)
theorem oq54 : ∀ {a : Int} {b : Nat}, 0 ≤ a ∧ a < 3 → 3 ≤ b → 0 ≤ a ∧ a < ↑b := by (intros; simp_all <;> lia)
theorem oq55 : ∀ {a b : Int}, a = 0 ∨ a = 1 → b = a → b = 0 ∨ b = 1 := by (intros; subst_vars; omega)
theorem oq56 : ∀ {a b : Int}, a.toNat < 2 → b = a → b.toNat < 2 := by (intros; subst_vars; omega)
theorem oq57 : ∀ {a b : Int}, a.toNat < 2 → b = a → b.toNat + 2 < 4 := by (intros; lia)
theorem oq58 : 3 < 80 := by exact Nat.le_of_ble_eq_true rfl
theorem oq59 : ∀ {a : Int}, 512 ≤ a → a ≤ 64 * a := by (intros; lia)
theorem oq60 : Int.toNat 0 < 2 := by (intros; simp_all)
theorem oq61 : Int.toNat 0 + 2 < 4 := by exact Nat.le_of_ble_eq_true rfl
theorem oq63 : ∀ {a b : Int} {c : Nat}, a.toNat = b.toNat → ¬a.toNat < c → c ≤ b.toNat := by (intros; simp_all)
theorem oq64 : ∀ {a b c d : Int}, (-a ≤ b ∧ b ≤ a) ∧ -a ≤ c ∧ c ≤ a → a ≤ d → (-d ≤ b ∧ b ≤ d) ∧ -d ≤ c ∧ c ≤ d := by (intros; constructor <;> lia)
theorem oq65 : ∀ {a : Nat}, 80 ≤ a → a ≠ 2 := by (intros; lia)
theorem oq66 : ∀ {a : Nat}, 80 ≤ a → a ≠ 1 := by (intros; lia)
theorem oq67 : ∀ {a : Nat}, 0 < a ∧ a < 100 → a < 2 ^ 62 := by (intros; lia)
theorem oq68 : ∀ {a : Nat}, (0 : Nat) < a ∧ a < (100 : Nat) → (0 : Int) < (↑a : Int) ∧ (↑a : Int) < (100 : Int) := by (intros; simp_all <;> lia)
theorem oq69 : ∀ {a : Int} {b : Nat}, 0 ≤ a ∧ a < ↑b → a.toNat < b := by (intros; simp_all)
theorem oq70 : ∀ {a : Nat} {b : Int}, 0 < a ∧ a < 100 → 0 ≤ b ∧ b < ↑a → b < 2 ^ 62 := by (intros; lia)
theorem oq71 : ∀ {a b : Nat}, a = b → a ≤ b := by (intros; simp_all)
theorem oq72 : ∀ {a b c : Nat}, a = b → ¬c = b → c < a + 1 → c < a := by (intros; lia)
theorem oq73 : ∀ {a b : Nat}, a + 1 = b → 0 = b → False := by (simp; done)
theorem oq74 : ∀ {a b : Nat}, 0 = a → b + 1 = a → False := by (intros; lia)
theorem oq75 : ∀ {a b c : Nat}, a + 1 = b → c + 1 = b → c = a := by (intros; lia)
theorem oq76 : ∀ {a : Nat}, a ≤ a := by (intros; constructor <;> omega)
theorem oq77 : ∀ {a b : Nat}, a < a + 4 + b := by (intros; simp +arith at *; done)
theorem oq78 : ∀ {a : Nat}, a ≤ a + 1 := by (intros; simp_all)
theorem oq79 : ∀ {a b : Nat}, a + 1 < a + 4 + b := by (intros; simp +arith at *; done)
theorem oq80 : ∀ {a : Nat}, a ≤ a + 2 := by (intros; simp_all)
theorem oq81 : ∀ {a b : Nat}, a + 2 < a + 4 + b := by (intros; simp +arith at *; done)
theorem oq82 : ∀ {a b : Nat}, a ≤ a + 4 + b := by (intros; simp +arith at *; done)
theorem oq83 : ∀ {a b c : Nat}, a < b → c + 4 + a < c + 4 + b := by (intros; apply Nat.add_lt_add_left; assumption)
theorem oq84 : ∀ {a : Nat}, a ≤ a + 3 := by (intros; simp_all)
theorem oq85 : ∀ {a b : Nat}, a + 3 < a + 4 + b := by (intros; simp +arith at *; done)
theorem oq86 : ∀ {a b c : Nat}, ¬a = b → c + 4 + a ≠ c + 4 + b := by (intros; simp_all)
theorem oq87 : ∀ {a b : Nat}, a < b + 1 → ¬a = b → a < b := by (intros; lia)
theorem oq88 : ∀ {a b c : Nat}, a = b → ¬c = b → c < b + 1 → c < a := by (intros; simp_all <;> lia)
theorem oq89 : ∀ {a b : Nat}, a + 4 ≤ a + 4 + b := by (intros; simp_all)
theorem oq90 : ∀ {a b c d : Nat}, a = b → c < a → d + 4 + c < d + 4 + b := by (intros; simp_all)
theorem oq91 : -2 ^ 199 < 16384 := by (intros; constructor <;> omega)
theorem oq92 : (16384 : Int) < (2 : Int) ^ (199 : Nat) := by (intros; simp_all)
theorem oq93 : ∀ {a : Int}, a < 2 ^ 62 → a < 2 ^ 63 := by (intros; lia)
theorem oq94 : ∀ {a : Int} {b : Nat}, a < ↑b → b < 2 ^ 62 → a < 2 ^ 63 := by (intros; lia)
theorem oq95 : ∀ {a : Nat}, a < (2 : Nat) ^ (62 : Nat) → (↑a : Int) < (2 : Int) ^ (63 : Nat) := by (intros; lia)
theorem oq96 : ∀ {a : Nat}, a ≤ 1000 → a ≤ 16777216 := by decide
theorem oq97 : ∀ {a : Nat}, a ≤ 1000 → a + 1 ≤ 16777216 := by decide
theorem oq98 : ∀ {a : Int} {b : Nat}, a + ↑b + 1 = a + (↑(b + 1) : Int) := by (intros; simp +arith at *; done)
theorem oq99 : ∀ {a b : Nat}, a ≤ b → b ≤ a → a = b := by (intros; lia)
theorem oq100 : ∀ {a : Int}, 0 ≤ a ∧ a ≤ 1000 → 1 * a.toNat ≤ 2 ^ 24 := by (intros; simp_all <;> lia)
theorem oq101 : ∀ {a : Int}, 0 ≤ a ∧ a ≤ 1000 → (-9223372036854775808 : Int) ≤ a ∧ a < 9223372036854775808 := by (intros; constructor <;> lia)
theorem oq102 : ∀ {a : Nat} {b : Int}, a * b.toNat ≤ 2 ^ 24 → ¬a * b.toNat > (2 ^ 63 - 1) / 8 := by (intros; lia)
theorem oq103 : ∀ {a : Int}, 0 ≤ a ∧ a ≤ 1000 → a ≤ 16777216 := by (intros; lia)
theorem oq104 : ∀ {a : Nat}, a < 2 → a < 4 := by exact fun h => Nat.lt_of_lt_of_le h (Nat.le_of_ble_eq_true rfl)
theorem oq105 : ∀ {a : Nat}, 1 < 4 + a := by (intros; simp +arith at *; done)
theorem oq106 : ∀ {a b : Nat}, a ≤ 6 → b = a → b < 2 ^ 62 := by (intros; simp_all <;> lia)
theorem oq107 : ∀ {a : Nat}, a = 84 ∨ a = 84 + 1 → 80 ≤ a := by (simp; done)
theorem oq108 : ∀ {a : Int}, 0 ≤ a ∧ a < 100 → a ≤ 1000 := by (intros; lia)
theorem oq109 : ∀ {a b c d : Nat}, a + (b + 1) + 2 < c → d = 1 → a + d + b + 2 < c := by (intros; simp_all <;> lia)
theorem oq110 : ∀ {a b c d : Nat}, a + 10 * (b + 1) + 40 < c → d = 1 → a + d + 10 * b + 40 < c := by (intros; simp_all <;> lia)
theorem oq111 : 0 + 1 ≤ 16777216 + 1 := by exact Nat.le_of_ble_eq_true rfl
theorem oq112 : ∀ {a : Nat}, a ≤ a + 1 + 1 := by (intros; simp +arith at *; done)
theorem oq113 : ∀ {a b : Nat}, a ≤ 10 → b = a → b ≤ 1000 := by (intros; simp_all <;> lia)
theorem oq114 : ∀ {a b c : Nat}, a = b → c < b → c < a := by (intros; subst_vars; omega)
theorem oq115 : ∀ {a b c d : Nat}, a = b → c = b → d < a → d < c := by (intros; subst_vars; omega)
theorem oq116 : ∀ {a b : Nat}, ¬a < b → b ≤ a := by (intros; simp_all)
theorem oq117 : ∀ {a b c d : Nat}, a = b → c = b → ¬d < a → c ≤ d := by (intros; simp_all)
theorem oq118 : ∀ {a b c d : Nat}, a = b → c = b → d - a = 0 → d - c = 0 := by (intros; subst_vars; omega)
theorem oq119 : ∀ {a b c : Nat}, a = b → ¬c < a → c - a = 0 → c = b := by (intros; simp_all <;> lia)
theorem oq120 : ∀ {a b c : Nat}, a = b → c = a → c = b := by (intros; simp +arith [*]; done)
theorem oq121 : ∀ {a b : Nat} {c : Int}, a = b → 0 ≤ c ∧ c < ↑b → c.toNat < a := by (intros; simp_all)
theorem oq122 : ∀ {a : Nat} {b : Int} {c d : Nat}, a < 4 → 0 ≤ b ∧ b < ↑c → c ≤ 6 → 80 ≤ d → d ≠ 16 * a + 20 + b.toNat := by (intros; lia)
theorem oq123 : ∀ {a b : Nat}, a < 4 → 80 ≤ b → b ≠ 16 * a + 18 := by (intros; lia)
theorem oq124 : ∀ {a : Int}, a = 0 ∨ a = 16384 → -2 ^ 64 < a ∧ a < 2 ^ 64 := by exact fun h => h.elim (fun e => by subst e; decide) fun e => by subst e; decide
theorem oq125 : ∀ {a : Int}, a = 16384 → ¬a = 0 := by (simp; done)
theorem oq126 : ∀ {a : Int}, -2 ^ 61 < a ∧ a < 2 ^ 61 → a.natAbs < 2 ^ 61 := by (intros; simp_all <;> omega)
theorem oq127 : ∀ {a b : Int}, (a * b).natAbs < 2 ^ 122 → -2 ^ 122 < a * b ∧ a * b < 2 ^ 122 := by (intros; constructor <;> omega)
theorem oq128 : ∀ {a b : Int}, -2 ^ 59 < a → a < 2 ^ 59 → -2 ^ 59 < b → b < 2 ^ 59 → -2 ^ 61 < b - a ∧ b - a < 2 ^ 61 := by (intros; constructor <;> lia)
theorem oq129 : ∀ {a b : Int}, -2 ^ 59 < a → a < 2 ^ 59 → -2 ^ 59 < b → b < 2 ^ 59 → -2 ^ 64 < b - a ∧ b - a < 2 ^ 64 := by (intros; constructor <;> lia)
theorem oq130 : ∀ {a b c d : Int}, -2 ^ 59 < a → a < 2 ^ 59 → -2 ^ 59 < b → b < 2 ^ 59 → -2 ^ 59 < c → c < 2 ^ 59 → -2 ^ 59 < d → d < 2 ^ 59 → -2 ^ 64 < a + b + c + d ∧ a + b + c + d < 2 ^ 64 := by (intros; constructor <;> lia)
theorem oq131 : -2 ^ 199 < 4 := by (intros; constructor <;> omega)
theorem oq132 : (4 : Int) < (2 : Int) ^ (199 : Nat) := by (intros; simp_all)
theorem oq133 : ∀ {a b c d e f i j : Int}, -2 ^ 122 < (a - b) * (c - d) ∧ (a - b) * (c - d) < 2 ^ 122 → -2 ^ 122 < (e - f) * (i - j) ∧ (e - f) * (i - j) < 2 ^ 122 → -2 ^ 199 < (a - b) * (c - d) - (e - f) * (i - j) := by (intros; simp_all <;> omega)
theorem oq134 : ∀ {a b c d e f i j : Int}, -2 ^ 122 < (a - b) * (c - d) ∧ (a - b) * (c - d) < 2 ^ 122 → -2 ^ 122 < (e - f) * (i - j) ∧ (e - f) * (i - j) < 2 ^ 122 → (a - b) * (c - d) - (e - f) * (i - j) < 2 ^ 199 := by (intros; simp_all <;> omega)
theorem oq135 : ∀ {a b : Nat}, a < 80 → 80 ≤ b → b ≠ a := by (intros; lia)
theorem oq136 : ∀ {a : Int}, a < 0 → 2 * (0 - a) ≠ 0 := by (intros; lia)
theorem oq137 : ∀ {a : Int}, a < 0 → -2 ^ 200 < 2 * (0 - a) := by (intros; lia)
theorem oq138 : ∀ {a : Int}, -2 ^ 199 < a → 2 * (0 - a) < 2 ^ 200 := by (intros; lia)
theorem oq139 : ∀ {a : Int}, a ≠ 0 → 2 * a ≠ 0 := by (intros; simp +arith [*]; done)
theorem oq140 : ∀ {a : Int}, ¬a < 0 → -2 ^ 200 < 2 * a := by (intros; simp_all <;> lia)
theorem oq141 : ∀ {a : Int}, a < 2 ^ 199 → 2 * a < 2 ^ 200 := by (intros; lia)
theorem oq142 : ∀ {a : Int}, a < 0 → 0 - a ≠ 0 := by (intros; simp_all <;> lia)
theorem oq143 : ∀ {a : Int}, a < 0 → -2 ^ 200 < 0 - a := by (intros; lia)
theorem oq144 : ∀ {a : Int}, -2 ^ 199 < a → 0 - a < 2 ^ 200 := by (intros; lia)
theorem oq145 : ∀ {a : Int}, a ≠ 0 → a ≠ 0 := by (intros; omega)
theorem oq146 : ∀ {a : Int}, ¬a < 0 → -2 ^ 200 < a := by (intros; simp_all <;> omega)
theorem oq147 : ∀ {a : Int}, a < 2 ^ 199 → a < 2 ^ 200 := by (intros; lia)
theorem oq148 : ∀ {a b c : Int}, a < 2 ^ 59 → (-a ≤ b ∧ b ≤ a) ∧ -a ≤ c ∧ c ≤ a → (-2 ^ 59 < b ∧ b < 2 ^ 59) ∧ -2 ^ 59 < c ∧ c < 2 ^ 59 := by (intros; constructor <;> omega)
theorem oq149 : ∀ {a b : Int}, a = 0 ∨ a = 1 → b.toNat + 2 ≠ a.toNat := by (intros; lia)
theorem oq150 : ∀ {a : Int}, a.toNat < 2 → 16 * (a.toNat + 2) + 17 < 80 := by (intros; lia)
theorem oq151 : ∀ {a b : Nat}, a + 10 * 2 + 40 < b → a + 3 < b := by (intros; lia)
theorem oq152 : ∀ {a : Nat}, a < 2 → 16 * a + 17 < 80 := by decide
theorem oq153 : ∀ {a : Nat} {b : Int} {c : Nat}, a < 2 → 0 ≤ b ∧ b < ↑c → c ≤ 6 → 16 * a + 20 + b.toNat < 80 := by (intros; lia)
theorem oq154 : ∀ {a : Int}, a.toNat < 2 → a.toNat < 4 := by exact fun h => Nat.lt_of_lt_of_le h (Nat.le_of_ble_eq_true rfl)
theorem oq155 : 2 < 80 := by exact Nat.le_of_ble_eq_true rfl
theorem oq156 : ∀ {a : Int}, a.toNat < 2 → 16 * a.toNat + 16 < 80 := by (intros; lia)
theorem oq157 : -2 ^ 199 < 2 := by (intros; constructor <;> omega)
theorem oq158 : (2 : Int) < (2 : Int) ^ (199 : Nat) := by (intros; simp_all)
theorem oq159 : ∀ {a b : Int}, 0 ≤ a ∧ a < 3 → b.toNat < 2 → 16 * b.toNat + 20 + a.toNat < 80 := by (intros; lia)
theorem oq160 : ∀ {a : Int}, a = 0 ∨ a = 1 → 1 - a = 0 ∨ 1 - a = 1 := by exact fun h => h.elim (fun e => by subst e; decide) fun e => by subst e; decide
theorem oq161 : ∀ {a b : Int}, 0 ≤ a ∧ a < 3 → b.toNat < 2 → 16 * (b.toNat + 2) + 20 + a.toNat < 80 := by (intros; lia)
theorem oq162 : 0 < 80 := by (intros; simp_all)
theorem oq163 : ∀ {a : Nat}, 81 ≤ a → a = 3 → False := by (intros; simp_all)
theorem oq164 : ∀ {a : Nat}, a = 5 + 1 ∨ 16 * 1 + 16 ≤ a ∧ a < 16 * 1 + 20 → a = 3 ∨ a = 5 + 0 ∨ 16 * 0 + 16 ≤ a ∧ a < 16 * 0 + 20 → False := by (intros; omega)
theorem oq165 : ∀ {a : Nat}, 81 ≤ a → a = 3 ∨ a = 5 + 0 ∨ 16 * 0 + 16 ≤ a ∧ a < 16 * 0 + 20 → False := by (intros; lia)
theorem oq166 : ∀ {a : Nat}, a = 3 ∨ a = 5 ∨ 16 ≤ a ∧ a < 20 → a ≠ 97 := by (intros; lia)
theorem oq167 : ∀ {a : Nat}, a = 3 ∨ a = 5 ∨ 16 ≤ a ∧ a < 20 → a ≠ 4 := by (intros; lia)
theorem oq168 : ∀ {a : Nat}, a = 3 ∨ a = 5 ∨ 16 ≤ a ∧ a < 20 → a ≠ 0 := by (intros; lia)
theorem oq169 : ∀ {a : Nat}, a = 3 ∨ a = 5 ∨ 16 ≤ a ∧ a < 20 → a ≠ 1 := by (intros; lia)
theorem oq170 : ∀ {a : Nat}, a = 3 ∨ a = 5 ∨ 16 ≤ a ∧ a < 20 → a ≠ 2 := by (intros; lia)
theorem oq171 : ∀ {a : Nat}, a = 3 ∨ a = 5 ∨ 16 ≤ a ∧ a < 20 → a = 3 ∨ a = 5 + 0 ∨ 16 * 0 + 16 ≤ a ∧ a < 16 * 0 + 20 := by (intros; omega)
theorem oq172 : ∀ {a : Nat}, a = 5 + 1 ∨ 16 * 1 + 16 ≤ a ∧ a < 16 * 1 + 20 → a ≠ 97 := by (intros; lia)
theorem oq173 : ∀ {a : Nat}, a = 5 + 1 ∨ 16 * 1 + 16 ≤ a ∧ a < 16 * 1 + 20 → a ≠ 4 := by (intros; omega)
theorem oq174 : ∀ {a : Nat}, a = 5 + 1 ∨ 16 * 1 + 16 ≤ a ∧ a < 16 * 1 + 20 → a ≠ 0 := by (intros; omega)
theorem oq175 : ∀ {a : Nat}, a = 5 + 1 ∨ 16 * 1 + 16 ≤ a ∧ a < 16 * 1 + 20 → a ≠ 1 := by (intros; omega)
theorem oq176 : ∀ {a : Nat}, a = 5 + 1 ∨ 16 * 1 + 16 ≤ a ∧ a < 16 * 1 + 20 → a ≠ 2 := by (intros; omega)
theorem oq177 : 3 = 3 ∨ 3 = 5 ∨ 16 ≤ 3 ∧ 3 < 20 := by (intros; constructor <;> lia)
theorem oq178 : ∀ {a : Nat}, a < 4 → 16 * 0 + 16 + a = 3 ∨ 16 * 0 + 16 + a = 5 ∨ 16 ≤ 16 * 0 + 16 + a ∧ 16 * 0 + 16 + a < 20 := by decide
theorem oq179 : ∀ {a : Nat}, a < 4 → 16 * 1 + 16 + a = 5 + 1 ∨ 16 * 1 + 16 ≤ 16 * 1 + 16 + a ∧ 16 * 1 + 16 + a < 16 * 1 + 20 := by decide
theorem oq180 : ∀ {a : Nat}, a < 7 ∨ a = 97 ∨ 16 ≤ a ∧ a < 20 ∨ 32 ≤ a ∧ a < 36 ∨ 1 ≤ 0 ∧ (20 ≤ a ∧ a < 23 ∨ 48 ≤ a ∧ a < 55) ∨ 2 ≤ 0 ∧ (36 ≤ a ∧ a < 42 ∨ 64 ≤ a ∧ a < 74) → ((((((a = 3 ∨ a = 5 + 0 ∨ 16 * 0 + 16 ≤ a ∧ a < 16 * 0 + 20) ∨ a = 5 + 1 ∨ 16 * 1 + 16 ≤ a ∧ a < 16 * 1 + 20) ∨ a = 4) ∨ a = 0) ∨ a = 1) ∨ a = 2) ∨ a = 97 := by (intros; simp_all <;> lia)
theorem oq181 : ∀ {a : Nat}, ¬(91 < 7 ∨ 91 = 97 ∨ 16 ≤ 91 ∧ 91 < 20 ∨ 32 ≤ 91 ∧ 91 < 36 ∨ 1 ≤ a ∧ (20 ≤ 91 ∧ 91 < 23 ∨ 48 ≤ 91 ∧ 91 < 55) ∨ 2 ≤ a ∧ (36 ≤ 91 ∧ 91 < 42 ∨ 64 ≤ 91 ∧ 91 < 74)) := by (intros; simp_all)
theorem oq182 : ∀ {a : Nat}, a < 80 ∨ a = 97 → a ≠ 91 := by (intros; lia)
theorem oq183 : ∀ {a b c : Nat}, a = 0 ∧ b = 3 ∨ a = 1 ∧ b = 6 → c ≤ b → ¬(((92 < 7 ∨ 92 = 97 ∨ 16 ≤ 92 ∧ 92 < 20 ∨ 32 ≤ 92 ∧ 92 < 36 ∨ 1 ≤ a ∧ (20 ≤ 92 ∧ 92 < 23 ∨ 48 ≤ 92 ∧ 92 < 55) ∨ 2 ≤ a ∧ (36 ≤ 92 ∧ 92 < 42 ∨ 64 ≤ 92 ∧ 92 < 74)) ∨ 92 = 91) ∨ 16 * a + 20 ≤ 92 ∧ 92 < 16 * a + 20 + c) := by (intros; simp_all <;> lia)
theorem oq184 : 3 ≠ 92 := by exact Nat.ne_of_beq_eq_false rfl
theorem oq185 : ∀ {a b c d : Nat}, a = 0 ∧ b = 3 ∨ a = 1 ∧ b = 6 → c ≤ b → d < 16 * a + 16 + 4 + c → d ≠ 92 := by (intros; lia)
theorem oq186 : ∀ {a b : Nat}, (a < 7 ∨ a = 97 ∨ 16 ≤ a ∧ a < 20 ∨ 32 ≤ a ∧ a < 36 ∨ 1 ≤ b ∧ (20 ≤ a ∧ a < 23 ∨ 48 ≤ a ∧ a < 55) ∨ 2 ≤ b ∧ (36 ≤ a ∧ a < 42 ∨ 64 ≤ a ∧ a < 74)) ∨ a = 91 → a ≠ 92 := by (intros; lia)
theorem oq187 : ∀ {a : Nat}, a < 2 → 5 + a < 7 := by decide
theorem oq188 : ∀ {a b : Nat}, a = 0 ∧ b = 3 ∨ a = 1 ∧ b = 6 → b ≤ 10 := by (intros; lia)
theorem oq189 : ∀ {a : Nat}, -(2 : Int) ^ (62 : Nat) ≤ (↑a : Int) := by (intros; constructor <;> omega)
theorem oq190 : ∀ {a b : Nat}, a = (0 : Nat) ∧ b = (3 : Nat) ∨ a = (1 : Nat) ∧ b = (6 : Nat) → (↑b : Int) < (2 : Int) ^ (62 : Nat) := by (intros; lia)
theorem oq191 : ∀ {a b : Nat}, ¬(16 * a + 20 ≤ b ∧ b < 16 * a + 20 + 0) := by (intros; simp_all)
theorem oq192 : ∀ {a b : Nat}, a < ((↑b : Int) - (0 : Int)).toNat → a < b := by (intros; assumption)
theorem oq193 : ∀ {a : Nat}, 5 + a ≠ 3 := by (intros; simp +arith at *; done)
theorem oq194 : ∀ {a : Nat}, ((0 : Int) + (↑a : Int)).toNat = a := by (intros; simp_all)
theorem oq195 : ∀ {a : Nat}, 16 * a + 16 ≠ 3 := by exact Nat.ne_of_beq_eq_false rfl
theorem oq196 : ∀ {a : Nat}, (0 : Int) ≤ (0 : Int) + (↑a : Int) := by (intros; constructor <;> omega)
theorem oq197 : ∀ {a b : Nat}, a < b → (0 : Int) + (↑a : Int) < (↑b : Int) := by (intros; simp_all)
theorem oq198 : ∀ {a b : Nat}, a = 0 ∧ b = 3 ∨ a = 1 ∧ b = 6 → b < 2 ^ 62 := by (intros; lia)
theorem oq199 : ∀ {a : Nat}, 5 + a ≠ 16 * a + 16 := by (intros; simp +arith at *; done)
theorem oq200 : ∀ {a : Nat}, 16 * a + 16 + 1 ≠ 16 * a + 16 := by (intros; simp_all)
theorem oq201 : ∀ {a : Nat}, 16 * a + 16 + 1 ≠ 3 := by exact Nat.ne_of_beq_eq_false rfl
theorem oq202 : ∀ {a : Nat}, 3 ≠ 16 * a + 16 + 1 := by exact Nat.ne_of_beq_eq_false rfl
theorem oq203 : ∀ {a : Nat}, 3 ≠ 16 * a + 16 := by exact Nat.ne_of_beq_eq_false rfl
theorem oq204 : ∀ {a b : Nat}, 5 + a ≠ 16 * a + 20 + b := by (intros; simp +arith at *; done)
theorem oq205 : ∀ {a b : Nat}, 16 * a + 16 + 2 ≠ 16 * a + 20 + b := by (intros; simp +arith at *; done)
theorem oq206 : ∀ {a b : Nat}, 16 * a + 16 + 3 ≠ 16 * a + 20 + b := by (intros; simp +arith at *; done)
theorem oq207 : ∀ {a b : Nat}, 3 ≠ 16 * a + 20 + b := by (intros; simp +arith at *; done)
theorem oq208 : ∀ {a b : Nat}, 16 * a + 16 ≠ 16 * a + 20 + b := by (intros; simp +arith at *; done)
theorem oq209 : ∀ {a b : Nat}, 16 * a + 16 + 1 ≠ 16 * a + 20 + b := by (intros; simp +arith at *; done)
theorem oq210 : ∀ {a : Nat}, 16 * a + 16 + 2 ≠ 3 := by exact Nat.ne_of_beq_eq_false rfl
theorem oq211 : ∀ {a : Nat}, 16 * a + 16 + 2 ≠ 16 * a + 16 := by (intros; simp_all)
theorem oq212 : ∀ {a : Nat}, 16 * a + 16 + 2 ≠ 16 * a + 16 + 1 := by (intros; simp_all)
theorem oq213 : ∀ {a : Nat}, 3 ≠ 16 * a + 16 + 2 := by exact Nat.ne_of_beq_eq_false rfl
theorem oq214 : ∀ {a : Nat}, 16 * a + 16 + 3 ≠ 3 := by exact Nat.ne_of_beq_eq_false rfl
theorem oq215 : ∀ {a : Nat}, 16 * a + 16 + 3 ≠ 16 * a + 16 + 2 := by (intros; simp_all)
theorem oq216 : ∀ {a : Nat}, 16 * a + 16 + 3 ≠ 16 * a + 16 := by (intros; simp_all)
theorem oq217 : ∀ {a : Nat}, 16 * a + 16 + 3 ≠ 16 * a + 16 + 1 := by (intros; simp_all)
theorem oq218 : ∀ {a b c : Nat}, ¬a = 16 * b + 20 + c → 16 * b + 20 ≤ a ∧ a < 16 * b + 20 + (c + 1) → a < 16 * b + 20 + c := by (intros; lia)
theorem oq219 : ∀ {a : Nat}, 3 ≠ 16 * a + 16 + 3 := by exact Nat.ne_of_beq_eq_false rfl
theorem oq220 : ∀ {a b : Nat}, 16 * a + 16 + 4 + b = 16 * a + 20 + b := by (intros; constructor <;> omega)
theorem oq221 : ∀ {a b : Nat}, 16 * a + 16 + 4 + b ≠ 16 * a + 16 + 3 := by (intros; simp +arith at *; done)
theorem oq222 : ∀ {a b : Nat}, 16 * a + 16 + 4 + b ≠ 3 := by (intros; simp +arith at *; done)
theorem oq223 : ∀ {a b : Nat}, 16 * a + 16 + 4 + b ≠ 16 * a + 16 + 2 := by (intros; simp +arith at *; done)
theorem oq224 : ∀ {a b c : Nat}, a ≠ 16 * b + 16 + 4 + c → a ≠ 16 * b + 20 + c := by (intros; omega)
theorem oq225 : ∀ {a b : Nat}, 16 * a + 16 + 4 ≤ b → b ≠ 16 * a + 16 + 3 := by (intros; lia)
theorem oq226 : ∀ {a b : Nat}, 16 * a + 16 + 4 ≤ b → b ≠ 3 := by (intros; lia)
theorem oq227 : ∀ {a b : Nat}, 16 * a + 16 + 4 ≤ b → b ≠ 16 * a + 16 + 2 := by (intros; lia)
theorem oq228 : ∀ {a b c : Nat}, a < 16 * b + 16 + 4 + c → a ≠ 16 * b + 20 + c := by (intros; refine Nat.ne_of_lt ?_; omega)
theorem oq229 : ∀ {a b : Nat}, 16 * a + 16 + 4 ≤ b → b ≠ 16 * a + 16 := by (intros; lia)
theorem oq230 : ∀ {a b : Nat}, 16 * a + 16 + 4 ≤ b → b ≠ 16 * a + 16 + 1 := by (intros; lia)
theorem oq231 : ∀ {a b c d : Nat}, a = 0 ∧ b = 3 ∨ a = 1 ∧ b = 6 → c < b → d < 16 * a + 20 ∨ 16 * a + 26 ≤ d → d ≠ 16 * a + 20 + c := by (intros; lia)
theorem oq232 : ∀ {a : Nat}, a ≠ 3 → a ≠ 3 := by (intros; omega)
theorem oq233 : ∀ {a b : Nat}, ¬(16 * a + 16 ≤ b ∧ b < 16 * a + 20) → b ≠ 16 * a + 16 := by (intros; simp_all <;> lia)
theorem oq234 : ∀ {a b c : Nat}, a = 0 ∧ b = 3 ∨ a = 1 ∧ b = 6 → c < b → 92 ≠ 16 * a + 20 + c := by (intros; lia)
theorem oq235 : ∀ {a : Nat}, 92 ≠ 16 * a + 16 + 3 := by (intros; lia)
theorem oq236 : 92 ≠ 3 := by exact Nat.ne_of_beq_eq_false rfl
theorem oq237 : ∀ {a : Nat}, 92 ≠ 16 * a + 16 + 2 := by (intros; lia)
theorem oq238 : ∀ {a : Nat}, 92 ≠ 16 * a + 16 := by (intros; lia)
theorem oq239 : ∀ {a : Nat}, 92 ≠ 16 * a + 16 + 1 := by (intros; lia)
theorem oq240 : ∀ {a b : Nat}, 16 * a + 20 ≤ 16 * a + 16 + 4 + b := by (intros; simp_all)
theorem oq241 : ∀ {a b c : Nat}, a < b → 16 * c + 16 + 4 + a < 16 * c + 20 + b := by (intros; apply Nat.add_lt_add_left; assumption)
theorem oq242 : ∀ {a b : Nat}, a = 0 ∧ b = 3 ∨ a = 1 ∧ b = 6 → ¬(((84 < 7 ∨ 84 = 97 ∨ 16 ≤ 84 ∧ 84 < 20 ∨ 32 ≤ 84 ∧ 84 < 36 ∨ 1 ≤ a ∧ (20 ≤ 84 ∧ 84 < 23 ∨ 48 ≤ 84 ∧ 84 < 55) ∨ 2 ≤ a ∧ (36 ≤ 84 ∧ 84 < 42 ∨ 64 ≤ 84 ∧ 84 < 74)) ∨ 84 = 91) ∨ 16 * a + 20 ≤ 84 ∧ 84 < 16 * a + 20 + b) := by (intros; simp_all <;> lia)
theorem oq243 : ∀ {a b : Nat}, a = 0 ∧ b = 3 ∨ a = 1 ∧ b = 6 → ¬(((85 < 7 ∨ 85 = 97 ∨ 16 ≤ 85 ∧ 85 < 20 ∨ 32 ≤ 85 ∧ 85 < 36 ∨ 1 ≤ a ∧ (20 ≤ 85 ∧ 85 < 23 ∨ 48 ≤ 85 ∧ 85 < 55) ∨ 2 ≤ a ∧ (36 ≤ 85 ∧ 85 < 42 ∨ 64 ≤ 85 ∧ 85 < 74)) ∨ 85 = 91) ∨ 16 * a + 20 ≤ 85 ∧ 85 < 16 * a + 20 + b) := by (intros; simp_all <;> lia)
theorem oq244 : ∀ {a b c : Nat}, a = b → c = b → c = a := by (intros; simp_all)
theorem oq245 : ∀ {a b c d : Nat}, a = 0 ∧ b = 3 ∨ a = 1 ∧ b = 6 → c = b → 16 * a + 52 ≤ d → d < 16 * a + 52 + c → d < 16 * a + 48 ∨ 16 * a + 58 ≤ d → False := by (intros; lia)
theorem oq246 : ∀ {a b c d : Nat}, a = 0 ∧ b = 3 ∨ a = 1 ∧ b = 6 → c = b → d < 16 * a + 52 + c → d = 91 → False := by (intros; simp_all <;> lia)
theorem oq247 : ∀ {a b c : Nat}, a = 0 ∧ b = 3 ∨ a = 1 ∧ b = 6 → 16 * a + 52 ≤ c → 16 * a + 20 ≤ c ∧ c < 16 * a + 20 + b → False := by (intros; lia)
theorem oq248 : ∀ {a b : Nat}, 16 * a + 52 ≤ b → b = 16 * a + 50 → False := by (intros; simp_all)
theorem oq249 : ∀ {a b c d : Nat}, a = b → c < 16 * d + 52 ∨ 16 * d + 52 + b ≤ c → c < 16 * d + 52 ∨ 16 * d + 52 + a ≤ c := by (intros; subst_vars; omega)
theorem oq250 : ∀ {a b : Nat}, 16 * a + 50 < 16 * a + 52 ∨ 16 * a + 52 + b ≤ 16 * a + 50 := by (intros; simp_all)
theorem oq251 : ∀ {a : Nat}, 5 + a ≠ 16 * a + 50 := by (intros; simp +arith at *; done)
theorem oq252 : ∀ {a b : Nat}, 5 + a < 16 * a + 52 ∨ 16 * a + 52 + b ≤ 5 + a := by (intros; simp +arith at *; done)
theorem oq253 : ∀ {a b : Nat}, a < 4 → 16 * b + 16 + a ≠ 16 * b + 50 := by (intros; lia)
theorem oq254 : ∀ {a b c : Nat}, a < 4 → 16 * b + 16 + a < 16 * b + 52 ∨ 16 * b + 52 + c ≤ 16 * b + 16 + a := by (intros; constructor <;> lia)
theorem oq255 : ∀ {a b c : Nat}, a = 0 ∧ b = 3 ∨ a = 1 ∧ b = 6 → c < 16 * a + 16 + 4 + b → c ≠ 16 * a + 50 := by (intros; lia)
theorem oq256 : ∀ {a b c : Nat}, a = 0 ∧ b = 3 ∨ a = 1 ∧ b = 6 → c < 16 * a + 16 + 4 + b → c < 16 * a + 52 ∨ 16 * a + 52 + b ≤ c := by (intros; constructor <;> lia)
theorem oq257 : ∀ {a : Nat}, 97 ≠ 16 * a + 50 := by (intros; lia)
theorem oq258 : ∀ {a b : Nat}, a = 0 ∧ b = 3 ∨ a = 1 ∧ b = 6 → 97 < 16 * a + 52 ∨ 16 * a + 52 + b ≤ 97 := by (intros; lia)
theorem oq259 : 97 ≠ 3 := by exact Nat.ne_of_beq_eq_false rfl
theorem oq260 : ∀ {a : Nat}, a < 2 → ¬(16 * a + 16 ≤ 97 ∧ 97 < 16 * a + 20) := by decide
theorem oq261 : ∀ {a : Nat}, 3 ≠ 16 * a + 50 := by exact Nat.ne_of_beq_eq_false rfl
theorem oq262 : ∀ {a b : Nat}, 3 < 16 * a + 52 ∨ 16 * a + 52 + b ≤ 3 := by (intros; simp_all)
theorem oq263 : ∀ {a b : Nat}, a < 16 * b + 48 ∨ 16 * b + 58 ≤ a → a ≠ 16 * b + 50 := by (intros; lia)
theorem oq264 : ∀ {a b c : Nat}, a = 0 ∧ b = 3 ∨ a = 1 ∧ b = 6 → c < 16 * a + 48 ∨ 16 * a + 58 ≤ c → c < 16 * a + 52 ∨ 16 * a + 52 + b ≤ c := by (intros; lia)
theorem oq265 : ∀ {a : Nat}, 91 ≠ 16 * a + 50 := by (intros; lia)
theorem oq266 : ∀ {a b : Nat}, a = 0 ∧ b = 3 ∨ a = 1 ∧ b = 6 → 91 < 16 * a + 52 ∨ 16 * a + 52 + b ≤ 91 := by (intros; lia)
theorem oq267 : 91 ≠ 3 := by exact Nat.ne_of_beq_eq_false rfl
theorem oq268 : ∀ {a : Nat}, ¬(16 * a + 16 ≤ 91 ∧ 91 < 16 * a + 20) := by (intros; lia)
theorem oq269 : ∀ {a b : Nat}, a = 0 ∧ b = 3 ∨ a = 1 ∧ b = 6 → b ≤ 1000 := by (intros; lia)
theorem oq270 : ∀ {a : Nat}, 5 + a ≠ 16 * a + 48 := by (intros; simp +arith at *; done)
theorem oq271 : ∀ {a : Nat}, 16 * a + 16 + 1 ≠ 16 * a + 48 := by (intros; simp_all)
theorem oq272 : ∀ {a : Nat}, 5 + a ≠ 16 * a + 49 := by (intros; simp +arith at *; done)
theorem oq273 : ∀ {a : Nat}, 16 * a + 16 + 3 ≠ 16 * a + 49 := by (intros; simp_all)
theorem oq274 : ∀ {a : Nat}, 16 * a + 16 + 3 ≠ 16 * a + 48 := by (intros; simp_all)
theorem oq275 : ∀ {a : Nat}, 97 ≠ 16 * a + 48 := by (intros; lia)
theorem oq276 : ∀ {a : Nat}, a < 2 → 97 ≠ 16 * a + 49 := by decide
theorem oq277 : ∀ {a : Nat}, 97 ≠ 16 * a + 51 := by (intros; lia)
theorem oq278 : ∀ {a b : Nat}, a < 2 → b = a → b ≤ 1000 := by (intros; simp_all <;> lia)
theorem oq279 : ∀ {a : Nat}, 16 * (a + 2) + 16 = 16 * a + 48 := by (intros; constructor <;> omega)
theorem oq280 : ∀ {a : Nat}, 16 * (a + 2) + 16 + 1 = 16 * a + 49 := by (intros; constructor <;> omega)
theorem oq281 : ∀ {a : Nat}, 16 * (a + 2) + 16 + 2 = 16 * a + 50 := by (intros; constructor <;> omega)
theorem oq282 : ∀ {a : Nat}, 16 * (a + 2) + 16 + 3 = 16 * a + 51 := by (intros; constructor <;> omega)
theorem oq283 : ∀ {a : Nat}, 16 * a + 48 ≠ 16 * a + 51 := by (intros; simp_all)
theorem oq284 : ∀ {a : Nat}, 16 * a + 48 ≠ 16 * a + 49 := by (intros; simp_all)
theorem oq285 : ∀ {a : Nat}, 16 * a + 49 ≠ 16 * a + 51 := by (intros; simp_all)
theorem oq286 : ∀ {a : Nat}, 16 * a + 50 ≠ 16 * a + 48 := by (intros; simp_all)
theorem oq287 : ∀ {a : Nat}, 16 * a + 50 ≠ 16 * a + 49 := by (intros; simp_all)
theorem oq288 : ∀ {a : Nat}, 16 * a + 50 ≠ 16 * a + 51 := by (intros; simp_all)
theorem oq289 : ∀ {a : Nat}, a < 2 → a + 1 ≤ 2 := by (intros; assumption)
theorem oq290 : ∀ {a b : Nat}, a < 16 * b + 48 ∨ 16 * b + 58 ≤ a → a ≠ 16 * b + 48 := by (intros; lia)
theorem oq291 : ∀ {a b : Nat}, a < 16 * b + 48 ∨ 16 * b + 58 ≤ a → a ≠ 16 * b + 49 := by (intros; lia)
theorem oq292 : ∀ {a b : Nat}, a < 16 * b + 48 ∨ 16 * b + 58 ≤ a → a ≠ 16 * b + 51 := by (intros; lia)
theorem oq293 : 3 ≠ 97 := by exact Nat.ne_of_beq_eq_false rfl
theorem oq294 : ∀ {a : Nat}, 3 ≠ 16 * a + 48 := by exact Nat.ne_of_beq_eq_false rfl
theorem oq295 : ∀ {a : Nat}, 3 ≠ 16 * a + 49 := by exact Nat.ne_of_beq_eq_false rfl
theorem oq296 : ∀ {a : Nat}, 3 ≠ 16 * a + 51 := by exact Nat.ne_of_beq_eq_false rfl
theorem oq297 : ∀ {a b c : Nat}, a = 0 ∧ b = 3 ∨ a = 1 ∧ b = 6 → c < 16 * a + 16 + 4 + b → c ≠ 16 * a + 48 := by (intros; lia)
theorem oq298 : ∀ {a b c : Nat}, a = 0 ∧ b = 3 ∨ a = 1 ∧ b = 6 → c < 16 * a + 16 + 4 + b → c ≠ 16 * a + 49 := by (intros; lia)
theorem oq299 : ∀ {a b c : Nat}, a = 0 ∧ b = 3 ∨ a = 1 ∧ b = 6 → c < 16 * a + 16 + 4 + b → c ≠ 16 * a + 51 := by (intros; lia)
theorem oq300 : ∀ {a b c : Nat}, a = 0 ∧ b = 3 ∨ a = 1 ∧ b = 6 → c < 16 * a + 16 + 4 + b → c ≠ 97 := by (intros; lia)
theorem oq301 : ∀ {a : Nat}, 16 * (a + 2) + 16 ≠ 97 := by (intros; lia)
theorem oq302 : ∀ {a : Nat}, a < 2 → 16 * (a + 2) + 16 + 1 ≠ 97 := by decide
theorem oq303 : ∀ {a : Nat}, 16 * (a + 2) + 16 + 2 ≠ 97 := by (intros; lia)
theorem oq304 : ∀ {a b : Nat}, 16 * (a + 2) + 16 + 4 + b = 16 * a + 52 + b := by (intros; constructor <;> omega)
theorem oq305 : ∀ {a b : Nat}, 16 * a + 52 + b ≠ 16 * a + 48 := by (intros; simp +arith at *; done)
theorem oq306 : ∀ {a b : Nat}, 16 * a + 52 + b ≠ 16 * a + 49 := by (intros; simp +arith at *; done)
theorem oq307 : ∀ {a b : Nat}, 16 * a + 52 + b ≠ 16 * a + 51 := by (intros; simp +arith at *; done)
theorem oq308 : ∀ {a b c : Nat}, a = 0 ∧ b = 3 ∨ a = 1 ∧ b = 6 → c < b → 16 * (a + 2) + 16 + 4 + c ≠ 97 := by (intros; lia)
theorem oq309 : ∀ {a : Nat}, 16 * (a + 2) + 16 + 3 ≠ 97 := by (intros; lia)
theorem oq310 : ∀ {a : Nat}, 16 * (a + 2) + 17 = 16 * a + 49 := by (intros; constructor <;> omega)
theorem oq311 : ∀ {a : Nat}, 16 * (a + 2) + 18 = 16 * a + 50 := by (intros; constructor <;> omega)
theorem oq312 : ∀ {a : Nat}, 16 * (a + 2) + 19 = 16 * a + 51 := by (intros; constructor <;> omega)
theorem oq313 : ∀ {a : Nat}, 91 ≠ 16 * a + 48 := by (intros; lia)
theorem oq314 : ∀ {a : Nat}, 91 ≠ 16 * a + 49 := by (intros; lia)
theorem oq315 : ∀ {a : Nat}, 91 ≠ 16 * a + 51 := by (intros; lia)
theorem oq316 : 91 ≠ 97 := by exact Nat.ne_of_beq_eq_false rfl
theorem oq317 : ∀ {a : Int}, ¬a = 0 → a = 0 → False := by (intros; lia)
theorem oq318 : ∀ {a b c : Nat}, a + (b + 1) + 2 < c → a + 1 + b + 2 < c := by (intros; lia)
theorem oq319 : ∀ {a b c : Nat}, a + 10 * (b + 1) + 40 < c → a + 3 + 10 * b + 40 < c := by (intros; lia)
theorem oq320 : ∀ {a b c d : Nat}, a ≤ b → c + b + 2 < d → c + a + 2 < d := by (intros; lia)
theorem oq321 : ∀ {a b c d : Nat}, a ≤ b → c + 10 * b + 40 < d → c + 10 * a + 40 < d := by (intros; lia)
theorem oq322 : ∀ {a b c : Nat}, a + b + 2 < c → a < c := by (intros; lia)
theorem oq323 : ∀ {a b c : Nat}, a + 10 * b + 40 < c → a < c := by (intros; lia)
theorem oq324 : ∀ {a : Int}, -2 ^ 200 < a → a < 2 ^ 200 → a.natAbs < 2 ^ 200 := by (intros; simp_all <;> omega)
theorem oq325 : 0 ≤ 300 := by (intros; simp_all)
theorem oq326 : ∀ {a : Nat}, a < 200 → a / 30 + 1 ≤ 300 := by decide
theorem oq327 : ∀ {a : Nat}, a ≤ 300 → ¬a > 300 := by decide
theorem oq328 : ∀ {a b : Nat}, 81 ≤ a → a < 7 ∨ 16 ≤ a ∧ a < 80 ∧ a % 16 < 4 + b → False := by (intros; lia)
theorem oq329 : ∀ {a : Nat}, 80 < 7 ∨ 16 ≤ 80 ∧ 80 < 80 ∧ 80 % 16 < 4 + a → False := by (intros; simp_all)
theorem oq331 : ∀ {a : Int}, 0 ≤ a ∧ a < 2 → a = 0 ∨ a = 1 := by (intros; lia)
theorem oq332 : ∀ {a : Int}, 512 * (a * 64) = 64 * (512 * a) := by (intros; simp +arith at *; done)
theorem oq333 : ∀ {a : Nat}, 16 ≤ 16 * 0 + 16 + a := by (intros; simp_all)
theorem oq334 : ∀ {a : Nat}, a < 4 → 16 * 0 + 16 + a < 20 := by decide
theorem oq335 : ∀ {a : Nat}, 32 ≤ 16 * 1 + 16 + a := by (intros; simp_all)
theorem oq336 : ∀ {a : Nat}, a < 4 → 16 * 1 + 16 + a < 36 := by decide
theorem oq337 : ∀ {a : Nat}, 16 ≤ a ∧ a < 23 ∨ 48 ≤ a ∧ a < 55 → a < 20 → 16 ≤ a ∧ a < 20 := by (intros; simp_all <;> lia)
theorem oq338 : ∀ {a : Nat}, 16 ≤ a ∧ a < 23 ∨ 48 ≤ a ∧ a < 55 → ¬a < 20 → 20 ≤ a ∧ a < 23 ∨ 48 ≤ a ∧ a < 55 := by (intros; simp_all <;> lia)
theorem oq339 : ∀ {a : Nat}, a < 7 ∨ a = 97 ∨ 16 ≤ a ∧ a < 20 ∨ 32 ≤ a ∧ a < 36 ∨ 1 ≤ 0 ∧ (20 ≤ a ∧ a < 23 ∨ 48 ≤ a ∧ a < 55) ∨ 2 ≤ 0 ∧ (36 ≤ a ∧ a < 42 ∨ 64 ≤ a ∧ a < 74) → (a < 16 * 0 + 20 ∨ 16 * 0 + 26 ≤ a) ∧ (a < 16 * 0 + 48 ∨ 16 * 0 + 58 ≤ a) := by (intros; simp_all <;> lia)
theorem oq340 : ∀ {a : Nat}, a < 7 ∨ a = 97 ∨ 16 ≤ a ∧ a < 20 ∨ 32 ≤ a ∧ a < 36 ∨ 1 ≤ 1 ∧ (20 ≤ a ∧ a < 23 ∨ 48 ≤ a ∧ a < 55) ∨ 2 ≤ 1 ∧ (36 ≤ a ∧ a < 42 ∨ 64 ≤ a ∧ a < 74) → (a < 16 * 1 + 20 ∨ 16 * 1 + 26 ≤ a) ∧ (a < 16 * 1 + 48 ∨ 16 * 1 + 58 ≤ a) := by (intros; constructor <;> lia)
theorem oq341 : ∀ {a b : Nat}, a < 7 ∨ a = 97 ∨ 16 ≤ a ∧ a < 20 ∨ 32 ≤ a ∧ a < 36 ∨ 1 ≤ b ∧ (20 ≤ a ∧ a < 23 ∨ 48 ≤ a ∧ a < 55) ∨ 2 ≤ b ∧ (36 ≤ a ∧ a < 42 ∨ 64 ≤ a ∧ a < 74) → a < 80 ∨ a = 97 := by (intros; lia)
theorem oq342 : ∀ {a : Nat}, a < 80 ∨ a = 97 → a < 98 := by (intros; lia)
theorem oq343 : ∀ {a : Nat}, a = 91 → a < 98 := by (simp; done)
theorem oq344 : ∀ {a b : Nat}, a = 91 → a < 16 * b + 20 ∨ 16 * b + 26 ≤ a := by (intros; simp_all <;> lia)
theorem oq345 : 4 < 80 := by exact Nat.le_of_ble_eq_true rfl
theorem oq346 : 1 < 80 := by exact Nat.le_of_ble_eq_true rfl
theorem oq347 : ∀ {a : Nat}, a < 2 → 5 + a < 80 := by decide
theorem oq348 : ∀ {a b : Nat}, a < 2 → b < 4 → 16 * a + 16 + b < 80 := by (intros; lia)
theorem oq349 : ∀ {a b c : Nat}, a ≤ 2 → b < a → c < 6 → 16 * b + 16 + 4 + c < 80 := by (intros; lia)
theorem oq350 : ∀ {a b c : Nat}, a ≤ 2 → b < a → c < 10 → 16 * b + 16 + c < 80 := by (intros; lia)
theorem oq351 : ∀ {a b c : Nat}, a ≤ 2 → b < a → c < 6 → 16 * (b + 2) + 16 + 4 + c < 80 := by (intros; lia)
theorem oq352 : ∀ {a b c : Nat}, a ≤ 2 → b < a → c < 10 → 16 * (b + 2) + 16 + c < 80 := by (intros; lia)
theorem oq353 : ∀ {a b c : Nat}, a ≤ 2 → b = a → c < b → 16 * (c + 2) + 16 < 80 := by (intros; simp_all <;> lia)
theorem oq354 : ∀ {a b c : Nat}, a ≤ 2 → b = a → c < b → 16 * (c + 2) + 17 < 80 := by (intros; simp_all <;> lia)
theorem oq355 : ∀ {a b c : Nat}, a ≤ 2 → b = a → c < b → 16 * (c + 2) + 18 < 80 := by (intros; simp_all <;> lia)
theorem oq356 : ∀ {a b c : Nat}, a ≤ 2 → b = a → c < b → 16 * (c + 2) + 19 < 80 := by (intros; simp_all <;> lia)
theorem oq357 : 4 < 7 := by exact Nat.le_of_ble_eq_true rfl
theorem oq358 : 0 < 7 := by (intros; simp_all)
theorem oq359 : 1 < 7 := by exact Nat.le_of_ble_eq_true rfl
theorem oq360 : 3 < 7 := by exact Nat.le_of_ble_eq_true rfl
theorem oq361 : 0 ≠ 3 := by exact Nat.ne_of_beq_eq_false rfl
theorem oq362 : 0 ≠ 97 := by exact Nat.ne_of_beq_eq_false rfl
theorem oq363 : ∀ {a : Nat}, ¬(16 * a + 16 ≤ 0 ∧ 0 < 16 * a + 20) := by (intros; simp_all)
theorem oq364 : 1 ≠ 3 := by exact Nat.ne_of_beq_eq_false rfl
theorem oq365 : 1 ≠ 97 := by exact Nat.ne_of_beq_eq_false rfl
theorem oq366 : ∀ {a : Nat}, ¬(16 * a + 16 ≤ 1 ∧ 1 < 16 * a + 20) := by (intros; simp_all)
theorem oq367 : 2 < 7 := by exact Nat.le_of_ble_eq_true rfl
theorem oq368 : 2 ≠ 3 := by exact Nat.ne_of_beq_eq_false rfl
theorem oq369 : 2 ≠ 97 := by exact Nat.ne_of_beq_eq_false rfl
theorem oq370 : ∀ {a : Nat}, ¬(16 * a + 16 ≤ 2 ∧ 2 < 16 * a + 20) := by (intros; simp_all)
theorem oq371 : 4 ≠ 3 := by exact Nat.ne_of_beq_eq_false rfl
theorem oq372 : 4 ≠ 97 := by exact Nat.ne_of_beq_eq_false rfl
theorem oq373 : ∀ {a : Nat}, ¬(16 * a + 16 ≤ 4 ∧ 4 < 16 * a + 20) := by (intros; simp_all)
theorem oq374 : ∀ {a : Nat}, a < 2 → 5 + a ≠ 97 := by decide
theorem oq375 : ∀ {a b : Nat}, a < 2 → ¬(16 * b + 16 ≤ 5 + a ∧ 5 + a < 16 * b + 20) := by (intros; lia)
theorem oq376 : ∀ {a b : Nat}, 16 * a + 16 + b ≠ 3 := by (intros; simp +arith at *; done)
theorem oq377 : ∀ {a b : Nat}, a < 2 → b < 4 → 16 * a + 16 + b ≠ 97 := by (intros; lia)
theorem oq378 : ∀ {a b c : Nat}, a + 1 ≤ b → ¬(16 * a + 16 ≤ 16 * b + 16 + c ∧ 16 * b + 16 + c < 16 * a + 20) := by (intros; lia)
theorem oq379 : ∀ {a b : Nat}, a + 1 ≤ b → a ≤ b := by (intros; lia)
theorem oq380 : ∀ {a b : Nat}, a < 2 → b < a + 1 → ¬b = a → b = 0 ∧ a = 1 := by (intros; constructor <;> lia)
theorem oq381 : ∀ {a : Nat}, 16 ≤ a ∧ a < 23 ∨ 48 ≤ a ∧ a < 55 → a ≠ 3 := by (intros; lia)
theorem oq382 : ∀ {a : Nat}, 16 ≤ a ∧ a < 23 ∨ 48 ≤ a ∧ a < 55 → a ≠ 97 := by (intros; lia)
theorem oq383 : ∀ {a : Nat}, 16 ≤ a ∧ a < 23 ∨ 48 ≤ a ∧ a < 55 → ¬(16 * 1 + 16 ≤ a ∧ a < 16 * 1 + 20) := by (intros; lia)
theorem oq384 : ∀ {a : Nat}, a < 3 → 16 ≤ 16 * 0 + 16 + 4 + a ∧ 16 * 0 + 16 + 4 + a < 23 ∨ 48 ≤ 16 * 0 + 16 + 4 + a ∧ 16 * 0 + 16 + 4 + a < 55 := by decide
theorem oq385 : ∀ {a : Nat}, a < 3 → 16 ≤ 16 * (0 + 2) + 16 + 4 + a ∧ 16 * (0 + 2) + 16 + 4 + a < 23 ∨ 48 ≤ 16 * (0 + 2) + 16 + 4 + a ∧ 16 * (0 + 2) + 16 + 4 + a < 55 := by decide
theorem oq386 : ∀ {a b c : Nat}, a < 2 → b = a → c < b → c = 0 ∧ a = 1 := by (intros; simp_all <;> lia)
theorem oq387 : ∀ {a b c : Nat}, a = b → ¬c < a → c < a + 1 → c = b := by (intros; simp_all <;> lia)
theorem oq388 : ∀ {a b : Nat}, a < 7 ∨ 16 ≤ a ∧ a < 80 ∧ a % 16 < 4 + b → a < 80 := by (intros; omega)
theorem oq389 : ∀ {a : Nat}, 97 < 7 ∨ 16 ≤ 97 ∧ 97 < 80 ∧ 97 % 16 < 4 + a → False := by (intros; simp_all)
theorem oq390 : ∀ {a : Nat}, 5 + a ≠ 0 := by (intros; lia)
theorem oq391 : ∀ {a : Nat}, 16 * 0 + 16 + a ≠ 0 := by (intros; simp_all)
theorem oq392 : ∀ {a : Nat}, 16 * 1 + 16 + a ≠ 0 := by (intros; lia)
theorem oq393 : ∀ {a : Nat}, 16 * (0 + 2) + 16 + a ≠ 0 := by (intros; lia)
theorem oq394 : ∀ {a : Nat}, 16 * (1 + 2) + 16 + a ≠ 0 := by (intros; simp_all)
theorem oq395 : ∀ {a : Int}, 0 - -a = a := by (intros; simp_all)
theorem oq396 : ∀ {a : Int}, 0 - a = -a := by (intros; simp_all)
theorem oq397 : ∀ {a b c d e f i j : Int}, (a - b) * (c - d) - (e - f) * (i - j) = -((e - f) * (i - j) - (a - b) * (c - d)) := by (intros; simp +arith at *; done)
theorem oq398 : ∀ {a b c d e f : Int}, (a - b) * (c - d) - (d - e) * (f - a) = -((d - e) * (f - a) - (a - b) * (c - d)) := by (intros; simp +arith at *; done)
theorem oq399 : ∀ {a b : Int}, -a ≤ b ∧ b ≤ a → 0 ≤ a - b := by (intros; simp_all)
theorem oq400 : ∀ {a b : Int}, -a ≤ b ∧ b ≤ a → 0 ≤ a + b := by (intros; lia)
theorem oq401 : ∀ {a b : Int}, 0 ≤ (a - b) * (a + b) → (a - b) * (a + b) = a * a - b * b → b * b ≤ a * a := by (intros; simp_all)
theorem oq402 : ∀ {a b c : Int}, 0 ≤ a * a → 0 ≤ b * b → a * a + b * b = c → 0 ≤ c := by (intros; subst_vars; omega)
theorem oq403 : ∀ {a b c d e f i : Int}, 0 ≤ (a * b + c * d) * (a * b + c * d) → e + (a * b + c * d) * (a * b + c * d) = f * i → e ≤ f * i := by (intros; omega)
theorem oq404 : ∀ {a b c d e f i : Int}, (a * b + c * d) * (a * b + c * d) ≤ 361 * e → e + (a * b + c * d) * (a * b + c * d) = f * i → f * i ≤ 362 * e := by (intros; omega)
theorem oq405 : ∀ {a b c d : Int}, a * a ≤ 2 * b * (2 * b) → c * c ≤ 2 * b * (2 * b) → a * a + c * c = d → 2 * b * (2 * b) = 4 * (b * b) → d ≤ 8 * (b * b) := by (intros; lia)
theorem oq406 : ∀ {a : Int}, 0 ≤ a → 0 ≤ 362 * a := by (intros; simp +arith [*]; done)
theorem oq407 : ∀ {a b : Int}, 0 ≤ a * a * b → 2896 * (a * a * b) ≤ 2916 * (a * a * b) := by (intros; simp +arith [*]; done)
theorem oq408 : ∀ {a : Int}, 0 < a → 0 ≤ 2 * a := by (intros; lia)
theorem oq409 : ∀ {a b : Int}, 0 < a → 0 ≤ b → 0 ≤ 2 * b + a := by (intros; lia)
theorem oq410 : ∀ {a : Int}, 0 < a → 0 < 2 * a := by (intros; lia)
theorem oq411 : ∀ {a b c : Int}, 0 < a → b ≤ c * a → (c + 1) * (2 * a) = 2 * (c * a) + 2 * a → 2 * b + a < (c + 1) * (2 * a) := by (intros; lia)
theorem oq412 : ∀ {a b c : Int}, (2 * a + b) / (2 * b) < c + 1 → (2 * a + b) / (2 * b) ≤ c := by (intros; lia)
theorem oq413 : ∀ {a : Int}, a < 0 → 0 ≤ 0 - a := by (intros; lia)
theorem oq414 : ∀ {a : Int}, a < 0 → 0 < 0 - a := by (intros; simp_all)
theorem oq415 : ∀ {a : Int}, 0 - a < 0 → 0 ≤ a := by (intros; lia)
theorem oq416 : ∀ {a b c : Int}, a.natAbs ≤ (b * (0 - c)).natAbs → 0 ≤ b * (0 - c) → a ≤ b * (0 - c) := by (intros; omega)
theorem oq417 : ∀ {a b : Int}, 0 - 2 * (0 - a) + (0 - b) = 2 * a + (0 - b) := by (intros; lia)
theorem oq418 : ∀ {a b : Int}, 0 ≤ a ∧ a ≤ b → -b ≤ 0 - a ∧ 0 - a ≤ b := by (intros; simp_all <;> lia)
theorem oq419 : ∀ {a : Int}, ¬0 - a < 0 → 0 ≤ 0 - a := by (intros; simp_all)
theorem oq420 : ∀ {a b c : Int}, a.natAbs ≤ (b * (0 - c)).natAbs → 0 ≤ b * (0 - c) → 0 - a ≤ b * (0 - c) := by (intros; omega)
theorem oq421 : ∀ {a b : Int}, 0 ≤ a → 0 ≤ b → -a ≤ b := by (intros; lia)
theorem oq422 : ∀ {a : Int}, ¬a < 0 → 0 ≤ a := by (intros; simp_all)
theorem oq423 : ∀ {a : Int}, a ≠ 0 → ¬a < 0 → 0 < a := by (intros; simp_all <;> lia)
theorem oq424 : ∀ {a : Int}, a < 0 → 0 ≤ -a := by (intros; lia)
theorem oq425 : ∀ {a b c : Int}, a.natAbs ≤ (b * c).natAbs → 0 ≤ b * c → -a ≤ b * c := by (intros; omega)
theorem oq426 : ∀ {a b : Int}, 0 - 2 * a + b = 2 * -a + b := by (intros; simp +arith at *; done)
theorem oq427 : ∀ {a b c : Int}, a.natAbs ≤ (b * c).natAbs → 0 ≤ b * c → a ≤ b * c := by (intros; omega)
theorem oq428 : ∀ {a b c : Int}, a * a ≤ 19 * b * (19 * b) → 19 * b * (19 * b) = 361 * (c * c) → a * a ≤ 361 * (c * c) := by (intros; simp_all)
theorem oq429 : ∀ {a : Int}, 512 ≤ a → 0 ≤ a := by (intros; lia)
theorem oq430 : ∀ {a b c d e : Int}, (-a ≤ b ∧ b ≤ a) ∧ -a ≤ c ∧ c ≤ a → (-a ≤ d ∧ d ≤ a) ∧ -a ≤ e ∧ e ≤ a → -(2 * a) ≤ d - b ∧ d - b ≤ 2 * a := by (intros; constructor <;> lia)
theorem oq431 : ∀ {a b c d e : Int}, (-a ≤ b ∧ b ≤ a) ∧ -a ≤ c ∧ c ≤ a → (-a ≤ d ∧ d ≤ a) ∧ -a ≤ e ∧ e ≤ a → -(2 * a) ≤ e - c ∧ e - c ≤ 2 * a := by (intros; constructor <;> lia)
theorem oq432 : ∀ {a b c d : Int}, 0 ≤ (a - b) * (a - b) → (c - d) * (c - d) ≤ (c - d) * (c - d) + (a - b) * (a - b) := by (intros; simp +arith [*]; done)
theorem oq433 : ∀ {a b c d : Int}, 0 ≤ (a - b) * (a - b) → (c - d) * (c - d) ≤ (a - b) * (a - b) + (c - d) * (c - d) := by (intros; simp +arith [*]; done)
theorem oq434 : ∀ {a : Int}, 512 ≤ a → 0 ≤ 54 * a := by (intros; lia)
theorem oq435 : ∀ {a b c d e f i j k : Int}, (-a ≤ b ∧ b ≤ a) ∧ -a ≤ c ∧ c ≤ a → (-a ≤ d ∧ d ≤ a) ∧ -a ≤ e ∧ e ≤ a → (-a ≤ f ∧ f ≤ a) ∧ -a ≤ i ∧ i ≤ a → (-a ≤ j ∧ j ≤ a) ∧ -a ≤ k ∧ k ≤ a → -(4 * a) ≤ b + d + f + j ∧ b + d + f + j ≤ 4 * a := by (intros; constructor <;> lia)
theorem oq436 : ∀ {a b c d e f i j k : Int}, (-a ≤ b ∧ b ≤ a) ∧ -a ≤ c ∧ c ≤ a → (-a ≤ d ∧ d ≤ a) ∧ -a ≤ e ∧ e ≤ a → (-a ≤ f ∧ f ≤ a) ∧ -a ≤ i ∧ i ≤ a → (-a ≤ j ∧ j ≤ a) ∧ -a ≤ k ∧ k ≤ a → -(4 * a) ≤ c + e + i + k ∧ c + e + i + k ≤ 4 * a := by (intros; constructor <;> lia)
theorem oq437 : ∀ {a b c : Int}, -a ≤ b ∧ b ≤ a → -a ≤ c ∧ c ≤ a → (-(64 * a) ≤ b ∧ b ≤ 64 * a) ∧ -(64 * a) ≤ c ∧ c ≤ 64 * a := by (intros; constructor <;> lia)
theorem oq438 : ∀ {a : Nat}, (0 : Int) < (↑a : Int) → (0 : Nat) < a := by (intros; simp_all)
theorem oq439 : ∀ {a : Int}, -2 ^ 199 < a → -2 ^ 200 < a := by (intros; simp_all <;> omega)
theorem oq440 : ∀ {a : Nat}, a < 80 → a ≠ 90 := by decide
theorem oq441 : 80 ≤ 82 := by exact Nat.le_of_ble_eq_true rfl
theorem oq442 : ∀ {a b : Int}, a.toNat < 2 → b.toNat + 2 ≠ a.toNat := by (intros; lia)
theorem oq443 : ∀ {a b : Int}, ¬a.toNat = b.toNat → a.toNat + 2 ≠ b.toNat + 2 := by (intros; simp_all)
theorem oq444 : ∀ {a b c : Int}, -a ≤ b ∧ b ≤ a → -a ≤ c ∧ c ≤ a → -(2 * a) ≤ b - c ∧ b - c ≤ 2 * a := by (intros; constructor <;> lia)
theorem oq445 : ∀ {a : Int}, 512 ≤ a → a ≤ a + a := by (intros; lia)
theorem oq446 : ∀ {a : Int}, 512 ≤ a → a + a ≤ a + a + a := by (intros; lia)
theorem oq447 : ∀ {a b : Int}, -a ≤ b ∧ b ≤ a → -a ≤ 0 - b ∧ 0 - b ≤ a := by (intros; constructor <;> lia)
theorem oq448 : ∀ {a : Int}, 512 ≤ a → a + a ≤ 64 * a := by (intros; lia)
theorem oq449 : ∀ {a : Int}, 512 ≤ a → a + a + a ≤ 64 * a := by (intros; lia)
theorem oq450 : ∀ {a b : Nat}, a + 1 < b → a < b := by (intros; lia)
theorem oq451 : ∀ {a : Nat}, a < 2 → a + 2 < 4 := by decide
theorem oq452 : ∀ {a b c d : Nat}, a ≤ 6 → b < 4 + a → 16 * c + 16 + b = 16 * (c + 2) + 16 + d → False := by (intros; lia)
theorem oq453 : ∀ {a : Nat}, 0 < 4 + a := by (intros; simp +arith at *; done)
theorem oq454 : ∀ {a b : Nat}, a + 3 < b → a + 1 + 1 < b := by (intros; lia)
theorem oq455 : ∀ {a : Nat}, 3 < 4 + a := by (intros; simp +arith at *; done)
theorem oq456 : ∀ {a b : Nat}, a + 3 < b → a + 1 < b := by (intros; lia)
theorem oq457 : ∀ {a : Nat}, 2 < 4 + a := by (intros; simp +arith at *; done)
theorem oq458 : ∀ {a b : Nat}, a < b → 4 + a < 4 + b := by (intros; apply Nat.add_lt_add_left; assumption)
theorem oq459 : ∀ {a b : Nat}, a + 3 < b → a < b := by (intros; lia)
theorem oq460 : 0 < 10 := by (intros; simp_all)
theorem oq461 : 1 < 10 := by exact Nat.le_of_ble_eq_true rfl
theorem oq462 : 3 < 10 := by exact Nat.le_of_ble_eq_true rfl
theorem oq463 : 2 < 10 := by exact Nat.le_of_ble_eq_true rfl
theorem oq464 : ∀ {a b : Nat}, a ≤ 6 → b < a → b < 6 := by (intros; lia)
theorem oq465 : ∀ {a b c : Nat}, a ≤ 6 → b = a → c < b → 4 + c < 10 := by (intros; simp_all <;> lia)
theorem oq466 : ∀ {a b : Nat}, a + (4 + b) = a + 4 + b := by (intros; simp +arith at *; done)
theorem oq467 : 0 < 4 := by (intros; simp_all)
theorem oq468 : 1 < 4 := by exact Nat.le_of_ble_eq_true rfl
theorem oq469 : 2 < 4 := by exact Nat.le_of_ble_eq_true rfl
theorem oq470 : 3 < 4 := by (intros; constructor <;> omega)
theorem oq471 : ∀ {a : Nat}, a < 2 → 16 * (a + 2) + 16 < 80 := by decide
theorem oq472 : ∀ {a : Nat}, a < 2 → 16 * (a + 2) + 17 < 80 := by decide
theorem oq473 : ∀ {a : Nat}, a < 2 → 16 * (a + 2) + 18 < 80 := by decide
theorem oq474 : ∀ {a : Nat}, a < 2 → 16 * (a + 2) + 19 < 80 := by decide
theorem oq475 : ∀ {a b : Nat}, a < 4 → b < 6 → 16 * a + 16 + 4 + b < 80 := by (intros; lia)
theorem oq476 : ∀ {a b : Nat}, a < 4 → b < 10 → 16 * a + 16 + b < 80 := by (intros; lia)
theorem oq477 : ∀ {a b : Nat}, 80 ≤ a → b < 80 → b ≠ a := by (intros; lia)
theorem oq478 : 0 ≠ 2 := by exact Nat.ne_of_beq_eq_false rfl
theorem oq479 : 1 ≠ 2 := by exact Nat.ne_of_beq_eq_false rfl
theorem oq480 : 3 ≠ 2 := by exact Nat.ne_of_beq_eq_false rfl
theorem oq481 : 4 ≠ 2 := by exact Nat.ne_of_beq_eq_false rfl
theorem oq482 : ∀ {a : Nat}, 5 + a ≠ 2 := by (intros; simp +arith at *; done)
theorem oq483 : ∀ {a b : Nat}, 16 * a + 16 + b ≠ 2 := by (intros; simp +arith at *; done)
theorem oq484 : 1 ≠ 0 := by exact Nat.ne_of_beq_eq_false rfl
theorem oq485 : 2 ≠ 0 := by exact Nat.ne_of_beq_eq_false rfl
theorem oq486 : 3 ≠ 0 := by exact Nat.ne_of_beq_eq_false rfl
theorem oq487 : 4 ≠ 0 := by exact Nat.ne_of_beq_eq_false rfl
theorem oq488 : ∀ {a b : Nat}, 16 * a + 16 + b ≠ 0 := by (intros; lia)
theorem oq489 : 0 ≠ 1 := by exact Nat.ne_of_beq_eq_false rfl
theorem oq490 : 3 ≠ 1 := by exact Nat.ne_of_beq_eq_false rfl
theorem oq491 : 4 ≠ 1 := by exact Nat.ne_of_beq_eq_false rfl
theorem oq492 : ∀ {a : Nat}, 16 * (a + 2) + 16 ≠ 2 := by exact Nat.ne_of_beq_eq_false rfl
theorem oq493 : ∀ {a : Nat}, 16 * (a + 2) + 17 ≠ 2 := by exact Nat.ne_of_beq_eq_false rfl
theorem oq494 : ∀ {a : Nat}, 16 * (a + 2) + 18 ≠ 2 := by exact Nat.ne_of_beq_eq_false rfl
theorem oq495 : ∀ {a : Nat}, 16 * (a + 2) + 19 ≠ 2 := by exact Nat.ne_of_beq_eq_false rfl
theorem oq496 : ∀ {a : Nat}, 5 + a ≠ 1 := by (intros; simp +arith at *; done)
theorem oq497 : ∀ {a b : Nat}, 16 * a + 16 + 4 + b ≠ 2 := by (intros; simp +arith at *; done)
theorem oq498 : ∀ {a b : Nat}, 16 * a + 16 + b ≠ 1 := by (intros; simp +arith at *; done)
theorem oq499 : ∀ {a : Nat}, 4 < 16 * a + 20 ∨ 16 * a + 32 ≤ 4 := by (intros; simp_all)
theorem oq500 : ∀ {a : Nat}, 0 < 16 * a + 20 ∨ 16 * a + 32 ≤ 0 := by (intros; constructor <;> lia)
theorem oq501 : ∀ {a : Nat}, 1 < 16 * a + 20 ∨ 16 * a + 32 ≤ 1 := by (intros; constructor <;> lia)
theorem oq502 : ∀ {a b : Nat}, a < 2 → 5 + a < 16 * b + 20 ∨ 16 * b + 32 ≤ 5 + a := by (intros; constructor <;> lia)
theorem oq503 : ∀ {a : Nat}, 3 < 16 * a + 20 ∨ 16 * a + 32 ≤ 3 := by (intros; simp_all)
theorem oq504 : ∀ {a : Nat}, 0 < 16 * a + 16 ∨ 16 * a + 32 ≤ 0 := by (intros; constructor <;> lia)
theorem oq505 : ∀ {a : Nat}, 1 < 16 * a + 16 ∨ 16 * a + 32 ≤ 1 := by (intros; constructor <;> lia)
theorem oq506 : ∀ {a : Nat}, 2 < 16 * a + 20 ∨ 16 * a + 32 ≤ 2 := by (intros; constructor <;> lia)
theorem oq507 : ∀ {a : Nat}, 2 < 16 * a + 16 ∨ 16 * a + 32 ≤ 2 := by (intros; constructor <;> lia)
theorem oq508 : ∀ {a : Nat}, 3 < 16 * a + 16 ∨ 16 * a + 32 ≤ 3 := by (intros; constructor <;> lia)
theorem oq509 : ∀ {a : Nat}, 4 < 16 * a + 16 ∨ 16 * a + 32 ≤ 4 := by (intros; constructor <;> lia)
theorem oq510 : ∀ {a b : Nat}, 16 * (a + 2) + 16 < 16 * b + 20 ∨ 16 * b + 32 ≤ 16 * (a + 2) + 16 := by (intros; lia)
theorem oq511 : ∀ {a b : Nat}, 16 * (a + 2) + 17 < 16 * b + 20 ∨ 16 * b + 32 ≤ 16 * (a + 2) + 17 := by (intros; lia)
theorem oq512 : ∀ {a b : Nat}, 16 * (a + 2) + 18 < 16 * b + 20 ∨ 16 * b + 32 ≤ 16 * (a + 2) + 18 := by (intros; lia)
theorem oq513 : ∀ {a b : Nat}, 16 * (a + 2) + 19 < 16 * b + 20 ∨ 16 * b + 32 ≤ 16 * (a + 2) + 19 := by (intros; lia)
theorem oq514 : ∀ {a b : Nat}, a < 2 → 5 + a < 16 * b + 16 ∨ 16 * b + 32 ≤ 5 + a := by (intros; constructor <;> lia)
theorem oq515 : ∀ {a b c : Nat}, a < 4 → 16 * b + 16 + a < 16 * c + 20 ∨ 16 * c + 32 ≤ 16 * b + 16 + a := by (intros; lia)
theorem oq516 : ∀ {a b c : Nat}, ¬a = b → c < 6 → 16 * a + 16 + 4 + c < 16 * b + 20 ∨ 16 * b + 32 ≤ 16 * a + 16 + 4 + c := by (intros; lia)
theorem oq517 : ∀ {a b c : Nat}, ¬a = b → c < 10 → 16 * a + 16 + c < 16 * b + 16 ∨ 16 * b + 32 ≤ 16 * a + 16 + c := by (intros; lia)
theorem oq518 : ∀ {a b : Nat}, 16 * a + 16 + 4 + b ≠ 16 * a + 16 := by (intros; simp +arith at *; done)
theorem oq519 : ∀ {a b : Nat}, a < 16 * b + 16 ∨ 16 * b + 32 ≤ a → a ≠ 16 * b + 16 := by (intros; lia)
theorem oq520 : ∀ {a : Nat}, 16 * a + 16 ≠ 16 * a + 17 := by (intros; simp_all)
theorem oq521 : ∀ {a : Nat}, 16 * a + 16 + 2 ≠ 16 * a + 17 := by (intros; simp_all)
theorem oq522 : ∀ {a b : Nat}, 16 * a + 16 + 4 + b ≠ 16 * a + 17 := by (intros; simp +arith at *; done)
theorem oq523 : ∀ {a : Nat}, 16 * a + 16 + 3 ≠ 16 * a + 17 := by (intros; simp_all)
theorem oq524 : ∀ {a b : Nat}, a < 16 * b + 16 ∨ 16 * b + 32 ≤ a → a ≠ 16 * b + 17 := by (intros; lia)
theorem oq525 : ∀ {a : Nat}, 16 * a + 16 ≠ 16 * a + 19 := by (intros; simp_all)
theorem oq526 : ∀ {a : Nat}, 16 * a + 16 + 1 ≠ 16 * a + 19 := by (intros; simp_all)
theorem oq527 : ∀ {a : Nat}, 16 * a + 16 + 2 ≠ 16 * a + 19 := by (intros; simp_all)
theorem oq528 : ∀ {a b : Nat}, 16 * a + 16 + 4 + b ≠ 16 * a + 19 := by (intros; simp +arith at *; done)
theorem oq529 : ∀ {a : Nat}, 16 * a + 16 + 3 = 16 * a + 19 := by (intros; constructor <;> omega)
theorem oq530 : ∀ {a b : Nat}, a < 16 * b + 16 ∨ 16 * b + 32 ≤ a → a ≠ 16 * b + 19 := by (intros; lia)
theorem oq531 : ∀ {a b c d : Nat}, a < b → b ≤ 6 → c < 16 * d + 16 ∨ 16 * d + 32 ≤ c → c ≠ 16 * d + 20 + a := by (intros; lia)
theorem oq532 : ∀ {a b c : Nat}, ¬a = b → 16 * c + 16 + 4 + a ≠ 16 * c + 20 + b := by (intros; simp_all)
theorem oq533 : ∀ {a : Nat}, 16 * a + 16 ≠ 16 * a + 18 := by (intros; simp_all)
theorem oq534 : ∀ {a : Nat}, 16 * a + 16 + 1 ≠ 16 * a + 18 := by (intros; simp_all)
theorem oq535 : ∀ {a : Nat}, 16 * a + 16 + 2 = 16 * a + 18 := by (intros; constructor <;> omega)
theorem oq536 : ∀ {a : Nat}, 16 * a + 16 + 3 ≠ 16 * a + 18 := by (intros; simp_all)
theorem oq537 : ∀ {a b : Nat}, a < 16 * b + 16 ∨ 16 * b + 32 ≤ a → a ≠ 16 * b + 18 := by (intros; lia)
theorem oq538 : ∀ {a b c d : Nat}, a < b → b ≤ 6 → c < 16 * d + 20 ∨ 16 * d + 32 ≤ c → c ≠ 16 * d + 20 + a := by (intros; lia)
theorem oq539 : ∀ {a b : Nat}, 16 * a + 16 + 4 + b ≠ 16 * a + 18 := by (intros; simp +arith at *; done)
theorem oq540 : ∀ {a : Nat}, a ≤ 1000 → a ≤ 16777216 + 1 := by decide
theorem oq541 : ∀ {a b : Nat}, a < 1000 → b ≤ a → b + 1 ≤ 1000 := by (intros; simp_all <;> lia)
theorem oq542 : ∀ {a : Int}, 0 ≤ a ∧ a < 3 → 0 ≤ 1 + a ∧ 1 + a < 100 := by (intros; constructor <;> lia)
theorem oq543 : ∀ {a : Int}, 0 ≤ a ∧ a < 3 → 1 ≤ (1 + a).toNat := by (intros; lia)
theorem oq544 : ∀ {a : Int}, 0 ≤ a ∧ a < 3 → (1 + a).toNat ≤ 3 := by (intros; simp_all <;> lia)
theorem oq545 : ∀ {a b : Nat}, 1 ≤ a ∧ a ≤ 3 → b = a → b < 2 ^ 62 := by (intros; simp_all <;> lia)
theorem oq546 : ∀ {a b : Nat}, 1 ≤ a ∧ a ≤ 3 → b = a → 0 + 1 + b ≤ 1000 := by (intros; simp_all <;> lia)
theorem oq547 : ∀ {a : Nat}, 1 ≤ a ∧ a ≤ 3 → 0 + 1 + a < 60 := by (intros; lia)
theorem oq548 : 80 ≤ 83 := by exact Nat.le_of_ble_eq_true rfl
theorem oq549 : Int.toNat 1 < 2 := by (intros; constructor <;> omega)
theorem oq550 : Int.toNat 1 + 2 < 4 := by (intros; constructor <;> omega)
theorem oq551 : ∀ {a : Int}, 0 ≤ a ∧ a < 6 → -2 ^ 62 ≤ a := by (intros; lia)
theorem oq552 : ∀ {a : Int}, 0 ≤ a ∧ a < 6 → a < 2 ^ 62 := by (intros; lia)
theorem oq553 : ∀ {a : Int}, 0 ≤ a ∧ a < 6 → -2 ^ 62 ≤ a + 1 := by (intros; lia)
theorem oq554 : ∀ {a : Int}, 0 ≤ a ∧ a < 6 → a + 1 < 2 ^ 62 := by (intros; lia)
theorem oq555 : ∀ {a b : Int} {c : Nat}, (0 : Int) ≤ a ∧ a < (6 : Int) → (0 : Int) ≤ b ∧ b < (6 : Int) → c < (b + (1 : Int) - a).toNat → (0 : Int) ≤ a + (↑c : Int) ∧ a + (↑c : Int) < (↑(6 : Nat) : Int) := by (intros; simp_all <;> lia)
theorem oq556 : ∀ {a : Int} {b : Nat}, 6 ≤ a → b ≤ 6 → ¬(0 ≤ a ∧ a < ↑b) := by (intros; lia)
theorem oq557 : ∀ {a : Nat}, (3 : Nat) ≤ a → (0 : Int) ≤ (0 : Int) ∧ (0 : Int) < (↑a : Int) := by (intros; constructor <;> lia)
theorem oq558 : ∀ {a : Nat}, ¬(0 ≤ (-1 : Int) ∧ (-1 : Int) < ↑a) := by (intros; simp_all)
theorem oq559 : ∀ {a : Nat}, (3 : Nat) ≤ a → (0 : Int) ≤ (2 : Int) ∧ (2 : Int) < (↑a : Int) := by (intros; constructor <;> lia)
theorem oq560 : ∀ {a : Nat}, (3 : Nat) ≤ a → (0 : Int) ≤ (1 : Int) ∧ (1 : Int) < (↑a : Int) := by (intros; constructor <;> lia)
theorem oq561 : ∀ {a : Nat}, a ≤ 10 → a < 2 ^ 62 := by decide
theorem oq562 : ∀ {a b c : Nat}, a < b ∨ b + c ≤ a → b ≤ a → c ≤ a - b := by (intros; lia)
theorem oq563 : ∀ {a b : Nat}, ¬a ≤ b → b < a := by (intros; simp_all)
theorem oq564 : ∀ {a b c : Nat}, a ≤ b → b < a + c → b - a < c := by (intros; lia)
theorem oq565 : ∀ {a b c d : Nat}, a = b → c ≤ d → d < c + b → d - c < a := by (intros; simp_all <;> lia)
theorem oq566 : ∀ {a b : Nat}, a ≤ b → b = a + (b - a) := by (intros; simp_all)
theorem oq567 : ∀ {a b c : Nat}, a ≤ b → a ≤ c → b - a = c - a → b = c := by (intros; omega)
theorem oq568 : (0 : Int) - (1024 : Int) < (16384 : Int) := by (intros; constructor <;> omega)
theorem oq569 : ∀ {a : Int} {b : Nat}, 0 ≤ a ∧ a < ↑b → 0 ≤ a := by (intros; simp_all)
theorem oq570 : ∀ {a : Int} {b : Nat}, 0 ≤ a ∧ a < ↑b → a < ↑b := by (intros; simp_all)
theorem oq571 : ∀ {a b : Nat}, a < 64 → b = a → b < 2 ^ 62 := by (intros; simp_all <;> lia)
theorem oq572 : ∀ {a b : Nat}, a < (64 : Nat) → b = a → ¬(64 : Int) ≤ (↑b : Int) := by (intros; lia)
theorem oq573 : ∀ {a b : Nat}, a < 64 → b = a → b ≤ 1000 := by (intros; simp_all <;> lia)
theorem oq574 : ∀ {a b : Nat}, a + b ≤ 1000 → a + b ≤ 16777216 := by (intros; lia)
theorem oq575 : ∀ {a : Int}, a.toNat < 2 → 16 * a.toNat + 17 < 80 := by (intros; lia)
theorem oq576 : ∀ {a b : Nat}, a + b < (60 : Nat) → (↑b : Int) < (2 : Int) ^ (62 : Nat) := by (intros; lia)
theorem oq577 : ∀ {a b c : Nat}, a + b < 60 → a + (b - (c + 1)) < 64 := by (intros; omega)
theorem oq578 : ∀ {a : Nat}, ((↑a : Int) - (0 : Int)).toNat = a := by (intros; constructor <;> omega)
theorem oq579 : ∀ {a : Int}, 0 < a ∧ a < 100 → a ≠ 0 := by (intros; lia)
theorem oq580 : ∀ {a : Int}, 0 < a ∧ a < 100 → -2 ^ 200 < a := by (intros; lia)
theorem oq581 : ∀ {a : Int}, 0 < a ∧ a < 100 → a < 2 ^ 200 := by (intros; lia)
theorem oq582 : -2 ^ 200 < 32 := by (intros; constructor <;> omega)
theorem oq583 : (32 : Int) < (2 : Int) ^ (200 : Nat) := by (intros; simp_all)
theorem oq584 : ∀ {a b c : Nat}, a < 4 + b → b ≤ 6 → (16 * c + 16 + a) / 16 - 1 = c := by (intros; lia)
theorem oq585 : ∀ {a b : Nat}, 16 ≤ 16 * a + 16 + b := by (intros; simp +arith at *; done)
theorem oq586 : ∀ {a b : Nat}, a < 4 → (16 * a + 16 + b) / 16 - 1 = a → 16 * a + 16 + b < 80 := by (intros; omega)
theorem oq587 : ∀ {a b c : Nat}, a < 4 + b → (16 * c + 16 + a) % 16 < 4 + b := by (intros; lia)
theorem oq588 : ∀ {a : Int}, a = 0 ∨ a = 1 → 0 ≤ a := by (simp; done)
theorem oq589 : ∀ {a : Int}, a = 0 ∨ a = 1 → a < 2 ^ 62 := by (simp; done)
theorem oq590 : ∀ {a : Int}, 0 ≤ a ∧ a < 4 → a < 2 ^ 62 := by (intros; lia)
theorem oq591 : ∀ {a : Int}, 0 ≤ a ∧ a < 4 → a = 0 ∨ a = 1 ∨ a = 2 ∨ a = 3 := by (intros; lia)
theorem oq592 : ∀ {a : Int} {b : Nat}, a.toNat < b → b ≤ 6 → a < 2 ^ 62 := by (intros; lia)
theorem oq593 : ∀ {a : Int} {b : Nat}, 0 ≤ a ∧ a.toNat < b → b ≤ 6 → a < 2 ^ 62 := by (intros; lia)
theorem oq594 : ∀ {a : Int} {b c : Nat}, 0 ≤ a ∧ a.toNat < b → c = b → a < ↑c := by (intros; simp_all <;> lia)
theorem oq595 : ∀ {a b : Nat}, 16 * a + 16 + (4 + b) = 16 * a + 20 + b := by (intros; simp +arith at *; done)
theorem oq596 : ∀ {a : Int} {b : Nat}, 0 ≤ a ∧ a.toNat < b → 4 + a.toNat < 4 + b := by (intros; simp_all)
theorem oq597 : ∀ {a : Nat} {b : Int}, 16 * a + 16 + (4 + b.toNat) = 16 * a + 20 + b.toNat := by (intros; simp +arith at *; done)
theorem oq598 : ∀ {a : Nat} {b : Int}, 16 * a + 18 ≠ 16 * a + 20 + b.toNat := by (intros; simp +arith at *; done)
theorem oq599 : ∀ {a b : Nat}, a = b → b ≤ 6 → a < 2 ^ 62 := by (intros; simp_all <;> lia)
noncomputable abbrev KK (w : World) : Frag := heap_39 w.params
noncomputable def Cx (w : World) (B : Heap) : Prop := (KK w).In B ∧ ∃ mean mg mb, Top view_39 (looseW view_39 loo) mean mg mb B
noncomputable def Still (o : Obj) : Prop := ∀ es n, o.data ≠ .dict es n
structure Hp (B : Heap) (Z G : Addr → Obj → Prop) (ad : Nat → Addr) (ob : Nat → Obj) (us : Nat → Prop) (h : Heap) : Prop where
  bs : B.objs.size ≤ h.objs.size
  bz : ∀ a o, B.get? a = some o → Z a o
  sil : ∀ a o, Z a o → h.get? a = some o
  imm : ∀ a o, G a o → h.get? a = some o ∧ Still o
  own : ∀ k, us k → h.get? (ad k) = some (ob k)
  dis : ∀ k, us k → (∀ o, ¬ Z (ad k) o) ∧ (∀ o, ¬ G (ad k) o)
  inj : ∀ j k, us j → us k → ad j = ad k → j = k
noncomputable def up {α : Type} (f : Nat → α) (k : Nat) (v : α) : Nat → α := fun j => if j = k then v else f j
theorem up_same {α : Type} (f : Nat → α) (k : Nat) (v : α) : up f k v k = v := if_pos rfl
theorem up_other {α : Type} (f : Nat → α) {j k : Nat} (v : α) (h : j ≠ k) : up f k v j = f j := if_neg h
variable {B h' : Heap} {Z G G' G2 G1 : Addr → Obj → Prop} {us us' : Nat → Prop} {L b L1 : Addr} {s₀ s s1 s2 s' : Shared} {loc loc1 : List (Str × Value)} {w : World} {A : Around} {E Q : Value → Shared → Prop} {cn : Str} {cs : Scope} {ccd v2 v' e : Value} {pos px : Pos} {env env0 env1 : Env} {mf : Str → Option Value} {value slice : Expr} {vs ws : List Value} {κ : Nat} {ad' ad1 : Nat → Addr} {ob' ob1 : Nat → Obj} {p p2 : Int × Int} {m : Int}
section
variable {ad : Nat → Addr} {ob : Nat → Obj} {h : Heap}
theorem Hp.base (H : Hp B Z G ad ob us h) : ∀ b o, B.get? b = some o → h.get? b = some o := fun b o e => H.sil b o (H.bz b o e)
theorem Hp.ext (H : Hp B Z G ad ob us h) (e : ∀ b o, h.get? b = some o → h'.get? b = some o) (l : h.objs.size ≤ h'.objs.size) : Hp B Z G ad ob us h' :=
  ⟨Nat.le_trans H.bs l, H.bz, fun a o z => e _ _ (H.sil a o z), fun a o g => ⟨e _ _ (H.imm a o g).1, (H.imm a o g).2⟩, fun k u => e _ _ (H.own k u), H.dis, H.inj⟩
theorem Hp.same (H : Hp B Z G ad ob us h) (hs : Heap.SameBut L h h') (nz : ∀ o, ¬ Z L o) (ng : ∀ o, ¬ G L o) (na : ∀ k, us k → ad k ≠ L) : Hp B Z G ad ob us h' :=
  ⟨hs.1 ▸ H.bs, H.bz, fun a o z => (hs.2 a fun q => nz o (q ▸ z)).trans (H.sil a o z), fun a o g => ⟨(hs.2 a fun q => ng o (q ▸ g)).trans (H.imm a o g).1, (H.imm a o g).2⟩,
    fun k u => (hs.2 _ (na k u)).trans (H.own k u), H.dis, H.inj⟩
theorem Hp.turn (H : Hp B Z G ad ob us h) {k : Nat} (u : us k) {o : Obj} (hs : Heap.SameBut (ad k) h h') (ho : h'.get? (ad k) = some o) : Hp B Z G ad (up ob k o) us h' := by
  refine ⟨hs.1 ▸ H.bs, H.bz, fun a o' z => (hs.2 a fun q => (H.dis k u).1 o' (q ▸ z)).trans (H.sil a o' z), fun a o' g => ⟨(hs.2 a fun q => (H.dis k u).2 o' (q ▸ g)).trans (H.imm a o' g).1, (H.imm a o' g).2⟩, fun j uj => ?_, H.dis, H.inj⟩
  by_cases q : j = k
  · subst q
    rw [up_same]; exact ho
  · rw [up_other _ _ q]
    exact (hs.2 _ fun z => q (H.inj j k uj u z)).trans (H.own j uj)
theorem Hp.addG (H : Hp B Z G ad ob us h) {a : Addr} {o : Obj} (ho : h.get? a = some o) (hs : Still o) (hn : ∀ k, us k → ad k ≠ a) : Hp B Z (fun b p => G b p ∨ (b = a ∧ p = o)) ad ob us h :=
  ⟨H.bs, H.bz, H.sil, fun b p g => g.elim (H.imm b p) fun q => by obtain ⟨rfl, rfl⟩ := q; exact ⟨ho, hs⟩, H.own,
    fun k u => ⟨(H.dis k u).1, fun p g => g.elim ((H.dis k u).2 p) fun q => hn k u q.1⟩, H.inj⟩
theorem Hp.key (H : Hp B Z G ad ob us h) {k : Nat} {a : Addr} {o : Obj} (ho : h.get? a = some o) (nz : ∀ p, ¬ Z a p) (ng : ∀ p, ¬ G a p) (hn : ∀ j, us j → ad j ≠ a) :
    Hp B Z G (up ad k a) (up ob k o) (fun j => us j ∨ j = k) h := by
  refine ⟨H.bs, H.bz, H.sil, H.imm, fun j u => ?_, fun j u => ?_, fun i j ui uj e => ?_⟩
  · by_cases q : j = k
    · rw [q, up_same, up_same]; exact ho
    · rw [up_other _ _ q, up_other _ _ q]; exact H.own j (u.resolve_right q)
  · by_cases q : j = k
    · rw [q, up_same]; exact ⟨nz, ng⟩
    · rw [up_other _ _ q]; exact H.dis j (u.resolve_right q)
  · by_cases qi : i = k <;> by_cases qj : j = k
    · rw [qi, qj]
    · rw [qi, up_same, up_other _ _ qj] at e; exact absurd e.symm (hn j (uj.resolve_right qj))
    · rw [qj, up_same, up_other _ _ qi] at e; exact absurd e (hn i (ui.resolve_right qi))
    · rw [up_other _ _ qi, up_other _ _ qj] at e; exact H.inj i j (ui.resolve_right qi) (uj.resolve_right qj) e
theorem Hp.lessG (H : Hp B Z G ad ob us h) {G' : Addr → Obj → Prop} (l : ∀ a o, G' a o → G a o) : Hp B Z G' ad ob us h :=
  ⟨H.bs, H.bz, H.sil, fun a o g => H.imm a o (l a o g), H.own, fun k u => ⟨(H.dis k u).1, fun o g => (H.dis k u).2 o (l _ _ g)⟩, H.inj⟩
theorem Hp.lessU (H : Hp B Z G ad ob us h) {us' : Nat → Prop} (l : ∀ k, us' k → us k) : Hp B Z G ad ob us' h :=
  ⟨H.bs, H.bz, H.sil, H.imm, fun k u => H.own k (l k u), fun k u => H.dis k (l k u), fun i j ui uj e => H.inj i j (l _ ui) (l _ uj) e⟩
theorem Hp.ltOwn (H : Hp B Z G ad ob us h) {k : Nat} (u : us k) : ad k < h.objs.size := Heap.lt_size (H.own k u)
end
noncomputable def Same (s s' : Shared) : Prop := s'.gens = s.gens ∧ s'.drawn = s.drawn ∧ s'.os = s.os
theorem Same.refl (s : Shared) : Same s s := ⟨rfl, rfl, rfl⟩
theorem Same.trans {a b c : Shared} (x : Same a b) (y : Same b c) : Same a c := ⟨y.1.trans x.1, y.2.1.trans x.2.1, y.2.2.trans x.2.2⟩
structure St (B : Heap) (L : Addr) (loc : List (Str × Value)) (Z G : Addr → Obj → Prop) (ad : Nat → Addr) (ob : Nat → Obj) (us : Nat → Prop) (s₀ s : Shared) : Prop where
  F : ∃ m, Fr B L s.heap m ∧ ∀ x v, loc.lookup x = some v → m x = some v
  H : Hp B Z G ad ob us s.heap
  nz : ∀ o, ¬ Z L o
  na : ∀ k, us k → ad k ≠ L
  S : Same s₀ s
section
variable {ad : Nat → Addr} {ob : Nat → Obj}
theorem St.ng (S : St B L loc Z G ad ob us s₀ s) : ∀ o, ¬ G L o := fun o g => by
  obtain ⟨m, F, _⟩ := S.F
  obtain ⟨oL, es, ep, hL, hd, _⟩ := F.ns
  obtain ⟨e, st⟩ := S.H.imm L o g
  rw [hL] at e; cases e
  exact st _ _ hd
theorem St.toks (S : St B L loc Z G ad ob us s₀ s) (n : Nat) : St B L loc Z G ad ob us s₀ { s with toks := n } := ⟨S.F, S.H, S.nz, S.na, S.S⟩
theorem St.store (S : St B L loc Z G ad ob us s₀ s) {x : Str} {v : Value} {m : Str → Option Value} (hm : ∀ y u, loc.lookup y = some u → m y = some u) (F : Fr B L s.heap m) (hn : h'.Ns L (fun y => if y = x then some v else m y)) (hs : Heap.SameBut L s.heap h') (n : Nat) :
    St B L ((x, v) :: loc) Z G ad ob us s₀ { s with heap := h', toks := n } := by
  refine ⟨⟨_, F.set hn hs, fun y u e => ?_⟩, S.H.same hs S.nz S.ng S.na, S.nz, S.na, S.S⟩
  by_cases q : y = x
  · subst q
    rw [List.lookup_cons_self] at e
    rw [if_pos rfl]; exact e
  · rw [if_neg q]
    refine hm y u ?_
    rw [List.lookup_cons] at e
    have : (y == x) = false := by simpa using q
    rw [this] at e
    exact e
theorem St.sub (S : St B L loc Z G ad ob us s₀ s) {loc' : List (Str × Value)} (l : ∀ p ∈ loc', loc.lookup p.1 = some p.2) : St B L loc' Z G ad ob us s₀ s := by
  obtain ⟨m, F, hm⟩ := S.F
  refine ⟨⟨m, F, fun x v e => hm x v ?_⟩, S.H, S.nz, S.na, S.S⟩
  have : (x, v) ∈ loc' := by
    clear l
    induction loc' with
    | nil => cases e
    | cons p r ih =>
      rw [List.lookup_cons] at e
      by_cases q : x = p.1
      · have q' : (x == p.1) = true := by simpa using q
        rw [q'] at e
        cases e
        obtain ⟨a, b⟩ := p
        exact q ▸ .head _
      · have q' : (x == p.1) = false := by simpa using q
        rw [q'] at e
        exact .tail _ (ih e)
  exact l _ this
theorem St.push (S : St B L loc Z G ad ob us s₀ s) (o : Obj) : St B L loc Z G ad ob us s₀ { s with heap := s.heap.push o } := by
  obtain ⟨m, F, hm⟩ := S.F
  exact ⟨⟨m, F.push o, hm⟩, S.H.ext (fun b p e => Heap.get?_push_of_some _ e) (by rw [Heap.size_push]; exact Nat.le_succ _), S.nz, S.na, S.S⟩
theorem St.ext (S : St B L loc Z G ad ob us s₀ s) (e : ∀ b o, s.heap.get? b = some o → h'.get? b = some o) (n : Nat) : St B L loc Z G ad ob us s₀ { s with heap := h', toks := n } := by
  obtain ⟨m, ⟨⟨oL, es, ep, hL, r⟩, keep, above⟩, hm⟩ := S.F
  have hL' := e _ _ hL
  exact ⟨⟨m, ⟨⟨oL, es, ep, hL', r⟩, fun b o q => e b o (keep b o q), above⟩, hm⟩,
    ⟨Nat.le_trans above (Nat.le_of_lt (Heap.lt_size hL')), S.H.bz, fun a o z => e _ _ (S.H.sil a o z), fun a o g => ⟨e _ _ (S.H.imm a o g).1, (S.H.imm a o g).2⟩, fun k u => e _ _ (S.H.own k u), S.H.dis, S.H.inj⟩, S.nz, S.na, S.S⟩
theorem St.fresh (S : St B L loc Z G ad ob us s₀ s) : ∀ k, us k → ad k ≠ s.heap.objs.size := fun _ u => Nat.ne_of_lt (S.H.ltOwn u)
theorem St.addG (S : St B L loc Z G ad ob us s₀ s) {a : Addr} {o : Obj} (ho : s.heap.get? a = some o) (hs : Still o) (hn : ∀ k, us k → ad k ≠ a) : St B L loc Z (fun b p => G b p ∨ (b = a ∧ p = o)) ad ob us s₀ s :=
  ⟨S.F, S.H.addG ho hs hn, S.nz, S.na, S.S⟩
theorem St.turn (S : St B L loc Z G ad ob us s₀ s) {k : Nat} (u : us k) {o : Obj} (hs : Heap.SameBut (ad k) s.heap h') (ho : h'.get? (ad k) = some o) (n : Nat) :
    St B L loc Z G ad (up ob k o) us s₀ { s with heap := h', toks := n } := by
  obtain ⟨m, F, hm⟩ := S.F
  exact ⟨⟨m, ⟨F.ns.sameBut hs (Ne.symm (S.na k u)), (S.H.turn u hs ho).base, F.above⟩, hm⟩, S.H.turn u hs ho, S.nz, S.na, S.S⟩
theorem St.key (S : St B L loc Z G ad ob us s₀ s) {k : Nat} {a : Addr} {o : Obj} (ho : s.heap.get? a = some o) (nz : ∀ p, ¬ Z a p) (ng : ∀ p, ¬ G a p) (hn : ∀ j, us j → ad j ≠ a) (hL : a ≠ L) :
    St B L loc Z G (up ad k a) (up ob k o) (fun j => us j ∨ j = k) s₀ s :=
  ⟨S.F, S.H.key ho nz ng hn, S.nz, fun j u => by
    by_cases q : j = k
    · rw [q, up_same]; exact hL
    · rw [up_other _ _ q]; exact S.na j (u.resolve_right q), S.S⟩
theorem St.lessU (S : St B L loc Z G ad ob us s₀ s) {us' : Nat → Prop} (l : ∀ k, us' k → us k) : St B L loc Z G ad ob us' s₀ s := ⟨S.F, S.H.lessU l, S.nz, fun k u => S.na k (l k u), S.S⟩
theorem St.lessG (S : St B L loc Z G ad ob us s₀ s) {G' : Addr → Obj → Prop} (l : ∀ a o, G' a o → G a o) : St B L loc Z G' ad ob us s₀ s := ⟨S.F, S.H.lessG l, S.nz, S.na, S.S⟩
end
@[irreducible] noncomputable def WP {α : Type} (pw : Program) (w : World) (A : Around) (t : Sem α) (Q : α → Shared → Prop) (E : Value → Shared → Prop) (s : Shared) : Prop := wpAny (model pw w) A t Q E s
theorem WP.of {α : Type} {w : World} {A : Around} {t : Sem α} {Q : α → Shared → Prop} {E : Value → Shared → Prop} {s : Shared} (h : wpAny (model pw w) A t Q E s) : WP pw w A t Q E s := by delta WP; exact h
theorem WP.out {α : Type} {w : World} {A : Around} {t : Sem α} {Q : α → Shared → Prop} {E : Value → Shared → Prop} {s : Shared} (h : WP pw w A t Q E s) : wpAny (model pw w) A t Q E s := by delta WP at h; exact h
theorem WP.mono {α : Type} {w : World} {A : Around} {t : Sem α} {Q Q' : α → Shared → Prop} {E E' : Value → Shared → Prop} {s : Shared} (h : WP pw w A t Q E s) (hQ : ∀ a s, Q a s → Q' a s) (hE : ∀ e s, E e s → E' e s) : WP pw w A t Q' E' s :=
  .of (wpAny_mono h.out hQ hE)
structure EnvOk (env : Env) (L : Addr) : Prop where
  l : env.locals = L
  k : env.scope.kind = .function
  g : env.globals = mainGlobals
  b : env.builtins = builtinsNs
noncomputable def Rm (A : Around) (n : Nat) : Prop := A.depth + n + 2 < recursionLimit ∧ A.units + 10 * n + 40 < cLine ∧ A.handled = none
theorem Rm.deeper {A : Around} {n : Nat} {env : Env} (h : Rm A (n + 1)) : Rm (A.deeper env) n := by
  obtain ⟨h1, h2, h3⟩ := h
  refine ⟨?_, ?_, h3⟩
  · show A.depth + 1 + n + 2 < _; exact oq318 h1
  · show A.units + 3 + 10 * n + 40 < _; exact oq319 h2
theorem Rm.less {A : Around} {m n : Nat} (h : Rm A n) (l : m ≤ n := by first | exact Nat.le_of_ble_eq_true rfl | omega) : Rm A m := ⟨by have := h.1; exact oq320 l this, by have := h.2.1; exact oq321 l this, h.2.2⟩
theorem Rm.h {A : Around} {n : Nat} (h : Rm A n) : A.handled = none := h.2.2
theorem Rm.d {A : Around} {n : Nat} (h : Rm A n) : A.depth < recursionLimit := by have := h.1; exact oq322 this
theorem Rm.u {A : Around} {n : Nat} (h : Rm A n) : A.units < cLine := by have := h.2.1; exact oq323 this
noncomputable abbrev tupO (vs : List Value) : Obj := { cls := .type "tuple", data := .seq vs.toArray }
noncomputable abbrev lstO (vs : List Value) : Obj := { cls := .type "list", data := .seq vs.toArray }
noncomputable def IsL (o : Obj) (vs : List Value) : Prop := o.cls = .type "list" ∧ ∃ n, o.data = .seq vs.toArray n
theorem still_tup (vs : List Value) : Still (tupO vs) := fun _ _ e => by cases e
theorem still_lst (vs : List Value) : Still (lstO vs) := fun _ _ e => by cases e
theorem still_inst (C dx : Addr) : Still (instObj C dx) := fun _ _ e => by cases e
theorem IsL.lst (vs : List Value) : IsL (lstO vs) vs := ⟨rfl, 0, rfl⟩
section
variable {ad : Nat → Addr} {ob : Nat → Obj} {a : Addr} {x : Str} {v : Value}
theorem Hp.K {h : Heap} (H : Hp B Z G ad ob us h) (C : Cx w B) : (KK w).In h := C.1.keeps H.base
theorem St.K (S : St B L loc Z G ad ob us s₀ s) (C : Cx w B) : (KK w).In s.heap := S.H.K C
theorem r_nil {Q : Flow → Shared → Prop} (h : Q .next s) : WP pw w A (execs [] env) Q E s := by delta WP; exact wpAny_execs_nil h
theorem r_cons {st : Stmt} {rest : List Stmt} {Q : Flow → Shared → Prop} (h : WP pw w A (exec st env) (fun f s' => match f with | .next => WP pw w A (execs rest env) Q E s' | f => Q f s') E s) : WP pw w A (execs (st :: rest) env) Q E s := by
  delta WP at *; exact wpAny_execs_cons h
theorem r_ret {e : Expr} {Q : Flow → Shared → Prop} (h : WP pw w A (eval e env) (fun v => Q (.ret v)) E s) : WP pw w A (exec (.Return (some e) pos) env) Q E s := by delta WP at *; exact wpAny_Return_some h
theorem r_if {test : Expr} {body orelse : List Stmt} {Q : Flow → Shared → Prop}
    (h : WP pw w A (isTrue test env (eval test env)) (fun b s₂ => if b then WP pw w A (execs body env) Q E s₂ else WP pw w A (execs orelse env) Q E s₂) E s) : WP pw w A (exec (.If test body orelse pos) env) Q E s := by
  delta WP at *; exact wpAny_If h
theorem r_assign {value : Expr} {pos' : Pos} {Q : Flow → Shared → Prop} (h : WP pw w A (eval value env) (fun v s₁ => WP pw w A (storeName env x v) (fun _ => Q .next) E s₁) E s)
    (hs : swapsWith value (some (.Name x pos')) pos.line env = pure false := by rfl) : WP pw w A (exec (.Assign [.Name x pos'] value pos) env) Q E s := by delta WP at *; exact wpAny_Assign_Name h hs
theorem r_expr {e : Expr} {Q : Flow → Shared → Prop} (h : WP pw w A (eval e env) (fun v s' => match v with | .ref _ => False | _ => Q .next s') E s)
    (hi : interactive env = false := by rfl) (hs : swapsWith e none pos.line env = pure false := by rfl) : WP pw w A (exec (.Expr e pos) env) Q E s := by delta WP at *; exact wpAny_Expr h hi hs
theorem r_assignT {elts : List Expr} {k : Nat} {tpos : Pos} {value : Expr} {Q : Flow → Shared → Prop}
    (h : WP pw w A (eval value env) (fun v s₁ => WP pw w A (assign (.Tuple elts k tpos) env v) (fun _ => Q .next) E s₁) E s)
    (hs : swapsWithSole [.Tuple elts k tpos] value pos.line env = pure false := by rfl) (hw : swappedStores [.Tuple elts k tpos] value env = pure none := by rfl) :
    WP pw w A (exec (.Assign [.Tuple elts k tpos] value pos) env) Q E s := by delta WP at *; exact Assign_Tuple h hs hw
theorem r_assign2 {y : Str} {k : Nat} {p1 p2 tpos : Pos} {value : Expr} {Q : Flow → Shared → Prop}
    (h : WP pw w A (eval value env) (fun v s₁ => WP pw w A (unpackItems v 2 none) (fun items s₂ => WP pw w A (assignInOrder [bindName env y, bindName env x] items.reverse) (fun _ => Q .next) E s₂) E s₁) E s)
    (hs : swapsWithSole [.Tuple [.Name x p1, .Name y p2] k tpos] value pos.line env = pure false := by rfl) (hw : swappedStores [.Tuple [.Name x p1, .Name y p2] k tpos] value env = pure (some [x, y]) := by rfl) :
    WP pw w A (exec (.Assign [.Tuple [.Name x p1, .Name y p2] k tpos] value pos) env) Q E s := by delta WP at *; exact Assign_Tuple_swapped (names := [x, y]) h hs hw
theorem r_assign3 {y z : Str} {k : Nat} {p1 p2 p3 tpos : Pos} {value : Expr} {Q : Flow → Shared → Prop}
    (h : WP pw w A (eval value env) (fun v s₁ => WP pw w A (unpackItems v 3 none) (fun items s₂ => WP pw w A (assignInOrder [bindName env z, bindName env y, bindName env x] items.reverse) (fun _ => Q .next) E s₂) E s₁) E s)
    (hs : swapsWithSole [.Tuple [.Name x p1, .Name y p2, .Name z p3] k tpos] value pos.line env = pure false := by rfl) (hw : swappedStores [.Tuple [.Name x p1, .Name y p2, .Name z p3] k tpos] value env = pure (some [x, y, z]) := by rfl) :
    WP pw w A (exec (.Assign [.Tuple [.Name x p1, .Name y p2, .Name z p3] k tpos] value pos) env) Q E s := by delta WP at *; exact Assign_Tuple_swapped (names := [x, y, z]) h hs hw
theorem r_assignS {o i value : Expr} {pos' : Pos} {Q : Flow → Shared → Prop}
    (h : WP pw w A (eval value env) (fun v s₁ => WP pw w A (eval o env) (fun ov s₂ => WP pw w A (eval i env) (fun iv s₃ => WP pw w A (setItem ov iv v) (fun _ => Q .next) E s₃) E s₂) E s₁) E s)
    (hs : swapsWith value (some (.Subscript o i pos')) pos.line env = pure false := by rfl) : WP pw w A (exec (.Assign [.Subscript o i pos'] value pos) env) Q E s := by delta WP at *; exact wpAny_Assign_Subscript h hs
theorem r_assignA {o value : Expr} {pos' : Pos} {Q : Flow → Shared → Prop}
    (h : WP pw w A (eval value env) (fun v s₁ => WP pw w A (eval o env) (fun ov s₂ => WP pw w A (setAttr ov x v) (fun _ => Q .next) E s₂) E s₁) E s)
    (hs : swapsWith value (some (.Attribute o x pos')) pos.line env = pure false := by rfl) : WP pw w A (exec (.Assign [.Attribute o x pos'] value pos) env) Q E s := by delta WP at *; exact plainObj_wpAny_Assign_Attribute h hs
theorem r_bin {l r : Expr} {op : Operator} (h : WP pw w A (eval l env) (fun a s₁ => WP pw w A (eval r env) (fun b s₂ => WP pw w A (binaryOp op a b) Q E s₂) E s₁) E s) : WP pw w A (eval (.BinOp l op r pos) env) Q E s := by delta WP at *; exact wpAny_BinOp h
theorem r_cmp {l r : Expr} {op : CmpOp} (h : WP pw w A (eval l env) (fun a s₁ => WP pw w A (eval r env) (fun b s₂ => WP pw w A (compareOp op a b) Q E s₂) E s₁) E s)
    (hm : behindInMarks op r = false := by with_unfolding_all rfl) : WP pw w A (eval (.Compare l [op] [r] pos) env) Q E s := by delta WP at *; exact wpAny_Compare1 h hm
theorem r_isCmp {l r : Expr} {op : CmpOp} {whole : Sem Value} {Q : Bool → Shared → Prop}
    (h : WP pw w A (eval l env) (fun a s₁ => WP pw w A (eval r env) (fun b s₂ => WP pw w A (compareOp op a b) (fun c s₃ => WP pw w A (truthy c) Q E s₃) E s₂) E s₁) E s)
    (hm : behindInMarks op r = false := by with_unfolding_all rfl) : WP pw w A (isTrue (.Compare l [op] [r] pos) env whole) Q E s := by delta WP at *; exact wpAny_isTrue_Compare1 h hm
theorem r_isNot {e : Expr} {whole : Sem Value} {Q : Bool → Shared → Prop} (h : WP pw w A (isTrue e env (eval e env)) (fun c s' => Q (!c) s') E s) : WP pw w A (isTrue (.UnaryOp .Not e pos) env whole) Q E s := by delta WP at *; exact isTrue_not h
theorem r_isPlain {e : Expr} {whole : Sem Value} {Q : Bool → Shared → Prop} (h : WP pw w A whole (fun v s₁ => WP pw w A (truthy v) Q E s₁) E s)
    (he : isTrue e env whole = (do let v ← whole; standAt e.pos; holding [v] (truthy v)) := by rfl) : WP pw w A (isTrue e env whole) Q E s := by delta WP at *; exact isTrue_plain h he
theorem r_unary {op : UnaryOp} {e : Expr} (h : WP pw w A (eval e env) (fun v s₁ => WP pw w A (unaryOp op v) Q E s₁) E s) : WP pw w A (eval (.UnaryOp op e pos) env) Q E s := by delta WP at *; exact UnaryOp_ h
theorem r_not (h : WP pw w A (truthy v) (fun c s' => Q (.bool (!c)) s') E s) : WP pw w A (unaryOp .Not v) Q E s := by delta WP at *; exact not_of h
theorem r_ifexp {test body orelse : Expr} (h : WP pw w A (isTrue test env (eval test env)) (fun c s₂ => if c then WP pw w A (eval body env) Q E s₂ else WP pw w A (eval orelse env) Q E s₂) E s) : WP pw w A (eval (.IfExp test body orelse pos) env) Q E s := by
  delta WP at *; exact IfExp_ h
theorem r_tupleE {elts : List Expr} {k : Nat} (h : WP pw w A (spliced (backTo pos (starEach elts env))) (fun vs s₁ => WP pw w A (newTuple vs) Q E s₁) E s) : WP pw w A (eval (.Tuple elts k pos) env) Q E s := by delta WP at *; exact Tuple_ h
theorem r_listE {elts : List Expr} (h : WP pw w A (spliced (backTo pos (starEach elts env))) (fun vs s₁ => WP pw w A (newList vs) Q E s₁) E s) : WP pw w A (eval (.List elts pos) env) Q E s := by delta WP at *; exact List_ h
theorem r_args0 {Q : List Value → Shared → Prop} (h : Q [] s) : WP pw w A (spliced (backTo pos (starEach [] env))) Q E s := by delta WP at *; exact spliced_none h
theorem r_args {e : Expr} {rest : List Expr} {Q : List Value → Shared → Prop} (h : WP pw w A (eval e env) (fun v s₁ => WP pw w A (spliced (backTo pos (starEach rest env))) (fun vs s₂ => Q (v :: vs) s₂) E s₁) E s)
    (he : starEach (e :: rest) env = (false, eval e env) :: starEach rest env := by rfl) : WP pw w A (spliced (backTo pos (starEach (e :: rest) env))) Q E s := by delta WP at *; exact spliced_more h he
theorem r_sub {value slice : Expr} (h : WP pw w A (eval value env) (fun o s₁ => WP pw w A (eval slice env) (fun i s₂ => WP pw w A (subscriptTail value slice o i) Q E s₂) E s₁) E s) : WP pw w A (eval (.Subscript value slice pos) env) Q E s := by
  delta WP at *; exact Subscript_ h
theorem r_attrN {n : Str} {np : Pos} (h : WP pw w A (eval (.Name n np) env) (fun o s₁ => WP pw w A (getAttr o x true) Q E s₁) E s) : WP pw w A (eval (.Attribute (.Name n np) x pos) env) Q E s := by delta WP at *; exact Attribute_name h
theorem r_attr {value : Expr} (h : WP pw w A (eval value env) (fun o s₁ => WP pw w A (getAttr o x true) Q E s₁) E s)
    (he : eval (.Attribute value x pos) env = (do
      let o ← eval value env
      standAt pos.atName
      let r ← holding [o] (getAttr o x true)
      letTemporaryGo value o r
      pure r) := by with_unfolding_all rfl) : WP pw w A (eval (.Attribute value x pos) env) Q E s := by delta WP at *; exact Attribute_any_ h he
theorem r_loc (S : St B L loc Z G ad ob us s₀ s) (hv : loc.lookup x = some v) (h : Q v s) (hE : EnvOk env L := by exact ⟨rfl, rfl, rfl, rfl⟩) (hx : env.kindOf x = some .local := by rfl) (hd : (x == ("__debug__" : Str)) = false := by rfl) :
    WP pw w A (eval (.Name x pos) env) Q E s := by
  delta WP
  obtain ⟨m, F, hm⟩ := S.F
  obtain ⟨rfl, hk, _, _⟩ := hE
  exact wpAny_Name (wpAny_loadName_local hk hx F.ns (hm x v hv) h) hd
theorem r_glob (C : Cx w B) (S : St B L loc Z G ad ob us s₀ s) (e : nsIn (KK w) mainGlobals x = some (some v)) (h : Q v s) (hE : EnvOk env L := by exact ⟨rfl, rfl, rfl, rfl⟩) (hx : env.kindOf x = some .globalImplicit := by rfl) (hd : (x == ("__debug__" : Str)) = false := by rfl) :
    WP pw w A (eval (.Name x pos) env) Q E s := by
  delta WP
  obtain ⟨X, mean, mg, mb, T⟩ := C
  obtain ⟨m, F, hm⟩ := S.F
  obtain ⟨_, hk, hg, _⟩ := hE
  exact Name_function_global hk hx (loadGlobal_global (env := env) (by rw [hg]; exact T.g.keeps F.keep) (mg_of X T.g e) h) hd
theorem r_boot (C : Cx w B) (S : St B L loc Z G ad ob us s₀ s) (e : nsIn (KK w) mainGlobals x = some none) (hv : bootBuiltins x = some v) (h : Q v s) (hn : x ≠ "__name__" := by decide) (hE : EnvOk env L := by exact ⟨rfl, rfl, rfl, rfl⟩) (hx : env.kindOf x = some .globalImplicit := by rfl) (hd : (x == ("__debug__" : Str)) = false := by rfl) :
    WP pw w A (eval (.Name x pos) env) Q E s := by
  delta WP
  obtain ⟨X, mean, mg, mb, T⟩ := C
  obtain ⟨m, F, hm⟩ := S.F
  obtain ⟨_, hk, hg, hb⟩ := hE
  exact Name_function_global hk hx (loadGlobal_builtin (env := env) (by rw [hg]; exact T.g.keeps F.keep) (mg_none_of X T.g e) (by rw [hb]; exact T.b.keeps F.keep) ((T.builtins x hn).trans hv) h) hd
theorem r_cell {c : Addr} {o : Obj} (S : St B L loc Z G ad ob us s₀ s) (hc : env.cells.lookup x = some c) (hG : G c o) (ho : o.data = .cell (some v)) (h : Q v s) (hE : EnvOk env L := by exact ⟨rfl, rfl, rfl, rfl⟩) (hx : env.kindOf x = some .cell := by rfl) (hd : (x == ("__debug__" : Str)) = false := by rfl) :
    WP pw w A (eval (.Name x pos) env) Q E s := by
  delta WP
  obtain ⟨_, hk, _, _⟩ := hE
  exact wpAny_Name (wpAny_loadName_cell hk hx hc ⟨o, (S.H.imm _ _ hG).1, ho⟩ h) hd
theorem r_int {i : Int} {k : Nat} (S : St B L loc Z G ad ob us s₀ s) (h : ∀ t s', St B L loc Z G ad ob us s₀ s' → Q (.int i t) s') : WP pw w A (eval (.Constant (.int i) k pos) env) Q E s := by
  delta WP; exact wpAny_Constant_int (h _ _ (S.toks _))
theorem r_bool {b : Bool} {k : Nat} (h : Q (.bool b) s) : WP pw w A (eval (.Constant (.bool b) k pos) env) Q E s := by delta WP; exact fun _ _ _ => h
theorem r_none {k : Nat} (h : Q .none s) : WP pw w A (eval (.Constant .none k pos) env) Q E s := by delta WP; exact fun _ _ _ => h
section
variable {i j : Int} {t u : Tok}
theorem r_sub' (S : St B L loc Z G ad ob us s₀ s) (h : ∀ t s', St B L loc Z G ad ob us s₀ s' → Q (.int (i - j) t) s') : WP pw w A (binaryOp .Sub (.int i t) (.int j u)) Q E s := by delta WP; exact sub_int (h _ _ (S.toks _))
theorem r_mul (S : St B L loc Z G ad ob us s₀ s) (ok : IntMulOk i j) (h : ∀ t s', St B L loc Z G ad ob us s₀ s' → Q (.int (i * j) t) s') : WP pw w A (binaryOp .Mult (.int i t) (.int j u)) Q E s := by delta WP; exact mul_int (h _ _ (S.toks _)) ok
theorem r_lt (h : Q (.bool (decide (i < j))) s) : WP pw w A (compareOp .Lt (.int i t) (.int j u)) Q E s := by delta WP; exact lt_int h
theorem r_gt (h : Q (.bool (decide (j < i))) s) : WP pw w A (compareOp .Gt (.int i t) (.int j u)) Q E s := by delta WP; exact gt_int h
theorem r_ge (h : Q (.bool (decide (j ≤ i))) s) : WP pw w A (compareOp .GtE (.int i t) (.int j u)) Q E s := by delta WP; exact ge_int h
theorem r_eq (h : Q (.bool (i == j)) s) : WP pw w A (compareOp .Eq (.int i t) (.int j u)) Q E s := by delta WP; exact eq_int h
theorem r_ne (h : Q (.bool (i != j)) s) : WP pw w A (compareOp .NotEq (.int i t) (.int j u)) Q E s := by delta WP; exact ne_int h
end
theorem r_truthy {b : Bool} {Q : Bool → Shared → Prop} (h : Q b s) : WP pw w A (truthy (.bool b)) Q E s := by delta WP; exact wpAny_truthy_bool h
theorem r_store {Q : Unit → Shared → Prop} (S : St B L loc Z G ad ob us s₀ s) (h : ∀ s', St B L ((x, v) :: loc) Z G ad ob us s₀ s' → Q () s') (hE : EnvOk env L := by exact ⟨rfl, rfl, rfl, rfl⟩) (hx : env.kindOf x = some .local := by rfl) :
    WP pw w A (storeName env x v) Q E s := by
  delta WP
  obtain ⟨m, F, hm⟩ := S.F
  obtain ⟨rfl, hk, _, _⟩ := hE
  exact wpAny_storeName_local hx F.ns (fun h' hn hs => h _ (S.store hm F hn hs _)) (by rw [hk]; rfl)
theorem r_bindName {Q : Unit → Shared → Prop} (h : WP pw w A (storeName env x v) Q E s) : WP pw w A (bindName env x v) Q E s := by delta WP at *; exact wpAny_bindName h
theorem r_inOrder0 {xs : List Value} {Q : Unit → Shared → Prop} (h : Q () s) : WP pw w A (assignInOrder [] xs) Q E s := by delta WP; exact assignInOrder_nil h
theorem r_inOrder {t : Value → Sem Unit} {ts : List (Value → Sem Unit)} {y : Value} {ys : List Value} {Q : Unit → Shared → Prop} (h : WP pw w A (t y) (fun _ s₁ => WP pw w A (assignInOrder ts ys) Q E s₁) E s) : WP pw w A (assignInOrder (t :: ts) (y :: ys)) Q E s := by
  delta WP at *; exact assignInOrder_cons h
theorem r_asName {Q : Unit → Shared → Prop} (h : WP pw w A (storeName env x v) Q E s) : WP pw w A (assign (.Name x pos) env v) Q E s := by delta WP at *; exact wpAny_assign_Name h
theorem br {c : Prop} [Decidable c] {P R : Prop} (h1 : c → P) (h2 : ¬ c → R) : if decide c = true then P else R := by
  by_cases q : c
  · rw [if_pos (decide_eq_true q)]; exact h1 q
  · rw [if_neg (by rw [decide_eq_false q]; exact Bool.false_ne_true)]; exact h2 q
theorem r_tuple {vs : List Value} (S : St B L loc Z G ad ob us s₀ s) (h : ∀ a s', St B L loc Z G ad ob us s₀ s' → s'.heap.get? a = some (tupO vs) → (∀ k, us k → ad k ≠ a) → Q (.ref a) s') (hsz : vs.length ≤ 1000 := by exact Nat.le_of_ble_eq_true rfl) : WP pw w A (newTuple vs) Q E s := by
  delta WP
  refine wpAny_newObj_type (h _ _ (S.push _) (Heap.get?_push_size _ rfl) S.fresh) ?_
  show vs.toArray.size ≤ sizeLine
  rw [List.size_toArray]; exact Nat.le_trans hsz (by decide)
structure New (Z G : Addr → Obj → Prop) (ad : Nat → Addr) (us : Nat → Prop) (L : Addr) (a : Addr) : Prop where
  k : ∀ k, us k → ad k ≠ a
  z : ∀ o, ¬ Z a o
  g : ∀ o, ¬ G a o
  l : a ≠ L
theorem r_list {vs : List Value} (S : St B L loc Z G ad ob us s₀ s) (h : ∀ a s', St B L loc Z G ad ob us s₀ s' → s'.heap.get? a = some (lstO vs) → New Z G ad us L a → Q (.ref a) s') (hsz : vs.length ≤ 1000 := by exact Nat.le_of_ble_eq_true rfl) : WP pw w A (newList vs) Q E s := by
  delta WP
  refine wpAny_newObj_type (h _ _ (S.push _) (Heap.get?_push_size _ rfl) ⟨S.fresh, fun o z => ?_, fun o z => ?_, ?_⟩) ?_
  · exact Nat.lt_irrefl _ (Heap.lt_size (S.H.sil _ o z))
  · exact Nat.lt_irrefl _ (Heap.lt_size (S.H.imm _ o z).1)
  · obtain ⟨m, F, _⟩ := S.F
    obtain ⟨oL, _, _, hL, _⟩ := F.ns
    exact Nat.ne_of_gt (Heap.lt_size hL)
  · show vs.toArray.size ≤ sizeLine
    rw [List.size_toArray]; exact Nat.le_trans hsz (by decide)
theorem isTup_of {h : Heap} {a : Addr} {vs : List Value} (e : h.get? a = some (tupO vs)) : IsTup h a vs.toArray := ⟨_, e, rfl, _, rfl⟩
theorem ext_size {h h' : Heap} (e : Heap.ExtBut h.objs.size h h') : ∀ b o, h.get? b = some o → h'.get? b = some o := fun b o q => e b o (Nat.ne_of_lt (Heap.lt_size q)) q
theorem r_unpack {elts : List Expr} {k : Nat} {t : Addr} {vs : List Value} {Q : Unit → Shared → Prop} (S : St B L loc Z G ad ob us s₀ s) (hh : A.handled = none) (ht : s.heap.get? t = some (tupO vs))
    (h : ∀ s', St B L loc Z G ad ob us s₀ s' → WP pw w A (assignInOrder ((assignEach elts env).map (·.2)) vs) Q E s')
    (hn : (assignEach elts env).length = vs.length := by rfl) (hstar : (assignEach elts env).findIdx? (·.1) = none := by rfl) :
    WP pw w A (assign (.Tuple elts k pos) env (.ref t)) Q E s := by
  delta WP at *
  exact assign_Tuple_tuple hh (isTup_of ht) (by rw [hn, List.size_toArray]) hstar fun h' e => h _ (S.ext (ext_size e) _)
theorem r_unpackN {n : Nat} {t : Addr} {vs : List Value} {Q : List Value → Shared → Prop} (S : St B L loc Z G ad ob us s₀ s) (hh : A.handled = none) (ht : s.heap.get? t = some (tupO vs)) (h : ∀ s', St B L loc Z G ad ob us s₀ s' → Q vs s')
    (hn : n = vs.length := by rfl) : WP pw w A (unpackItems (.ref t) n none) Q E s := by
  delta WP
  subst hn
  have e : vs.length = vs.toArray.size := by rw [List.size_toArray]
  rw [e]
  exact unpackItems_tuple hh (isTup_of ht) fun h' e => h _ (S.ext (ext_size e) _)
theorem r_callG {fa : Addr} {f : Str} {e : Expr} {rest : List Expr} {np : Pos} (C : Cx w B) (S : St B L loc Z G ad ob us s₀ s) (hg : nsIn (KK w) mainGlobals f = some (some (.ref fa))) (hk : keepIn (KK w) (.ref fa) = true)
    (h : WP pw w A (spliced (backTo pos (starEach (e :: rest) env))) (fun vs s₁ => (KK w).In s₁.heap ∧ WP pw w A (call (.ref fa) vs) Q E s₁) E s)
    (hE : EnvOk env L := by exact ⟨rfl, rfl, rfl, rfl⟩) (hx : env.kindOf f = some .globalImplicit := by rfl) (hd : (f == ("__debug__" : Str)) = false := by rfl)
    (he : starEach (e :: rest) env = (false, eval e env) :: starEach rest env := by rfl) (hplain : (backTo pos (starEach rest env)).any (·.1) = false := by rfl)
    (hc : eval (.Call (.Name f np) (e :: rest) [] pos) env = (do callWith pos (← eval (.Name f np) env) [] (backTo pos (starEach (e :: rest) env)) (backToKw pos (keywordEach [] env))) := by rfl) :
    WP pw w A (eval (.Call (.Name f np) (e :: rest) [] pos) env) Q E s := by
  refine .of (Call_ (WP.out (r_glob C S hg (callWith_K (S.K C) hk ?_ he hplain) hE hx hd)) hc)
  delta WP at h; exact h
noncomputable def Zp (us : Nat → Prop) (ad : Nat → Addr) (s : Shared) : Addr → Obj → Prop := fun a o => s.heap.get? a = some o ∧ ∀ k, us k → ad k ≠ a
theorem St.lend (S : St B L loc Z G ad ob us s₀ s) : ∃ Z', Hp B Z' G ad ob us s.heap ∧ ∀ G' ad' ob' us' s', Hp B Z' G' ad' ob' us' s'.heap → Same s s' → St B L loc Z G' ad' ob' us' s₀ s' := by
  obtain ⟨m, F, hm⟩ := S.F
  obtain ⟨oL, es, ep, hL, r⟩ := F.ns
  refine ⟨Zp us ad s, ⟨S.H.bs, fun a o e => ⟨F.keep a o e, fun k u q => (S.H.dis k u).1 o (q ▸ S.H.bz a o e)⟩, fun a o z => z.1, S.H.imm, S.H.own, fun k u => ⟨fun o z => z.2 k u rfl, (S.H.dis k u).2⟩, S.H.inj⟩, fun G' ad' ob' us' s' H' hs => ?_⟩
  have hL' : s'.heap.get? L = some oL := H'.sil L oL ⟨hL, S.na⟩
  have keep : ∀ b o, Z b o → s'.heap.get? b = some o := fun b o z => H'.sil b o ⟨S.H.sil b o z, fun k u q => (S.H.dis k u).1 o (q ▸ z)⟩
  refine ⟨⟨m, ⟨⟨oL, es, ep, hL', r⟩, fun b o e => keep b o (S.H.bz b o e), F.above⟩, hm⟩, ⟨H'.bs, S.H.bz, keep, H'.imm, H'.own, fun k u => ⟨fun o z => (H'.dis k u).1 o ⟨S.H.sil _ _ z, fun j uj q => (S.H.dis j uj).1 o (q ▸ z)⟩, (H'.dis k u).2⟩, H'.inj⟩, S.nz, fun k u q => (H'.dis k u).1 oL (q ▸ ⟨hL, S.na⟩), S.S.trans hs⟩
theorem r_enterE {R : Result → Shared → Prop} {name qual : Str} {params : Arguments} {body : List Stmt} {scope : Scope} {dV kV doc pm cdv ct oc : Value} {an od : Option Addr} {osl : Array (Option Value)} {f : Addr} {args : Args} (binds : List (Str × Value))
    (C : Cx w B) (H : Hp B Z G ad ob us s.heap) (hA : A.depth < recursionLimit)
    (ho : (KK w).lookup f = some ⟨oc, od, .func (fnOf name qual params body scope dV kV doc pm an cdv ct), osl⟩) (hcd : codeIn (KK w) cdv qual = true)
    (hbind : BindsTo s (fnOf name qual params body scope dV kV doc pm an cdv ct) args binds) (hloc : ∀ y ∈ binds, scope.names.lookup y.1 = some .local)
    (h : ∀ L s', St B L binds.reverse Z G ad ob us s s' →
      WP pw w (A.deeper (envX qual scope L f cdv [])) (execs body (envX qual scope L f cdv [])) (fun fl s' => R (.ok (.ret (match fl with | .ret v => v | _ => .none))) s')
        (fun e s' => wpAny (model pw w) (A.deeper (envX qual scope L f cdv [])) (leaving (envX qual scope L f cdv []) e) (fun _ s'' => R (.error e) s'') (fun e' s'' => R (.error e') s'') s') s')
    (hco : scope.isCoroutine = false := by rfl) (hgen : scope.isGenerator = false := by rfl) (hk : scope.kind = .function := by rfl)
    (hcell : ∀ x ∈ scope.names, x.2 ≠ .cell := by decide) : codeAny (model pw w) A (.call (.ref f) args) R s := by
  obtain ⟨X, mean, mg, mb, T⟩ := id C
  refine codeAny_call_def (fd := fnOf name qual params body scope dV kV doc pm an cdv ct) (body := body) (binds := binds) hA ((X.keeps H.base) _ _ ho) rfl (T.nolimit.keeps H.base) (codeRec_of (X.keeps H.base) hcd) rfl hbind hcell hloc (fun h₁ hns hk₁ => ?_) hco hgen hk
  obtain ⟨oL, _, _, hL, _⟩ := id hns
  exact (h s.heap.objs.size { s with heap := h₁, toks := s.toks + binds.length } ⟨⟨_, ⟨hns, fun b o e => hk₁ b o (H.base b o e), H.bs⟩, fun _ _ e => e⟩, H.ext hk₁ (Nat.le_of_lt (Heap.lt_size hL)), fun o z => Nat.lt_irrefl _ (Heap.lt_size (H.sil _ o z)), fun k u q => Nat.lt_irrefl _ (q ▸ H.ltOwn u), ⟨rfl, rfl, rfl⟩⟩).out
theorem r_call {name qual : Str} {params : Arguments} {body : List Stmt} {scope : Scope} {dV kV doc pm cdv ct oc : Value} {an od : Option Addr} {osl : Array (Option Value)} {f : Addr} {args : List Value} {n : Nat} (binds : List (Str × Value))
    (C : Cx w B) (H : Hp B Z G ad ob us s.heap) (hA : Rm A (n + 1))
    (ho : (KK w).lookup f = some ⟨oc, od, .func (fnOf name qual params body scope dV kV doc pm an cdv ct), osl⟩) (hcd : codeIn (KK w) cdv qual = true)
    (hbind : BindsTo s (fnOf name qual params body scope dV kV doc pm an cdv ct) ⟨args, []⟩ binds) (hloc : ∀ y ∈ binds, scope.names.lookup y.1 = some .local)
    (h : ∀ A' L s', Rm A' n → St B L binds.reverse Z G ad ob us s s' →
      WP pw w A' (execs body (envX qual scope L f cdv [])) (fun fl s' => Q (match fl with | .ret v => v | _ => .none) s') (fun _ _ => False) s')
    (hco : scope.isCoroutine = false := by rfl) (hgen : scope.isGenerator = false := by rfl) (hk : scope.kind = .function := by rfl)
    (hcell : ∀ x ∈ scope.names, x.2 ≠ .cell := by decide) : WP pw w A (call (.ref f) args) Q E s :=
  .of (wpAny_call (r_enterE binds C H hA.d ho hcd hbind hloc (fun L s' S' => (h _ L s' hA.deeper S').mono (fun _ _ y => y) fun _ _ y => y.elim) hco hgen hk hcell))
theorem ok2 (j : Int) : IntMulOk 2 j := IntMulOk.of_left (by decide)
theorem np_small {x y : Int} (h1 : -(2 ^ 200 : Int) < y) (h2 : y < 2 ^ 200) : Builtin.divisionGoesByPylong x y = false := by
  unfold Builtin.divisionGoesByPylong
  have hn : y.natAbs < 2 ^ 200 := oq324 h1 h2
  have : (if y == 0 then 0 else y.natAbs.log2 / 30 + 1) ≤ 300 := by
    split
    · exact oq325
    · rename_i q
      have q0 : y.natAbs ≠ 0 := by
        intro e
        exact q (by simpa using Int.natAbs_eq_zero.mp e)
      have := (Nat.log2_lt q0).mpr hn
      exact oq326 this
  have d : decide ((if y == 0 then 0 else y.natAbs.log2 / 30 + 1) > 300) = false := decide_eq_false (oq327 this)
  exact Bool.and_eq_false_iff.mpr (.inl d)
end
noncomputable def tk (s : Shared) : Shared := { s with toks := s.toks + 1 }
structure Nx (w : World) (A : Around) (env : Env) (rest : List Stmt) (Q : Flow → Shared → Prop) (E : Value → Shared → Prop) (Q' : Flow → Shared → Prop) : Prop where
  nx : ∀ s', WP pw w A (execs rest env) Q E s' → Q' .next s'
  ot : ∀ f s', f ≠ .next → Q f s' → Q' f s'
section
variable {ad : Nat → Addr} {ob : Nat → Obj} {i j : Int} {t u : Tok} {x : Str} {v : Value}
theorem St.tk (S : St B L loc Z G ad ob us s₀ s) : St B L loc Z G ad ob us s₀ (tk s) := S.toks _
theorem land {P : Shared → Prop} (S : St B L loc Z G ad ob us s₀ s) (h : ∀ s', St B L loc Z G ad ob us s₀ s' → P s') : P (tk s) := h _ S.tk
theorem n_int {k : Nat} (h : Q (.int i s.toks) (tk s)) : WP pw w A (eval (.Constant (.int i) k pos) env) Q E s := by delta WP; exact wpAny_Constant_int h
theorem n_add (h : Q (.int (i + j) s.toks) (tk s)) : WP pw w A (binaryOp .Add (.int i t) (.int j u)) Q E s := by delta WP; exact add_int h
theorem n_sub (h : Q (.int (i - j) s.toks) (tk s)) : WP pw w A (binaryOp .Sub (.int i t) (.int j u)) Q E s := by delta WP; exact sub_int h
theorem n_mul (ok : IntMulOk i j) (h : Q (.int (i * j) s.toks) (tk s)) : WP pw w A (binaryOp .Mult (.int i t) (.int j u)) Q E s := by delta WP; exact mul_int h ok
theorem n_div (n0 : j ≠ 0) (np : Builtin.divisionGoesByPylong i j = false) (h : Q (.int (Int.fdiv i j) s.toks) (tk s)) : WP pw w A (binaryOp .FloorDiv (.int i t) (.int j u)) Q E s := by
  delta WP; exact floordiv_int n0 h (.inl np)
theorem n_mod (n0 : j ≠ 0) (h : Q (.int (Int.fmod i j) s.toks) (tk s)) : WP pw w A (binaryOp .Mod (.int i t) (.int j u)) Q E s := by delta WP; exact mod_int' n0 h
theorem n_neg (h : Q (.int (-i) s.toks) (tk s)) : WP pw w A (unaryOp .USub (.int i t)) Q E s := by delta WP; exact neg_int h
theorem r_consX {st : Stmt} {rest : List Stmt} {Q : Flow → Shared → Prop} (h : ∀ Q', Nx w A env rest Q E Q' → WP pw w A (exec st env) Q' E s) : WP pw w A (execs (st :: rest) env) Q E s :=
  r_cons (h _ ⟨fun _ x => x, fun f s' n x => by cases f <;> first | exact x | exact absurd rfl n⟩)
theorem nx_next {rest : List Stmt} {Q Q' : Flow → Shared → Prop} {s' : Shared} (N : Nx w A env rest Q E Q') (h : WP pw w A (execs rest env) Q E s') : Q' .next s' := N.nx _ h
theorem nx_ret {rest : List Stmt} {Q Q' : Flow → Shared → Prop} {s' : Shared} {v : Value} (N : Nx w A env rest Q E Q') (h : Q (.ret v) s') : Q' (.ret v) s' := N.ot _ _ (fun e => by cases e) h
theorem r_storeL {Q : Unit → Shared → Prop} (S : St B L loc Z G ad ob us s₀ s) (h : ∀ s', let l := (x, v) :: loc; St B L l Z G ad ob us s₀ s' → Q () s') (hE : EnvOk env L := by exact ⟨rfl, rfl, rfl, rfl⟩) (hx : env.kindOf x = some .local := by rfl) :
    WP pw w A (storeName env x v) Q E s := r_store S h hE hx
end
local macro_rules | `(tactic| walk_at "s") => `(tactic| first | assumption | (apply St.tk; walk_at "s"))
local macro_rules | `(⋯) => `((by walk_at "s"))
local macro_rules | `(tactic| walk_at "i") => `(tactic| (refine n_int ?_; refine land ⋯ ?_; intro _ _))
local macro_rules | `(tactic| walk_at "l") => `(tactic| refine r_loc ⋯ rfl ?_)
local macro_rules | `(tactic| walk_at "d") => `(tactic| (refine land ⋯ ?_; intro _ _))
local macro_rules | `(tactic| walk_at "k") => `(tactic| refine ⟨St.K ⋯ ⋯, ?_⟩)
local macro_rules | `(tactic| walk_at "e") => `(tactic| (refine nx_next ⋯ ?_; clear $(Lean.mkIdent `Nc):ident $(Lean.mkIdent `Qc):ident))
local macro_rules | `(tactic| walk_at "c") => `(tactic| (refine r_consX ?_; intro $(Lean.mkIdent `Qc):ident $(Lean.mkIdent `Nc):ident))
local macro_rules | `(tactic| walk_at "n") => `(tactic| (walk_at "e"; walk_at "c"))
local macro_rules | `(tactic| walk_at "t") => `(tactic| (refine r_storeL ⋯ ?_; intro _ $(Lean.mkIdent `lc):ident _))
noncomputable def DictIs (o : Obj) (mf : Str → Option Value) (n : Nat) : Prop := ∃ es ep, o = dictOf es ep ∧ es.length ≤ n ∧ ∀ x, getL x es = some (mf x)
theorem getL_nil (x : Str) : getL x [] = some none := rfl
theorem getL_cons (x : Str) (e : DictEntry) (r : List DictEntry) : getL x (e :: r) = if e.key.isStr x then some (some e.val) else match getL x r with
    | some (some v) => some (some v)
    | some none => if e.refKey then none else some none
    | none => none := by
  unfold getL
  rw [List.find?_cons]
  cases h : e.key.isStr x with
  | true => rfl
  | false =>
    simp only [Bool.false_eq_true, if_false]
    cases q : List.find? (fun z => z.key.isStr x) r with
    | some e' => rfl
    | none =>
      simp only [List.any_cons]
      by_cases h1 : e.refKey = true <;> by_cases h2 : (r.any fun x => x.refKey) = true <;> simp [h1, h2]
theorem getL_put {name : Str} {hsh : Int} {t : Tok} {v : Value} : ∀ {es : List DictEntry} (x : Str), (getL name es).isSome = true →
    getL x (putL name hsh (.str name t) v es) = if x = name then some (some v) else getL x es
  | [], x, _ => by
    show getL x [⟨hsh, .str name t, v⟩] = _
    rw [getL_cons]
    by_cases q : x = name
    · subst q
      rw [if_pos rfl]
      have : (Value.str x t).isStr x = true := by simp [Value.isStr]
      rw [if_pos this]
    · rw [if_neg q]
      have : ¬ ((Value.str name t).isStr x = true) := by simp [Value.isStr]; exact fun z => q z.symm
      rw [if_neg this]
      rfl
  | e :: r, x, h => by
    unfold putL
    by_cases k : e.key.isStr name = true
    · rw [if_pos k, getL_cons, getL_cons]
      dsimp only
      by_cases q : x = name
      · subst q
        rw [if_pos k, if_pos rfl]
      · rw [if_neg q]
        have k' : e.key.isStr x = false := by
          cases hk : e.key <;> rw [hk] at k <;> simp_all [Value.isStr]
          exact fun z => q z.symm
        simp only [k', Bool.false_eq_true, if_false]
        rfl
    · rw [if_neg k, getL_cons, getL_cons]
      have hr : (getL name r).isSome = true := by
        rw [getL_cons, if_neg k] at h
        cases g : getL name r with
        | none => rw [g] at h; cases h
        | some z => rfl
      rw [getL_put x hr]
      by_cases q : x = name
      · subst q
        rw [if_neg k, if_pos rfl]
        simp
      · rw [if_neg q, if_neg q]
theorem putL_len {name : Str} {hsh : Int} {key v : Value} : ∀ {es : List DictEntry}, (putL name hsh key v es).length ≤ es.length + 1
  | [] => Nat.le_refl _
  | e :: r => by
    unfold putL
    split
    · exact Nat.le_succ _
    · exact Nat.succ_le_succ (putL_len (es := r))
theorem putL_len_same {name : Str} {hsh : Int} {key v u : Value} : ∀ {es : List DictEntry}, getL name es = some (some u) → (putL name hsh key v es).length = es.length
  | [], h => by cases h
  | e :: r, h => by
    unfold putL
    split
    · rfl
    · rename_i k
      rw [getL_cons, if_neg k] at h
      cases g : getL name r with
      | none => rw [g] at h; cases h
      | some z =>
        cases z with
        | none => rw [g] at h; dsimp only at h; split at h <;> cases h
        | some z => rw [List.length_cons, putL_len_same g]; rfl
structure ClsA (w : World) (Cc : Addr) (name : Str) : Prop where
  pg : plainGet (KK w) Cc name = true
  hd : hasDictIn (KK w) Cc = true
  fi : findIn (KK w) (.ref Cc) name = some none
  sa : findIn (KK w) (.ref Cc) "__setattr__" = some (some (.builtin "object.__setattr__"))
  po : plainOver (KK w) Cc = true
  tk : takerIn (KK w) Cc name = some none
structure ClsM (w : World) (Cc : Addr) (name : Str) (f : Addr) : Prop where
  pg : plainGet (KK w) Cc name = true
  fi : findIn (KK w) (.ref Cc) name = some (some (.ref f))
  fn : isFn (KK w) (.ref f) = true
  kp : keepIn (KK w) (.ref f) = true
section
variable {ad : Nat → Addr} {ob : Nat → Obj} {a : Addr} {name : Str} {v : Value} {x Cc : Addr} {k n : Nat}
theorem instAt_of (S : St B L loc Z G ad ob us s₀ s) (hG : G x (instObj Cc (ad k))) (u : us k) {es : List DictEntry} {ep : Nat} (e : ob k = dictOf es ep) : W.InstAt s.heap x (instObj Cc (ad k)) Cc (some (dictOf es ep)) :=
  ⟨(S.H.imm _ _ hG).1, rfl, rfl, by rw [← e]; exact S.H.own k u⟩
theorem r_get {expr : Bool} (C : Cx w B) (S : St B L loc Z G ad ob us s₀ s) (hG : G x (instObj Cc (ad k))) (u : us k) (hd : DictIs (ob k) mf n) (cf : ClsA w Cc name) (hm : mf name = some v) (hv : handedIn v = true)
    (h : ∀ s', St B L loc Z G ad ob us s₀ s' → Q v s') : WP pw w A (getAttr (.ref x) name expr) Q E s := by
  obtain ⟨es, ep, e, _, hf⟩ := hd
  obtain ⟨m, F, _⟩ := S.F
  delta WP
  refine get_own F C.1 (instAt_of S hG u e) cf.pg cf.hd cf.fi ?_ (by rw [hf, hm]) hv (h _ (S.toks _))
  rfl
theorem r_meth {pl : Sem Bool} {f : Addr} {Q : Value × List Value → Shared → Prop} (C : Cx w B) (S : St B L loc Z G ad ob us s₀ s) (hG : G x (instObj Cc (ad k))) (u : us k) (hd : DictIs (ob k) mf n) (cf : ClsM w Cc name f) (hm : mf name = none)
    (h : Q (.ref f, [.ref x]) s) : WP pw w A (getMethod (.ref x) name pl) Q E s := by
  obtain ⟨es, ep, e, _, hf⟩ := hd
  obtain ⟨m, F, _⟩ := S.F
  delta WP
  exact method_inst F C.1 (instAt_of S hG u e) cf.pg cf.fi cf.fn (by rw [hf, hm]) h
theorem osa_turn {R : Result → Shared → Prop} {tk : Tok} {es : List DictEntry} {ep : Nat} {dx : Addr} (X : (KK w).In s.heap) (I : W.InstAt s.heap x (instObj Cc dx) Cc (some (dictOf es ep))) (cf : ClsA w Cc name)
    (hl : (getL name es).isSome = true) (hz : (putL name (PyData.keyHash w.params name) (.str name s.toks) v es).length ≤ 1000)
    (h : ∀ h', Heap.SameBut dx s.heap h' → h'.get? dx = some (dictOf (putL name (PyData.keyHash w.params name) (.str name s.toks) v es) (putN name es ep)) → R (.ok (.ret .none)) { s with heap := h', toks := s.toks + 1 }) :
    codeAny (model pw w) A (.call (.builtin "object.__setattr__") ⟨[.ref x, .str name tk, v], []⟩) R s := by
  refine osa_open X I cf.po cf.tk fun b => ?_
  obtain ⟨cd, hc, hd'⟩ := any_some cf.hd
  obtain ⟨hx, hcl, hn, D⟩ := I
  have D : s.heap.get? dx = some (dictOf es ep) := D
  have hp := putName_dict name (PyData.keyHash w.params name) (.str name s.toks) v es ep
  have D' : (s.heap.update dx (Obj.putName name (PyData.keyHash w.params name) (.str name s.toks) v)).get? dx = some (dictOf (putL name (PyData.keyHash w.params name) (.str name s.toks) v es) (putN name es ep)) := by
    rw [Heap.get?_update_self _ D (by rw [hp]; rfl), hp]
  refine wpAny_bind (wpAny_pure (wpAny_bind (wpAny_bind (wpAny_loadPart hx (wpAny_bind ((looks_clsIn X hc).here ?_))))))
  rw [hd']
  refine wpAny_pure (a := some dx) (wpAny_bind (wpAny_pure (wpAny_bind ?_)))
  unfold nsSet
  refine wpAny_bind (wpAny_bind (wpAny_askSetting (wpAny_pure (wpAny_bind (wpAny_mkText (wpAny_bind (wpAny_loadPart D ?_)))))))
  dsimp only
  have c : (!es.any (·.key.isStr name) && es.any (·.refKey)) = false := by
    unfold getL at hl
    split at hl
    · rename_i en he
      rw [List.any_eq_true.mpr ⟨en, List.mem_of_find?_eq_some he, List.find?_some he⟩]; rfl
    · split at hl
      · cases hl
      · rename_i z; rw [Bool.not_eq_true] at z; rw [z, Bool.and_false]
  rw [aRefKeyMayBeTheName_at, List.any_toArray, List.any_toArray, c]
  refine wpAny_updatePart D ?_
  refine wpAny_bind (wpAny_lookBehind D' (pastItsLine_dict (by rw [List.size_toArray, sizeLine_eq]; exact oq540 hz)) ?_)
  exact wpAny_pure (h _ (Heap.SameBut.update ..) D')
theorem r_set {Q : Unit → Shared → Prop} (C : Cx w B) (S : St B L loc Z G ad ob us s₀ s) (hG : G x (instObj Cc (ad k))) (u : us k) (hd : DictIs (ob k) mf n) (cf : ClsA w Cc name) (hn : n < 1000)
    (h : ∀ o s', DictIs o (fun y => if y = name then some v else mf y) (if (mf name).isSome then n else n + 1) → St B L loc Z G ad (up ob k o) us s₀ s' → Q () s') : WP pw w A (setAttr (.ref x) name v) Q E s := by
  obtain ⟨es, ep, e, hlen, hf⟩ := hd
  have X := S.K C
  delta WP
  refine set_plain X (instAt_of S hG u e) cf.sa ?_
  have hs : (getL name es).isSome = true := by rw [hf]; rfl
  refine osa_turn (s := { s with toks := s.toks + 1 }) X (instAt_of S hG u e) cf hs (Nat.le_trans putL_len (oq541 hn hlen)) fun h' hsb ho => ?_
  refine h _ _ ⟨_, _, rfl, ?_, fun y => ?_⟩ (S.turn u hsb ho _)
  · cases q : mf name with
    | none =>
      have := putL_len (name := name) (hsh := PyData.keyHash w.params name) (key := .str name (s.toks + 1)) (v := v) (es := es)
      simp only [Option.isSome_none, Bool.false_eq_true, if_false]
      exact Nat.le_trans this (Nat.succ_le_succ hlen)
    | some q' =>
      simp only [Option.isSome_some, if_true]
      rw [putL_len_same (by rw [hf, q])]
      exact hlen
  · rw [getL_put y hs, hf]
    by_cases q : y = name
    · simp only [if_pos q]
    · simp only [if_neg q]
end
theorem IsL.at {h : Heap} {a : Addr} {o : Obj} {vs : List Value} (e : h.get? a = some o) (l : IsL o vs) : h.IsList a vs.toArray := ⟨o, e, l.1, l.2⟩
section
variable {ad : Nat → Addr} {ob : Nat → Obj} {a : Addr} {name : Str} {v : Value} {x Cc : Addr} {k n : Nat} {i : Int} {u : Tok} {o : Obj}
theorem tail_list (hl : s.heap.IsList a vs.toArray) (h0 : 0 ≤ i) (hi : i < 2 ^ 62) (hx : vs[i.toNat]? = some v) (h : Q v s)
    (hs : subscripted slice false (.ref a) (.int i u) = operate [.ref a, .int i u] (getItem (.ref a) (.int i u)) := by with_unfolding_all rfl) : WP pw w A (subscriptTail value slice (.ref a) (.int i u)) Q E s := by
  delta WP
  exact tail_any hl.typeIs slot_list_getitem.lookup (wpAny_getItem_list hl h0 (oq93 hi) (by simpa using hx) h) hs
theorem r_item {j : Nat} (S : St B L loc Z G ad ob us s₀ s) (hG : G a (tupO vs)) (hj : seqIndex? i vs.length = some j) (hx : vs[j]? = some v) (h : Q v s) (hlo : -(2 ^ 63) ≤ i := by decide) (hhi : i < 2 ^ 63 := by decide)
    (hs : subscripted slice false (.ref a) (.int i u) = operate [.ref a, .int i u] (getItem (.ref a) (.int i u)) := by with_unfolding_all rfl) : WP pw w A (subscriptTail value slice (.ref a) (.int i u)) Q E s := by
  delta WP
  exact item_tupleT (isTup_of (S.H.imm _ _ hG).1) hlo hhi hj hx h hs
theorem r_litem (S : St B L loc Z G ad ob us s₀ s) (hu : us k) (hl : IsL (ob k) vs) (h0 : 0 ≤ i) (hi : i < 2 ^ 62) (hx : vs[i.toNat]? = some v) (h : Q v s)
    (hs : subscripted slice false (.ref (ad k)) (.int i u) = operate [.ref (ad k), .int i u] (getItem (.ref (ad k)) (.int i u)) := by with_unfolding_all rfl) : WP pw w A (subscriptTail value slice (.ref (ad k)) (.int i u)) Q E s :=
  tail_list (IsL.at (S.H.own k hu) hl) h0 hi hx h hs
theorem r_gitem (S : St B L loc Z G ad ob us s₀ s) (hG : G a o) (hl : IsL o vs) (h0 : 0 ≤ i) (hi : i < 2 ^ 62) (hx : vs[i.toNat]? = some v) (h : Q v s)
    (hs : subscripted slice false (.ref a) (.int i u) = operate [.ref a, .int i u] (getItem (.ref a) (.int i u)) := by with_unfolding_all rfl) : WP pw w A (subscriptTail value slice (.ref a) (.int i u)) Q E s :=
  tail_list (IsL.at (S.H.imm _ _ hG).1 hl) h0 hi hx h hs
theorem r_setitem {Q : Unit → Shared → Prop} (S : St B L loc Z G ad ob us s₀ s) (hu : us k) (hl : IsL (ob k) vs) (h0 : 0 ≤ i) (hi : i < vs.length) (hn : vs.length < 2 ^ 62)
    (h : ∀ o s', IsL o (vs.set i.toNat v) → St B L loc Z G ad (up ob k o) us s₀ s' → Q () s') : WP pw w A (setItem (.ref (ad k)) (.int i u) v) Q E s := by
  delta WP
  refine wpAny_setItem_list (IsL.at (S.H.own k hu) hl) h0 (oq94 hi hn) (by simpa using hi) fun h' hl' hs' => ?_
  obtain ⟨o, ho, hc, m, hd⟩ := hl'
  exact h o _ ⟨hc, m, by rw [hd]; simp⟩ (S.turn hu hs' ho _)
theorem r_len (S : St B L loc Z G ad ob us s₀ s) (hl : s.heap.IsList a vs.toArray) (hn : vs.length < 2 ^ 62) (h : ∀ t s', St B L loc Z G ad ob us s₀ s' → Q (.int vs.length t) s') : WP pw w A (call (.builtin "len") [.ref a]) Q E s := by
  delta WP
  refine Calls.call_len_list hl (by rw [List.size_toArray]; exact oq95 hn) ?_
  rw [List.size_toArray]
  exact h _ _ (S.toks _)
theorem r_lenK (S : St B L loc Z G ad ob us s₀ s) (hu : us k) (hl : IsL (ob k) vs) (hn : vs.length < 2 ^ 62) (h : ∀ t s', St B L loc Z G ad ob us s₀ s' → Q (.int vs.length t) s') : WP pw w A (call (.builtin "len") [.ref (ad k)]) Q E s :=
  r_len S (IsL.at (S.H.own k hu) hl) hn h
theorem r_lenG (S : St B L loc Z G ad ob us s₀ s) (hG : G a o) (hl : IsL o vs) (hn : vs.length < 2 ^ 62) (h : ∀ t s', St B L loc Z G ad ob us s₀ s' → Q (.int vs.length t) s') : WP pw w A (call (.builtin "len") [.ref a]) Q E s :=
  r_len S (IsL.at (S.H.imm _ _ hG).1 hl) hn h
theorem r_lmeth {id : String} {pl : Sem Bool} {d : Nat} {Q : Value × List Value → Shared → Prop} (S : St B L loc Z G ad ob us s₀ s) (hu : us k) (hl : ob k = listOf vs.toArray d) (slot : Slot "list" name id) (hty : typeOf (.builtin id) = pure (.type "method_descriptor"))
    (h : Q (.builtin id, [.ref (ad k)]) s) : WP pw w A (getMethod (.ref (ad k)) name pl) Q E s := by
  delta WP
  have e := S.H.own k hu
  rw [hl] at e
  exact getMethod_builtin ⟨_, e, rfl⟩ PySem.F.plainAttrs_list slot hty (fun b q => by cases q; exact ⟨_, e, rfl⟩) h
theorem r_append {d : Nat} (S : St B L loc Z G ad ob us s₀ s) (hu : us k) (hl : ob k = listOf vs.toArray d) (hn : vs.length ≤ 1000) (h : ∀ s', St B L loc Z G ad (up ob k (listOf (vs ++ [v]).toArray (d + 1))) us s₀ s' → Q .none s') :
    WP pw w A (call (.builtin "list.append") [.ref (ad k), v]) Q E s := by
  delta WP
  have e := S.H.own k hu
  rw [hl] at e
  refine append_at (hsz := by rw [List.size_toArray, sizeLine_eq]; exact oq96 hn) e fun h' hs ho => h _ (S.turn hu hs ?_ _)
  rw [ho]; simp
theorem r_pop {d : Nat} (S : St B L loc Z G ad ob us s₀ s) (hu : us k) (hl : ob k = listOf (vs ++ [v]).toArray d) (hn : vs.length ≤ 1000) (h : ∀ s', St B L loc Z G ad (up ob k (listOf vs.toArray (d + 1))) us s₀ s' → Q v s') :
    WP pw w A (call (.builtin "list.pop") [.ref (ad k)]) Q E s := by
  delta WP
  have e := S.H.own k hu
  rw [hl] at e
  have hz : (vs ++ [v]).toArray.size ≤ sizeLine := by rw [List.size_toArray, List.length_append, sizeLine_eq]; show vs.length + 1 ≤ _; exact oq97 hn
  have hk : (vs ++ [v]).toArray.size - 1 = vs.length := by rw [List.size_toArray, List.length_append]; rfl
  have hy : (vs ++ [v]).toArray[(vs ++ [v]).toArray.size - 1]? = some v := by rw [hk]; simp
  refine call_meets PySem.F.slot_list_pop ⟨_, e, rfl⟩ PySem.F.entry_list_pop (PySem.F.args_list_pop_1 _) (PySem.MeetsSeq.list_pop_last _ _ d v hy hz) ⟨e, h _ (S.turn hu (Heap.SameBut.update ..) ?_ _)⟩
  have e1 : (vs ++ [v]).toArray.eraseIdxIfInBounds ((vs ++ [v]).toArray.size - 1) = vs.toArray := by
    rw [hk]
    apply Array.ext'
    simp only [List.eraseIdxIfInBounds_toArray]
    rw [List.eraseIdx_append_of_length_le (Nat.le_refl _), Nat.sub_self]
    simp
  have e2 : Obj.mapSeq (fun xs => xs.eraseIdxIfInBounds ((vs ++ [v]).toArray.size - 1)) (W.listOf (vs ++ [v]).toArray d) = W.listOf vs.toArray (d + 1) := by
    show ({ cls := .type "list", data := .seq ((vs ++ [v]).toArray.eraseIdxIfInBounds ((vs ++ [v]).toArray.size - 1)) (if ((vs ++ [v]).toArray.eraseIdxIfInBounds ((vs ++ [v]).toArray.size - 1)).size == (vs ++ [v]).toArray.size then d else d + 1) } : Obj) = _
    rw [e1]
    have : (vs.toArray.size == (vs ++ [v]).toArray.size) = false := by simp
    rw [this]
    rfl
  rw [Heap.get?_update_self _ e (by rw [e2]; rfl), e2]
theorem r_intint {t : Tok} (h : Q (.int i t) s) : WP pw w A (call (.type "int") [.int i t]) Q E s := by delta WP; exact call_int_int h
theorem r_intbool {b : Bool} (S : St B L loc Z G ad ob us s₀ s) (h : ∀ t s', St B L loc Z G ad ob us s₀ s' → Q (.int (if b then 1 else 0) t) s') : WP pw w A (call (.type "int") [.bool b]) Q E s := by delta WP; exact call_int_bool (h _ _ (S.toks _))
theorem r_abs {t : Tok} (S : St B L loc Z G ad ob us s₀ s) (h : ∀ t s', St B L loc Z G ad ob us s₀ s' → Q (.int (if i < 0 then -i else i) t) s') : WP pw w A (call (.builtin "abs") [.int i t]) Q E s := by delta WP; exact call_abs_int fun u tk => h _ _ (S.toks _)
theorem r_max {j : Int} {t : Tok} (S : St B L loc Z G ad ob us s₀ s) (hh : A.handled = none) (h : ∀ t s', St B L loc Z G ad ob us s₀ s' → Q (.int (if j > i then j else i) t) s') : WP pw w A (call (.builtin "max") [.int i t, .int j u]) Q E s := by
  delta WP
  refine max_two_ints hh fun h' tk e => ?_
  have := h (if j > i then u else t) _ (S.ext e tk)
  by_cases c : j > i
  · simpa only [if_pos c] using this
  · simpa only [if_neg c] using this
theorem r_callB {id : String} {e : Expr} {rest : List Expr} {f : Str} {np : Pos} (C : Cx w B) (S : St B L loc Z G ad ob us s₀ s) (hg : nsIn (KK w) mainGlobals f = some none) (hb : bootBuiltins f = some (.builtin id))
    (h : WP pw w A (spliced (backTo pos (starEach (e :: rest) env))) (fun vs s₁ => WP pw w A (call (.builtin id) vs) Q E s₁) E s)
    (hn : f ≠ "__name__" := by decide) (hE : EnvOk env L := by exact ⟨rfl, rfl, rfl, rfl⟩) (hx : env.kindOf f = some .globalImplicit := by rfl) (hd : (f == ("__debug__" : Str)) = false := by rfl)
    (he : starEach (e :: rest) env = (false, eval e env) :: starEach rest env := by rfl) (hplain : (backTo pos (starEach rest env)).any (·.1) = false := by rfl)
    (hc : eval (.Call (.Name f np) (e :: rest) [] pos) env = (do callWith pos (← eval (.Name f np) env) [] (backTo pos (starEach (e :: rest) env)) (backToKw pos (keywordEach [] env))) := by rfl) :
    WP pw w A (eval (.Call (.Name f np) (e :: rest) [] pos) env) Q E s := by
  refine .of (Call_ (WP.out (r_boot C S hg hb (callWith_builtin1 ?_ he hplain) hn hE hx hd)) hc)
  delta WP at h; exact h
theorem r_callT {T : String} {e : Expr} {rest : List Expr} {f : Str} {np : Pos} (C : Cx w B) (S : St B L loc Z G ad ob us s₀ s) (hg : nsIn (KK w) mainGlobals f = some none) (hb : bootBuiltins f = some (.type T))
    (h : WP pw w A (spliced (backTo pos (starEach (e :: rest) env))) (fun vs s₁ => WP pw w A (call (.type T) vs) Q E s₁) E s)
    (hn : f ≠ "__name__" := by decide) (hE : EnvOk env L := by exact ⟨rfl, rfl, rfl, rfl⟩) (hx : env.kindOf f = some .globalImplicit := by rfl) (hd : (f == ("__debug__" : Str)) = false := by rfl)
    (he : starEach (e :: rest) env = (false, eval e env) :: starEach rest env := by rfl) (hplain : (backTo pos (starEach rest env)).any (·.1) = false := by rfl)
    (hc : eval (.Call (.Name f np) (e :: rest) [] pos) env = (do callWith pos (← eval (.Name f np) env) [] (backTo pos (starEach (e :: rest) env)) (backToKw pos (keywordEach [] env))) := by rfl) :
    WP pw w A (eval (.Call (.Name f np) (e :: rest) [] pos) env) Q E s := by
  refine .of (Call_ (WP.out (r_boot C S hg hb (callWith_type1 ?_ he hplain) hn hE hx hd)) hc)
  delta WP at h; exact h
theorem r_callM {e : Expr} {apos : Pos} {args : List Expr} {pl : Sem Bool}
    (h : WP pw w A (eval e env) (fun ov s₁ => WP pw w A (getMethod ov name pl) (fun fx s₂ => WP pw w A (callWith pos fx.1 fx.2 (backTo pos (starEach args env)) []) Q E s₂) E s₁) E s)
    (he : eval (.Call (.Attribute e name apos) args [] pos) env = (do
      let ov ← eval e env
      standAt apos.atName
      let (f, first) ← holding [ov] (getMethod ov name pl)
      callWith pos f first (backTo pos (starEach args env)) (backToKw pos (keywordEach [] env))) := by rfl) :
    WP pw w A (eval (.Call (.Attribute e name apos) args [] pos) env) Q E s := by
  delta WP at *; exact methodCall_KW h he
theorem r_cwK0 {f : Addr} {first : List Value} (C : Cx w B) (S : St B L loc Z G ad ob us s₀ s) (hk : keepIn (KK w) (.ref f) = true) (h : WP pw w A (call (.ref f) (first ++ [])) Q E s) : WP pw w A (callWith pos (.ref f) first (backTo pos (starEach [] env)) []) Q E s := by
  delta WP at *; exact callWith_K0 (S.K C) hk h
theorem r_cwK {f : Addr} {first : List Value} {e : Expr} {rest : List Expr} (C : Cx w B) (S : St B L loc Z G ad ob us s₀ s) (hk : keepIn (KK w) (.ref f) = true)
    (h : WP pw w A (spliced (backTo pos (starEach (e :: rest) env))) (fun vs s₁ => (KK w).In s₁.heap ∧ WP pw w A (call (.ref f) (first ++ vs)) Q E s₁) E s)
    (he : starEach (e :: rest) env = (false, eval e env) :: starEach rest env := by rfl) (hplain : (backTo pos (starEach rest env)).any (·.1) = false := by rfl) : WP pw w A (callWith pos (.ref f) first (backTo pos (starEach (e :: rest) env)) []) Q E s := by
  delta WP at *; exact callWith_K (S.K C) hk h he hplain
theorem r_cwB0 {id : String} {first : List Value} (h : WP pw w A (call (.builtin id) first) Q E s) : WP pw w A (callWith pos (.builtin id) first (backTo pos (starEach [] env)) []) Q E s := by
  delta WP at *
  refine Calls.callWith_builtin rfl (PyProof.Rows.evalArgs_none ?_)
  show wpAny _ _ (call _ (first ++ [])) _ _ _
  rw [List.append_nil]; exact h
theorem r_cwB {id : String} {first : List Value} {e : Expr} {rest : List Expr}
    (h : WP pw w A (spliced (backTo pos (starEach (e :: rest) env))) (fun vs s₁ => WP pw w A (call (.builtin id) (first ++ vs)) Q E s₁) E s)
    (he : starEach (e :: rest) env = (false, eval e env) :: starEach rest env := by rfl) (hplain : (backTo pos (starEach rest env)).any (·.1) = false := by rfl) : WP pw w A (callWith pos (.builtin id) first (backTo pos (starEach (e :: rest) env)) []) Q E s := by
  delta WP at *
  rw [he] at h ⊢
  exact Calls.callWith_builtin (by show (false || (backTo pos (starEach rest env)).any (·.1)) = false; rw [hplain]; rfl) (Calls.evalArgs_plain h)
end
section
variable {ad : Nat → Addr} {ob : Nat → Obj}
theorem St.dropBut (S : St B L loc Z G ad ob us' s₀ s) (hκ : us' κ) (l : ∀ k, us k → us' k ∧ k ≠ κ) (e : Heap.ExtBut (ad κ) s.heap h') (n : Nat) : St B L loc Z G ad ob us s₀ { s with heap := h', toks := n } := by
  obtain ⟨m, ⟨⟨oL, es, ep, hL, r⟩, keep, above⟩, hm⟩ := S.F
  have hL' := e L oL (Ne.symm (S.na κ hκ)) hL
  have kz : ∀ a o, Z a o → h'.get? a = some o := fun a o z => e a o (fun q => (S.H.dis κ hκ).1 o (q ▸ z)) (S.H.sil a o z)
  exact ⟨⟨m, ⟨⟨oL, es, ep, hL', r⟩, fun b o q => kz b o (S.H.bz b o q), above⟩, hm⟩,
    ⟨Nat.le_trans above (Nat.le_of_lt (Heap.lt_size hL')), S.H.bz, kz, fun a o g => ⟨e a o (fun q => (S.H.dis κ hκ).2 o (q ▸ g)) (S.H.imm a o g).1, (S.H.imm a o g).2⟩,
      fun k u => e _ _ (fun q => (l k u).2 (S.H.inj k κ (l k u).1 hκ q)) (S.H.own k (l k u).1), fun k u => S.H.dis k (l k u).1, fun i j ui uj q => S.H.inj i j (l i ui).1 (l j uj).1 q⟩,
    S.nz, fun k u => S.na k (l k u).1, S.S⟩
theorem St.newKey (S : St B L loc Z G ad ob us s₀ s) (o : Obj) (hf : o.isFreed = false) (κ : Nat) (n : Nat) : St B L loc Z G (up ad κ s.heap.objs.size) (up ob κ o) (fun j => us j ∨ j = κ) s₀ { s with heap := s.heap.push o, toks := n } := by
  have S' := (S.push o).toks n
  refine S'.key (Heap.get?_push_size _ hf) (fun p z => Nat.lt_irrefl _ (Heap.lt_size (S.H.sil _ p z))) (fun p g => Nat.lt_irrefl _ (Heap.lt_size (S.H.imm _ p g).1)) S.fresh ?_
  obtain ⟨m, F, _⟩ := S.F
  obtain ⟨oL, _, _, hL, _⟩ := F.ns
  exact Nat.ne_of_gt (Heap.lt_size hL)
end
noncomputable abbrev rangeIt (x left : Int) : Obj := { cls := .type "range_iterator", dict := none, data := .fields #[rawInt x, rawInt left, rawInt 1], slots := #[] }
noncomputable def IsLI (o : Obj) (l : Addr) (i : Nat) : Prop := o.cls = .type "list_iterator" ∧ o.data = .fields #[.ref l, .int i 0]
section
variable {a : Addr} {x : Str}
noncomputable abbrev Inv := Nat → List (Str × Value) → (Addr → Obj → Prop) → (Nat → Addr) → (Nat → Obj) → Prop
noncomputable abbrev InvV := Nat → List (Str × Value) → (Addr → Obj → Prop) → (Nat → Addr) → (Nat → Obj) → (Nat → Prop) → Prop
noncomputable abbrev InvL := List (Str × Value) → (Addr → Obj → Prop) → (Nat → Addr) → (Nat → Obj) → (Nat → Prop) → Prop
noncomputable abbrev usk (us : Nat → Prop) (κ : Nat) : Nat → Prop := fun j => us j ∨ j = κ
inductive TE (B : Heap) (Z : Addr → Obj → Prop) (s₀ : Shared) (L : Addr) (κ : Nat) (J : InvL) (ad : Nat → Addr) (ob : Nat → Obj) (f : Flow) (s : Shared) : Prop
  | mk (e : f = .next) (loc' : List (Str × Value)) (G' : Addr → Obj → Prop) (ad' : Nat → Addr) (ob' : Nat → Obj) (us' : Nat → Prop) (S : St B L loc' Z G' ad' ob' (fun j => us' j ∨ j = κ) s₀ s) (j : J loc' G' ad' ob' us') (ha : ad' κ = ad κ) (ho : ob' κ = ob κ)
inductive TE1 (B : Heap) (Z : Addr → Obj → Prop) (s₀ : Shared) (L : Addr) (κ : Nat) (us : Nat → Prop) (J : List (Str × Value) → (Addr → Obj → Prop) → (Nat → Addr) → (Nat → Obj) → Prop) (ad : Nat → Addr) (ob : Nat → Obj) (f : Flow) (s : Shared) : Prop
  | mk (e : f = .next) (loc' : List (Str × Value)) (G' : Addr → Obj → Prop) (ad' : Nat → Addr) (ob' : Nat → Obj) (S : St B L loc' Z G' ad' ob' (fun j => us j ∨ j = κ) s₀ s) (j : J loc' G' ad' ob') (ha : ad' κ = ad κ) (ho : ob' κ = ob κ)
theorem TE1.g {B : Heap} {Z : Addr → Obj → Prop} {s₀ : Shared} {L : Addr} {κ : Nat} {us : Nat → Prop} {J : List (Str × Value) → (Addr → Obj → Prop) → (Nat → Addr) → (Nat → Obj) → Prop} {ad : Nat → Addr} {ob : Nat → Obj} {f : Flow} {s : Shared} (h : TE1 B Z s₀ L κ us J ad ob f s) :
    TE B Z s₀ L κ (fun loc G ad ob us' => us' = us ∧ J loc G ad ob) ad ob f s := by
  cases h with | mk e l G ad' ob' S j ha ho => exact .mk e l G ad' ob' us S ⟨rfl, j⟩ ha ho
inductive RS (w : World) (A : Around) (env : Env) (body : List Stmt) (x : Str) (B : Heap) (Z : Addr → Obj → Prop) (s₀ : Shared) (L : Addr) (κ : Nat) (J : InvV) (Er : Value → Shared → Prop) (Q : Flow → Shared → Prop) (xv : Value) (s₁ : Shared) : Prop
  | mk (r : Addr) (lo hi : Int) (t u v : Tok) (loc : List (Str × Value)) (G : Addr → Obj → Prop) (ad : Nat → Addr) (ob : Nat → Obj) (us : Nat → Prop) (e : xv = .ref r) (hr : IsRange s₁.heap r lo hi 1 t u v) (b : -(2 ^ 62) ≤ lo ∧ lo < 2 ^ 62 ∧ -(2 ^ 62) ≤ hi ∧ hi < 2 ^ 62) (S : St B L loc Z G ad ob us s₀ s₁) (j : J 0 loc G ad ob us)
      (turn : ∀ i loc G ad ob us t s₂, i < (hi - lo).toNat → J i loc G ad ob us → St B L ((x, .int (lo + i) t) :: loc) Z G ad ob (fun j => us j ∨ j = κ) s₀ s₂ → WP pw w A (execs body env) (TE B Z s₀ L κ (J (i + 1)) ad ob) Er s₂)
      (fin : ∀ loc G ad ob us s₂, J (hi - lo).toNat loc G ad ob us → St B L loc Z G ad ob us s₀ s₂ → Q .next s₂)
inductive RS1 (w : World) (A : Around) (env : Env) (body : List Stmt) (x : Str) (B : Heap) (Z : Addr → Obj → Prop) (s₀ : Shared) (L : Addr) (κ : Nat) (us : Nat → Prop) (J : Inv) (Er : Value → Shared → Prop) (Q : Flow → Shared → Prop) (xv : Value) (s₁ : Shared) : Prop
  | mk (r : Addr) (lo hi : Int) (t u v : Tok) (loc : List (Str × Value)) (G : Addr → Obj → Prop) (ad : Nat → Addr) (ob : Nat → Obj) (e : xv = .ref r) (hr : IsRange s₁.heap r lo hi 1 t u v) (b : -(2 ^ 62) ≤ lo ∧ lo < 2 ^ 62 ∧ -(2 ^ 62) ≤ hi ∧ hi < 2 ^ 62) (S : St B L loc Z G ad ob us s₀ s₁) (j : J 0 loc G ad ob)
      (turn : ∀ i loc G ad ob t s₂, i < (hi - lo).toNat → J i loc G ad ob → St B L ((x, .int (lo + i) t) :: loc) Z G ad ob (fun j => us j ∨ j = κ) s₀ s₂ → WP pw w A (execs body env) (TE1 B Z s₀ L κ us (J (i + 1)) ad ob) Er s₂)
      (fin : ∀ loc G ad ob s₂, J (hi - lo).toNat loc G ad ob → St B L loc Z G ad ob us s₀ s₂ → Q .next s₂)
theorem RS1.g {body : List Stmt} {κ : Nat} {us : Nat → Prop} {J : Inv} {Er : Value → Shared → Prop} {Q : Flow → Shared → Prop} {xv : Value} {s₁ : Shared} (h : RS1 w A env body x B Z s₀ L κ us J Er Q xv s₁) : RS w A env body x B Z s₀ L κ (fun i loc G ad ob us' => us' = us ∧ J i loc G ad ob) Er Q xv s₁ := by
  cases h with | mk r lo hi t u v loc G ad ob e hr b S j turn fin => exact .mk r lo hi t u v loc G ad ob us e hr b S ⟨rfl, j⟩ (fun i loc G ad ob us' t s₂ hi q S' => by obtain ⟨rfl, j⟩ := q; exact (turn i loc G ad ob t s₂ hi j S').mono (fun _ _ h => h.g) fun _ _ h => h) fun loc G ad ob us' s₂ q S' => by obtain ⟨rfl, j⟩ := q; exact fin loc G ad ob s₂ j S'
inductive RI (B : Heap) (Z : Addr → Obj → Prop) (s₀ : Shared) (L : Addr) (κ : Nat) (J : InvV) (lo : Int) (N : Nat) (it : Addr) (n : Nat) (s : Shared) : Prop
  | mk (i : Nat) (loc : List (Str × Value)) (G : Addr → Obj → Prop) (ad : Nat → Addr) (ob : Nat → Obj) (us : Nat → Prop) (hn : n = N + 1 - i) (hi : i ≤ N) (S : St B L loc Z G ad ob (fun j => us j ∨ j = κ) s₀ s) (j : J i loc G ad ob us) (ho : ob κ = rangeIt (lo + i) ((N : Int) - i)) (ha : ad κ = it)
theorem up_self {α : Type} (f : Nat → α) (k : Nat) : up f k (f k) = f := funext fun j => by unfold up; split <;> simp_all
theorem r_forRangeG {iter : Expr} {body : List Stmt} {Q : Flow → Shared → Prop} {Er : Value → Shared → Prop} (κ : Nat) (J : InvV) (hκ : ∀ i loc G ad ob us, J i loc G ad ob us → ¬ us κ) (hJ : ∀ i loc G ad ob us b o, J i loc G ad ob us → J i loc G (up ad κ b) (up ob κ o) us) (hh : A.handled = none)
    (hP : ∀ e s', Er e s' → notedBy (model pw w) A env (cameBackBy (model pw w) A env E) e s')
    (h : WP pw w A (eval iter env) (RS w A env body x B Z s₀ L κ J Er Q) E s)
    (hs : ∀ x, foldedSetIterable iter env x = pure x)
    (hE : EnvOk env L) (hx : env.kindOf x = some .local) : WP pw w A (exec (.For (.Name x px) iter body [] pos) env) Q E s := by
  delta WP
  refine wpAny_For (wpAny_mono h.out (fun xv s₁ h₁ => ?_) fun _ _ e => e) hs
  obtain ⟨r, lo, hi, t, u, v, loc, G, ad, ob, us, rfl, hr, ⟨b1, b2, b3, b4⟩, S, hJ0, turn, fin⟩ := h₁
  refine wpAny_pyIter_range hr (small_one b1 b2 b3 b4) ?_
  rw [rangeSize_one]
  have hN : (if lo < hi then hi - lo else 0) = ((hi - lo).toNat : Int) := by split <;> omega
  rw [hN]
  generalize (hi - lo).toNat = N at turn fin ⊢
  have base : RI B Z s₀ L κ J lo N s₁.heap.objs.size (N + 1) ({ s₁ with heap := s₁.heap.push (rangeIt lo N) } : Shared) :=
    .mk 0 _ _ _ _ us rfl (Nat.zero_le _) (S.newKey (rangeIt lo N) rfl κ s₁.toks) (hJ _ _ _ _ _ _ _ _ hJ0) (by rw [up_same]; simp) (up_same ..)
  show codeAny _ _ (.forLoop (.Name x px) (.ref s₁.heap.objs.size) body [] _) _ ({ s₁ with heap := s₁.heap.push (rangeIt lo N) } : Shared)
  generalize s₁.heap.objs.size = it at base ⊢
  refine codeAny_forLoop (RI B Z s₀ L κ J lo N it) (fun n s' hI => ?_) (N + 1) base
  obtain ⟨i, loc, G, ad, ob, us, rfl, hi', S, hj, hob, rfl⟩ := hI
  have hit : IsRangeIter s'.heap (ad κ) (lo + i) ((N : Int) - i) 1 := by have := S.H.own κ (.inr rfl); rw [hob] at this; exact this
  by_cases hlt : i < N
  · refine wpAny_pyNext_range_item hit (oq45 hlt) fun h₁ hit₁ hsb => ?_
    have S2 := S.turn (n := s'.toks + 1) (.inr rfl) hsb hit₁
    refine WP.out (r_asName (r_store S2 (fun s₂ S3 => ?_) hE hx))
    have hj2 := hJ i loc G ad ob us (ad κ) (rangeIt (lo + i + 1) ((N : Int) - i - 1)) hj
    rw [up_self] at hj2
    refine wpAny_mono (turn i loc G ad _ us s'.toks s₂ hlt hj2 S3).out (fun f s₃ hf => ?_) hP
    obtain ⟨rfl, loc', G', ad', ob', us', S4, hj', ha, ho⟩ := hf
    refine ⟨N + 1 - (i + 1), oq40 hlt, .mk (i + 1) loc' G' ad' ob' us' rfl hlt S4 hj' ?_ ha⟩
    rw [ho, up_same]
    rw [show lo + (i : Int) + 1 = lo + ((i + 1 : Nat) : Int) from oq98, show (N : Int) - i - 1 = (N : Int) - ((i + 1 : Nat) : Int) from oq47]
  · obtain rfl : i = N := oq41 hi' hlt
    exact wpAny_pyNext_range_end hh hit oq48 fun h₁ he => wpAny_execs_nil (fin loc G ad ob us _ hj (S.dropBut (κ := κ) (.inr rfl) (fun k u => ⟨.inl u, fun q => hκ _ _ _ _ _ _ hj (q ▸ u)⟩) he _))
theorem r_forRangeV {iter : Expr} {body : List Stmt} {Q : Flow → Shared → Prop} (κ : Nat) (J : InvV) (hκ : ∀ i loc G ad ob us, J i loc G ad ob us → ¬ us κ) (hJ : ∀ i loc G ad ob us b o, J i loc G ad ob us → J i loc G (up ad κ b) (up ob κ o) us) (hh : A.handled = none)
    (h : WP pw w A (eval iter env) (RS w A env body x B Z s₀ L κ J (fun _ _ => False) Q) E s)
    (hs : ∀ x, foldedSetIterable iter env x = pure x := by intro _; rfl)
    (hE : EnvOk env L := by exact ⟨rfl, rfl, rfl, rfl⟩) (hx : env.kindOf x = some .local := by rfl) : WP pw w A (exec (.For (.Name x px) iter body [] pos) env) Q E s :=
  r_forRangeG κ J hκ hJ hh (fun _ _ y => y.elim) h hs hE hx
theorem r_forRange {us : Nat → Prop} {iter : Expr} {body : List Stmt} {Q : Flow → Shared → Prop} (κ : Nat) (J : Inv) (hκ : ¬ us κ) (hJ : ∀ i loc G ad ob b o, J i loc G ad ob → J i loc G (up ad κ b) (up ob κ o)) (hh : A.handled = none)
    (h : WP pw w A (eval iter env) (RS1 w A env body x B Z s₀ L κ us J (fun _ _ => False) Q) E s)
    (hs : ∀ x, foldedSetIterable iter env x = pure x := by intro _; rfl)
    (hE : EnvOk env L := by exact ⟨rfl, rfl, rfl, rfl⟩) (hx : env.kindOf x = some .local := by rfl) : WP pw w A (exec (.For (.Name x px) iter body [] pos) env) Q E s :=
  r_forRangeG κ (fun i loc G ad ob us' => us' = us ∧ J i loc G ad ob) (fun _ _ _ _ _ _ q => q.1 ▸ hκ) (fun _ _ _ _ _ _ _ _ q => ⟨q.1, hJ _ _ _ _ _ _ _ q.2⟩) hh (fun _ _ y => y.elim) (h.mono (fun _ _ q => q.g) fun _ _ e => e) hs hE hx
theorem r_forRangeE {us : Nat → Prop} {iter : Expr} {body : List Stmt} {Q : Flow → Shared → Prop} (κ : Nat) (J : Inv) (hκ : ¬ us κ) (hJ : ∀ i loc G ad ob b o, J i loc G ad ob → J i loc G (up ad κ b) (up ob κ o)) (hh : A.handled = none) (hP : PassesOwn (model pw w) A env E)
    (h : WP pw w A (eval iter env) (RS1 w A env body x B Z s₀ L κ us J E Q) E s)
    (hs : ∀ x, foldedSetIterable iter env x = pure x := by intro _; rfl)
    (hE : EnvOk env L := by exact ⟨rfl, rfl, rfl, rfl⟩) (hx : env.kindOf x = some .local := by rfl) : WP pw w A (exec (.For (.Name x px) iter body [] pos) env) Q E s :=
  r_forRangeG κ (fun i loc G ad ob us' => us' = us ∧ J i loc G ad ob) (fun _ _ _ _ _ _ q => q.1 ▸ hκ) (fun _ _ _ _ _ _ _ _ q => ⟨q.1, hJ _ _ _ _ _ _ _ q.2⟩) hh hP (h.mono (fun _ _ q => q.g) fun _ _ e => e) hs hE hx
inductive LE (B : Heap) (Z : Addr → Obj → Prop) (s₀ : Shared) (L : Addr) (κ : Nat) (l : Addr) (ol : Obj) (J : InvL) (ad : Nat → Addr) (ob : Nat → Obj) (f : Flow) (s : Shared) : Prop
  | mk (e : f = .next) (loc' : List (Str × Value)) (G' : Addr → Obj → Prop) (ad' : Nat → Addr) (ob' : Nat → Obj) (us' : Nat → Prop) (S : St B L loc' Z G' ad' ob' (fun j => us' j ∨ j = κ) s₀ s) (g : G' l ol) (j : J loc' G' ad' ob' us') (ha : ad' κ = ad κ) (ho : ob' κ = ob κ)
inductive LE1 (B : Heap) (Z : Addr → Obj → Prop) (s₀ : Shared) (L : Addr) (κ : Nat) (us : Nat → Prop) (l : Addr) (ol : Obj) (J : List (Str × Value) → (Addr → Obj → Prop) → (Nat → Addr) → (Nat → Obj) → Prop) (ad : Nat → Addr) (ob : Nat → Obj) (f : Flow) (s : Shared) : Prop
  | mk (e : f = .next) (loc' : List (Str × Value)) (G' : Addr → Obj → Prop) (ad' : Nat → Addr) (ob' : Nat → Obj) (S : St B L loc' Z G' ad' ob' (fun j => us j ∨ j = κ) s₀ s) (g : G' l ol) (j : J loc' G' ad' ob') (ha : ad' κ = ad κ) (ho : ob' κ = ob κ)
noncomputable def LG (w : World) (A : Around) (target : Expr) (v : Value) : Prop := ∀ (s' : Shared) (it : Addr) (o : Obj) (fs : Array Value) (Q : Unit → Shared → Prop) (E : Value → Shared → Prop), s'.heap.get? it = some o → o.cls = .type "list_iterator" → o.data = .fields fs → Q () s' → wpAny (model pw w) A (letOwnedTupleGo target (.ref it) v) Q E s'
inductive LS (w : World) (A : Around) (env : Env) (target : Expr) (body : List Stmt) (B : Heap) (Z : Addr → Obj → Prop) (s₀ : Shared) (L : Addr) (κ : Nat) (P : List Value → Prop) (J : InvV) (Q : Flow → Shared → Prop) (xv : Value) (s₁ : Shared) : Prop
  | mk (l : Addr) (ol : Obj) (vs : List Value) (loc : List (Str × Value)) (G : Addr → Obj → Prop) (ad : Nat → Addr) (ob : Nat → Obj) (us : Nat → Prop) (e : xv = .ref l) (hl : IsL ol vs) (hp : P vs) (g : G l ol) (S : St B L loc Z G ad ob us s₀ s₁) (j : J 0 loc G ad ob us)
      (turn : ∀ i loc G ad ob us v s₂, vs[i]? = some v → J i loc G ad ob us → St B L loc Z G ad ob (fun j => us j ∨ j = κ) s₀ s₂ → G l ol →
        WP pw w A (assign target env v) (fun _ s₃ => WP pw w A (execs body env) (LE B Z s₀ L κ l ol (J (i + 1)) ad ob) (fun _ _ => False) s₃) (fun _ _ => False) s₂)
      (fin : ∀ loc G ad ob us s₂, J vs.length loc G ad ob us → St B L loc Z G ad ob us s₀ s₂ → G l ol → Q .next s₂)
inductive LS1 (w : World) (A : Around) (env : Env) (target : Expr) (body : List Stmt) (B : Heap) (Z : Addr → Obj → Prop) (s₀ : Shared) (L : Addr) (κ : Nat) (us : Nat → Prop) (P : List Value → Prop) (J : Inv) (Q : Flow → Shared → Prop) (xv : Value) (s₁ : Shared) : Prop
  | mk (l : Addr) (ol : Obj) (vs : List Value) (loc : List (Str × Value)) (G : Addr → Obj → Prop) (ad : Nat → Addr) (ob : Nat → Obj) (e : xv = .ref l) (hl : IsL ol vs) (hp : P vs) (g : G l ol) (S : St B L loc Z G ad ob us s₀ s₁) (j : J 0 loc G ad ob)
      (turn : ∀ i loc G ad ob v s₂, vs[i]? = some v → J i loc G ad ob → St B L loc Z G ad ob (fun j => us j ∨ j = κ) s₀ s₂ → G l ol →
        WP pw w A (assign target env v) (fun _ s₃ => WP pw w A (execs body env) (LE1 B Z s₀ L κ us l ol (J (i + 1)) ad ob) (fun _ _ => False) s₃) (fun _ _ => False) s₂)
      (fin : ∀ loc G ad ob s₂, J vs.length loc G ad ob → St B L loc Z G ad ob us s₀ s₂ → G l ol → Q .next s₂)
theorem LS1.g {target : Expr} {body : List Stmt} {κ : Nat} {us : Nat → Prop} {P : List Value → Prop} {J : Inv} {Q : Flow → Shared → Prop} {xv : Value} {s₁ : Shared} (h : LS1 w A env target body B Z s₀ L κ us P J Q xv s₁) : LS w A env target body B Z s₀ L κ P (fun i loc G ad ob us' => us' = us ∧ J i loc G ad ob) Q xv s₁ := by
  cases h with | mk l ol vs loc G ad ob e hl hp g S j turn fin => exact .mk l ol vs loc G ad ob us e hl hp g S ⟨rfl, j⟩ (fun i loc G ad ob us' v s₂ hv q S' g => by obtain ⟨rfl, j⟩ := q; exact (turn i loc G ad ob v s₂ hv j S' g).mono (fun _ _ h => h.mono (fun _ _ h => by cases h with | mk e l G ad' ob' S g j ha ho => exact .mk e l G ad' ob' _ S g ⟨rfl, j⟩ ha ho) fun _ _ h => h) fun _ _ h => h) fun loc G ad ob us' s₂ q S' => by obtain ⟨rfl, j⟩ := q; exact fin loc G ad ob s₂ j S'
inductive LI (B : Heap) (Z : Addr → Obj → Prop) (s₀ : Shared) (L : Addr) (κ : Nat) (J : InvV) (l : Addr) (ol : Obj) (N : Nat) (it : Addr) (n : Nat) (s : Shared) : Prop
  | mk (i : Nat) (loc : List (Str × Value)) (G : Addr → Obj → Prop) (ad : Nat → Addr) (ob : Nat → Obj) (us : Nat → Prop) (hn : n = N + 1 - i) (hi : i ≤ N) (S : St B L loc Z G ad ob (fun j => us j ∨ j = κ) s₀ s) (g : G l ol) (j : J i loc G ad ob us) (ho : IsLI (ob κ) l i) (ha : ad κ = it)
theorem r_forListG {iter target : Expr} {body : List Stmt} {Q : Flow → Shared → Prop} (κ : Nat) (P : List Value → Prop) (J : InvV) (hκ : ∀ i loc G ad ob us, J i loc G ad ob us → ¬ us κ) (hJ : ∀ i loc G ad ob us b o, J i loc G ad ob us → J i loc G (up ad κ b) (up ob κ o) us) (hh : A.handled = none)
    (hlg : ∀ vs, P vs → ∀ v ∈ vs, LG w A target v)
    (h : WP pw w A (eval iter env) (LS w A env target body B Z s₀ L κ P J Q) E s)
    (hs : ∀ x, foldedSetIterable iter env x = pure x) : WP pw w A (exec (.For target iter body [] pos) env) Q E s := by
  delta WP
  refine wpAny_For (wpAny_mono h.out (fun xv s₁ h₁ => ?_) fun _ _ e => e) hs
  obtain ⟨l, ol, vs, loc, G, ad, ob, us, rfl, hl, hp, hG, S, hJ0, turn, fin⟩ := h₁
  refine wpAny_pyIter_list (IsL.at (S.H.imm _ _ hG).1 hl) ?_
  have base : LI B Z s₀ L κ J l ol vs.length s₁.heap.objs.size (vs.length + 1) ({ s₁ with heap := s₁.heap.push { cls := .type "list_iterator", data := .fields #[.ref l, .int 0 0] } } : Shared) :=
    .mk 0 _ _ _ _ us rfl (Nat.zero_le _) (S.newKey { cls := .type "list_iterator", data := .fields #[.ref l, .int 0 0] } rfl κ s₁.toks) hG (hJ _ _ _ _ _ _ _ _ hJ0) (by rw [up_same]; exact ⟨rfl, rfl⟩) (up_same ..)
  show codeAny _ _ (.forLoop target (.ref s₁.heap.objs.size) body [] _) _ ({ s₁ with heap := s₁.heap.push { cls := .type "list_iterator", data := .fields #[.ref l, .int 0 0] } } : Shared)
  generalize s₁.heap.objs.size = it at base ⊢
  refine codeAny_forLoop_any (LI B Z s₀ L κ J l ol vs.length it) (fun n s' hI => ?_) (vs.length + 1) base
  obtain ⟨i, loc, G, ad, ob, us, rfl, hi', S, hG, hj, hob, rfl⟩ := hI
  have hit : s'.heap.IsListIter (ad κ) l i := ⟨_, S.H.own κ (.inr rfl), hob.1, hob.2⟩
  have hll := IsL.at (S.H.imm _ _ hG).1 hl
  cases hv : vs[i]? with
  | some v =>
    refine wpAny_pyNext_list_item hit hll (by simpa using hv) fun h₁ hit₁ hsb => ?_
    obtain ⟨o', ho', hc', hd'⟩ := hit₁
    have S2 := S.turn (n := s'.toks) (.inr rfl) hsb ho'
    have hlt : i < vs.length := (List.getElem?_eq_some_iff.mp hv).1
    have hj2 := hJ i loc G ad ob us (ad κ) o' hj
    rw [up_self] at hj2
    refine hlg vs hp v (List.mem_of_getElem? hv) _ _ _ _ _ _ ho' hc' hd' ?_
    refine wpAny_mono (turn i loc G ad _ us v _ hv hj2 S2 hG).out (fun _ s₂ hq => wpAny_mono hq.out (fun f s₃ hf => ?_) fun _ _ y => y.elim) fun _ _ y => y.elim
    obtain ⟨rfl, loc', G', ad', ob', us', S4, hG', hj', ha, ho⟩ := hf
    refine ⟨vs.length + 1 - (i + 1), oq40 hlt, .mk (i + 1) loc' G' ad' ob' us' rfl hlt S4 hG' hj' ?_ ha⟩
    rw [ho, up_same]
    exact ⟨hc', hd'⟩
  | none =>
    have hge : vs.length ≤ i := by simpa using hv
    obtain rfl : i = vs.length := oq99 hi' hge
    exact wpAny_pyNext_list_end hh hit hll (by simp) fun h₁ he => wpAny_execs_nil (fin loc G ad ob us _ hj (S.dropBut (κ := κ) (.inr rfl) (fun k u => ⟨.inl u, fun q => hκ _ _ _ _ _ _ hj (q ▸ u)⟩) he _) hG)
theorem lg_of {target : Expr} (ht : ∀ it v, letOwnedTupleGo target it v = pure ()) (vs : List Value) (_ : True) : ∀ v ∈ vs, LG w A target v := fun v _ s' it o fs Q E _ _ _ h => by
  rw [ht]; exact wpAny_pure h
theorem r_forListV {iter target : Expr} {body : List Stmt} {Q : Flow → Shared → Prop} (κ : Nat) (J : InvV) (hκ : ∀ i loc G ad ob us, J i loc G ad ob us → ¬ us κ) (hJ : ∀ i loc G ad ob us b o, J i loc G ad ob us → J i loc G (up ad κ b) (up ob κ o) us) (hh : A.handled = none)
    (h : WP pw w A (eval iter env) (LS w A env target body B Z s₀ L κ (fun _ => True) J Q) E s)
    (hs : ∀ x, foldedSetIterable iter env x = pure x := by intro _; rfl) (ht : ∀ it v, letOwnedTupleGo target it v = pure () := by intro _ _; rfl) : WP pw w A (exec (.For target iter body [] pos) env) Q E s :=
  r_forListG κ _ J hκ hJ hh (lg_of ht) h hs
theorem r_forList {us : Nat → Prop} {iter target : Expr} {body : List Stmt} {Q : Flow → Shared → Prop} (κ : Nat) (J : Inv) (hκ : ¬ us κ) (hJ : ∀ i loc G ad ob b o, J i loc G ad ob → J i loc G (up ad κ b) (up ob κ o)) (hh : A.handled = none)
    (h : WP pw w A (eval iter env) (LS1 w A env target body B Z s₀ L κ us (fun _ => True) J Q) E s)
    (hs : ∀ x, foldedSetIterable iter env x = pure x := by intro _; rfl) (ht : ∀ it v, letOwnedTupleGo target it v = pure () := by intro _ _; rfl) : WP pw w A (exec (.For target iter body [] pos) env) Q E s :=
  r_forListG κ _ (fun i loc G ad ob us' => us' = us ∧ J i loc G ad ob) (fun _ _ _ _ _ _ q => q.1 ▸ hκ) (fun _ _ _ _ _ _ _ _ q => ⟨q.1, hJ _ _ _ _ _ _ _ q.2⟩) hh (lg_of ht) (h.mono (fun _ _ q => q.g) fun _ _ e => e) hs
end
noncomputable abbrev InvC := Nat → List Value → (Addr → Obj → Prop) → (Nat → Addr) → (Nat → Obj) → Prop
theorem wpAny_pyIter_rangeIt {w : World} {A : Around} {E : Value → Shared → Prop} {s : Shared} {it : Addr} {x left : Int} {Q : Value → Shared → Prop} (hit : IsRangeIter s.heap it x left 1) (h : Q (.ref it) s) :
    wpAny (model pw w) A (pyIter (.ref it)) Q E s := by
  have hT : s.TypeIs (.ref it) "range_iterator" := ⟨_, hit, rfl⟩
  refine wpAny_pyIter_slot hT F.slot_range_iterator_iter (wpAny_call_entry F.slot_range_iterator_iter hT F.entry_range_iterator_iter ?_ (F.args_range_iterator_iter_1 _))
  show wpAny _ _ (ret (.ref it)) _ _ s
  exact wpAny_pure ⟨_, rfl, "range_iterator", _, hT, F.slot_range_iterator_next.lookup, h⟩
section
variable {ad : Nat → Addr} {ob : Nat → Obj}
theorem St.shake {P : Addr → Prop} (S : St B L loc Z G ad ob us s₀ s) (hP : ∀ a, P a → New Z G ad us L a) (keep : ∀ c o, ¬ P c → s.heap.get? c = some o → h'.get? c = some o) (n : Nat) : St B L loc Z G ad ob us s₀ { s with heap := h', toks := n } := by
  obtain ⟨m, ⟨⟨oL, es, ep, hL, r⟩, kp, above⟩, hm⟩ := S.F
  have hL' := keep L oL (fun p => (hP L p).l rfl) hL
  have kz : ∀ a o, Z a o → h'.get? a = some o := fun a o z => keep a o (fun p => (hP a p).z o z) (S.H.sil a o z)
  exact ⟨⟨m, ⟨⟨oL, es, ep, hL', r⟩, fun b o q => kz b o (S.H.bz b o q), above⟩, hm⟩,
    ⟨Nat.le_trans above (Nat.le_of_lt (Heap.lt_size hL')), S.H.bz, kz, fun a o g => ⟨keep a o (fun p => (hP a p).g o g) (S.H.imm a o g).1, (S.H.imm a o g).2⟩,
      fun k u => keep _ _ (fun p => (hP _ p).k k u rfl) (S.H.own k u), S.H.dis, S.H.inj⟩, S.nz, S.na, S.S⟩
theorem St.newAt (S : St B L loc Z G ad ob us s₀ s) {a : Addr} (h : s.heap.objs.size ≤ a) : New Z G ad us L a := by
  refine ⟨fun k u => Nat.ne_of_lt (Nat.lt_of_lt_of_le (S.H.ltOwn u) h), fun o z => ?_, fun o g => ?_, ?_⟩
  · exact Nat.lt_irrefl _ (Nat.lt_of_lt_of_le (Heap.lt_size (S.H.sil _ o z)) h)
  · exact Nat.lt_irrefl _ (Nat.lt_of_lt_of_le (Heap.lt_size (S.H.imm _ o g).1) h)
  · obtain ⟨m, F, _⟩ := S.F
    obtain ⟨oL, _, _, hL, _⟩ := F.ns
    exact Nat.ne_of_gt (Nat.lt_of_lt_of_le (Heap.lt_size hL) h)
theorem St.lend2 (S : St B L loc Z G ad ob us s₀ s) : ∃ Z', Hp B Z' G ad ob us s.heap ∧ (∀ a o, Z a o → Z' a o) ∧ ∀ G' ad' ob' us' s', Hp B Z' G' ad' ob' us' s'.heap → Same s s' → St B L loc Z G' ad' ob' us' s₀ s' := by
  obtain ⟨m, F, hm⟩ := S.F
  obtain ⟨oL, es, ep, hL, r⟩ := F.ns
  have zz : ∀ a o, Z a o → Zp us ad s a o := fun a o z => ⟨S.H.sil a o z, fun k u q => (S.H.dis k u).1 o (q ▸ z)⟩
  refine ⟨Zp us ad s, ⟨S.H.bs, fun a o e => ⟨F.keep a o e, fun k u q => (S.H.dis k u).1 o (q ▸ S.H.bz a o e)⟩, fun a o z => z.1, S.H.imm, S.H.own, fun k u => ⟨fun o z => z.2 k u rfl, (S.H.dis k u).2⟩, S.H.inj⟩, zz, fun G' ad' ob' us' s' H' hs => ?_⟩
  have hL' : s'.heap.get? L = some oL := H'.sil L oL ⟨hL, S.na⟩
  have keep : ∀ b o, Z b o → s'.heap.get? b = some o := fun b o z => H'.sil b o (zz b o z)
  exact ⟨⟨m, ⟨⟨oL, es, ep, hL', r⟩, fun b o e => keep b o (S.H.bz b o e), F.above⟩, hm⟩, ⟨H'.bs, S.H.bz, keep, H'.imm, H'.own, fun k u => ⟨fun o z => (H'.dis k u).1 o (zz _ _ z), (H'.dis k u).2⟩, H'.inj⟩, S.nz, fun k u q => (H'.dis k u).1 oL (q ▸ ⟨hL, S.na⟩), S.S.trans hs⟩
end
section
variable {ad : Nat → Addr} {ob : Nat → Obj} {x : Str}
noncomputable abbrev us2 (us : Nat → Prop) (κ : Nat) : Nat → Prop := fun j => (us j ∨ j = κ) ∨ j = κ + 1
noncomputable abbrev cEnv (scope : Scope) (cl : List (Str × Addr)) (C : Addr) (env : Env) : Env := compEnvC scope cl C env
noncomputable abbrev InvD := List Value → (Addr → Obj → Prop) → (Nat → Addr) → (Nat → Obj) → Prop
inductive CE (B : Heap) (Z' : Addr → Obj → Prop) (us : Nat → Prop) (κ : Nat) (s₂ : Shared) (C : Addr) (J : InvD) (ys : List Value) (ad : Nat → Addr) (ob : Nat → Obj) (y : Value) (s₄ : Shared) : Prop
  | mk (G' : Addr → Obj → Prop) (ad' : Nat → Addr) (ob' : Nat → Obj) (loc' : List (Str × Value)) (S : St B C loc' Z' G' ad' ob' (us2 us κ) s₂ s₄) (j : J (ys ++ [y]) G' ad' ob') (a : ad' κ = ad κ ∧ ob' κ = ob κ) (b : ad' (κ + 1) = ad (κ + 1)) (c : ob' (κ + 1) = ob (κ + 1))
inductive CI (B : Heap) (Z' : Addr → Obj → Prop) (us : Nat → Prop) (κ : Nat) (s₂ : Shared) (C : Addr) (J : InvC) (It : Nat → Obj → Prop) (N : Nat) (it D : Addr) (n : Nat) (s : Shared) : Prop
  | mk (i : Nat) (ys : List Value) (loc' : List (Str × Value)) (G : Addr → Obj → Prop) (ad : Nat → Addr) (ob : Nat → Obj) (hn : n = N + 1 - i) (hi : i ≤ N) (S : St B C loc' Z' G ad ob (us2 us κ) s₂ s) (j : J i ys G ad ob) (hl : ys.length = i) (io : It i (ob κ)) (ia : ad κ = it) (e : Nat) (d : ob (κ + 1) = listOf ys.toArray e) (dd : ad (κ + 1) = D)
noncomputable def FinU (w : World) (A : Around) (E : Value → Shared → Prop) (B : Heap) (Z : Addr → Obj → Prop) (us : Nat → Prop) (s₀ : Shared) (L : Addr) (loc : List (Str × Value)) (κ : Nat) (J : InvD) (use : Option (Value → Sem Unit)) (Qv : Value → Shared → Prop) : Prop :=
  ∀ (ys : List Value) (e : Nat) (G : Addr → Obj → Prop) (ad : Nat → Addr) (ob : Nat → Obj) (C D : Addr) (m : Str → Option Value) (s₂ : Shared) (fl : Flow), J ys G ad ob → s₂.heap.Ns C m → St B L loc Z G ad ob (usk us (κ + 1)) s₀ s₂ → New Z G ad (usk us (κ + 1)) L C →
    ad (κ + 1) = D → ob (κ + 1) = listOf ys.toArray e → compPost (model pw w) A E use Qv (.ref D) C (.ok fl) s₂
theorem St.newD {κ : Nat} {D : Addr} {o : Obj} (R : St B L loc Z G ad ob (usk us κ) s₀ s) (hκ : ¬ us κ) (had : ad κ = D) (ho : ob κ = o) : s.heap.get? D = some o ∧ New Z G ad us L D := by
  subst had ho
  exact ⟨R.H.own κ (.inr rfl), fun k u q => absurd (R.H.inj k κ (.inl u) (.inr rfl) q) (fun z => hκ (z ▸ u)), (R.H.dis κ (.inr rfl)).1, (R.H.dis κ (.inr rfl)).2, R.na κ (.inr rfl)⟩
theorem fin_none {κ : Nat} {J : InvD} {Q : Value → Shared → Prop} (hκ' : ¬ us (κ + 1)) (fin : ∀ ys n G ad ob D s₂, J ys G ad ob → St B L loc Z G ad ob us s₀ s₂ → s₂.heap.get? D = some (listOf ys.toArray n) → New Z G ad us L D → Q (.ref D) s₂) : FinU w A E B Z us s₀ L loc κ J none Q :=
  fun ys e G ad ob C D m s₂ fl hj ns R nC had ho => ⟨m, ns, fun h' hs' => by
    have R3 := R.shake (P := fun a => a = C) (fun a e => e ▸ nC) (h' := h') (fun c o hc e => hs'.extBut _ _ hc e) s₂.toks
    exact fin ys e G ad ob D _ hj (R3.lessU fun k u => .inl u) (R3.newD hκ' had ho).1 (R3.newD hκ' had ho).2⟩
theorem fin_some {κ : Nat} {J : InvD} {Q : Flow → Shared → Prop} {y : Str} {py : Pos} (hE : EnvOk env L) (hy : env.kindOf y = some .local) (hκ' : ¬ us (κ + 1)) (fin : ∀ ys n G ad ob D s₂, J ys G ad ob → St B L ((y, .ref D) :: loc) Z G ad ob us s₀ s₂ → s₂.heap.get? D = some (listOf ys.toArray n) → New Z G ad us L D → Q .next s₂) :
    FinU w A E B Z us s₀ L loc κ J (some (assign (.Name y py) env)) (fun _ s' => Q .next s') :=
  fun ys e G ad ob C D m s₂ fl hj ns R nC had ho => by
    obtain ⟨mL, FL, hmL⟩ := id R.F
    obtain ⟨rfl, hkE, _, _⟩ := hE
    refine wpAny_assign_Name (wpAny_storeName_local hy FL.ns (fun h3 hn3 hs3 => ?_) (by rw [hkE]; rfl))
    have R2 := R.store hmL FL hn3 hs3 (s₂.toks + 1)
    refine ⟨m, ns.sameBut hs3 nC.l, fun h4 hs4 => ?_⟩
    have R3 := R2.shake (P := fun a => a = C) (fun a e => e ▸ nC) (h' := h4) (fun c o hc e => hs4.extBut _ _ hc e) (s₂.toks + 1)
    exact fin ys e G ad ob D _ hj (R3.lessU fun k u => .inl u) (R3.newD hκ' had ho).1 (R3.newD hκ' had ho).2
theorem comp_blockG {elt iter : Expr} {scope : Scope} {cl : List (Str × Addr)} {use : Option (Value → Sem Unit)} {Qv : Value → Shared → Prop} (κ : Nat) (J : InvC) (It : Nat → Obj → Prop) (N : Nat) (vat : Nat → Tok → Value)
    (hκ : ¬ us κ) (hκ' : ¬ us (κ + 1)) (hJ : ∀ i ys G ad ob b o k, (k = κ ∨ k = κ + 1) → J i ys G ad ob → J i ys G (up ad k b) (up ob k o)) (hN : N ≤ 1000)
    (S : St B L loc Z G ad ob us s₀ s) {it : Addr} {oi : Obj} (hfi : oi.isFreed = false) (h0 : It 0 oi)
    (hnext : ∀ (s' : Shared) i ys G ad ob C Z' loc' s₂ o Q', St B C loc' Z' G ad ob (us2 us κ) s₂ s' → J i ys G ad ob → s'.heap.get? it = some o → It i o → i < N → (∀ h' tk o', Heap.SameBut it s'.heap h' → h'.get? it = some o' → It (i + 1) o' → Q' (some (vat i s'.toks)) { s' with heap := h', toks := tk }) → ∀ E', wpAny (model pw w) A (pyNext (.ref it)) Q' E' s')
    (hend : ∀ (s' : Shared) ys G ad ob C Z' loc' s₂ o Q', St B C loc' Z' G ad ob (us2 us κ) s₂ s' → J N ys G ad ob → s'.heap.get? it = some o → It N o → (∀ h', Heap.ExtBut it s'.heap h' → Q' none { s' with heap := h' }) → ∀ E', wpAny (model pw w) A (pyNext (.ref it)) Q' E' s')
    (hself : ∀ (s' : Shared) Q' E', s'.heap.get? it = some oi → Q' (.ref it) s' → wpAny (model pw w) A (pyIter (.ref it)) Q' E' s')
    (hcell : ∀ y ∈ scope.names, y.2 ≠ .cell) (hkind : scope.kind = .function) (hx : scope.names.lookup x = some .local) (hg : env.globals = mainGlobals) (hb : env.builtins = builtinsNs)
    (hJ0 : J 0 [] G ad ob)
    (turn : ∀ i ys G ad ob C Z' loc' s₂ s₃ t, i < N → J i ys G ad ob → (∀ a o, Z a o → Z' a o) → St B C ((x, vat i t) :: loc') Z' G ad ob (us2 us κ) s₂ s₃ →
      WP pw w A (eval elt (cEnv scope cl C env)) (CE B Z' us κ s₂ C (J (i + 1)) ys ad ob) (fun _ _ => False) s₃)
    (fin : FinU w A E B Z us s₀ L loc κ (J N) use Qv)
    (hit : it = s.heap.objs.size) :
    wpAny (model pw w) A (newList []) (fun acc s₃ => wpAny (model pw w) A (newFunctionEnv scope env.globals cl [] env.qual none .none (some env)) (fun cenv s₄ =>
      codeAny (model pw w) A (.compStart (.ListComp elt [⟨.Name x px, iter, [], 0⟩] scope pos) 0 (.ref it) acc { cenv with scope := relabel scope env }) (compPost (model pw w) A E use Qv acc cenv.locals) s₄) E s₃) E { s with heap := s.heap.push oi } := by
  subst hit
  refine wpAny_newObj_type (wpAny_newFunctionEnv hcell (by intro y hy; simp at hy) (fun h₁ hns₁ hsb₁ => ?_) hkind)
  have S1 := S.newKey oi hfi κ s.toks
  have S2 := S1.newKey ({ cls := .type "list", data := .seq ([] : List Value).toArray }) rfl (κ + 1) s.toks
  have hd : ({ s with heap := s.heap.push oi, toks := s.toks } : Shared).heap.objs.size = s.heap.objs.size + 1 := Heap.size_push ..
  dsimp only at hns₁ hsb₁ S1 S2 ⊢
  obtain ⟨Z', H', hzz, back⟩ := S2.lend2
  generalize hH2 : (s.heap.push oi).push { cls := .type "list", data := .seq ([] : List Value).toArray } = H2 at hns₁ hsb₁ S2 H' back ⊢
  have hk1 : ∀ b o, H2.get? b = some o → h₁.get? b = some o := fun b o e => hsb₁.extBut b o (Nat.ne_of_lt (Heap.lt_size e)) (Heap.get?_push_of_some _ e)
  obtain ⟨oC, _, _, hC, _⟩ := id hns₁
  have S3 : St B H2.objs.size [] Z' G (up (up ad κ s.heap.objs.size) (κ + 1) (s.heap.push oi).objs.size) (up (up ob κ oi) (κ + 1) { cls := .type "list", data := .seq ([] : List Value).toArray }) (us2 us κ)
      { s with heap := H2, toks := s.toks } { s with heap := h₁, toks := s.toks + ([] : List (Str × Value)).length } :=
    ⟨⟨_, ⟨hns₁, fun b o e => hk1 b o (H'.base b o e), H'.bs⟩, fun _ _ e => by cases e⟩, H'.ext hk1 (Nat.le_of_lt (Heap.lt_size hC)), fun o z => Nat.lt_irrefl _ (Heap.lt_size (H'.sil _ o z)), fun k u q => Nat.lt_irrefl _ (q ▸ H'.ltOwn u), ⟨rfl, rfl, rfl⟩⟩
  have base : CI B Z' us κ { s with heap := H2, toks := s.toks } H2.objs.size J It N s.heap.objs.size (s.heap.push oi).objs.size (N + 1) { s with heap := h₁, toks := s.toks + ([] : List (Str × Value)).length } ∧ ({ s with heap := h₁, toks := s.toks + ([] : List (Str × Value)).length } : Shared).heap.get? s.heap.objs.size = some oi := by
    have e0 : up (up ob κ oi) (κ + 1) (lstO []) κ = oi := by rw [up_other _ _ (Nat.ne_of_lt (Nat.lt_succ_self κ)), up_same]
    have a0 : up (up ad κ s.heap.objs.size) (κ + 1) (s.heap.push oi).objs.size κ = s.heap.objs.size := by rw [up_other _ _ (Nat.ne_of_lt (Nat.lt_succ_self κ)), up_same]
    refine ⟨.mk 0 [] [] G _ _ rfl (Nat.zero_le _) S3 (hJ _ _ _ _ _ _ _ _ (.inr rfl) (hJ _ _ _ _ _ _ _ _ (.inl rfl) hJ0)) rfl (by rw [e0]; exact h0) a0 0 (up_same ..) (up_same ..), ?_⟩
    have := S3.H.own κ (.inl (.inr rfl))
    rwa [a0, e0] at this
  have hsz : s.heap.objs.size ≤ H2.objs.size := by rw [← hH2, Heap.size_push, Heap.size_push]; exact oq112
  have nCz : ∀ o, ¬ Z H2.objs.size o := (S.newAt hsz).z
  have nCl : H2.objs.size ≠ L := (S.newAt hsz).l
  generalize H2.objs.size = C at base nCz nCl ⊢
  generalize (s.heap.push oi).objs.size = D at base ⊢
  generalize hit : s.heap.objs.size = it at base hnext hend hself ⊢
  obtain ⟨base, hgit⟩ := base
  have cE : EnvOk (cEnv scope cl C env) C := ⟨rfl, hkind, hg, hb⟩
  have loop : codeAny (model pw w) A (.compLoop (.ListComp elt [⟨.Name x px, iter, [], 0⟩] scope pos) 0 (.ref it) (.ref D) (cEnv scope cl C env)) (compPost (model pw w) A E use Qv (.ref D) C) { s with heap := h₁, toks := s.toks + ([] : List (Str × Value)).length } := by
    refine codeAny_compLoop_list (CI B Z' us κ { s with heap := H2, toks := s.toks } C J It N it D) ?_ (N + 1) base
    · intro n s' hI
      obtain ⟨i, ys, loc', G, ad, ob, rfl, hi', S, hj, hlen, hit', ha, e, ho, had⟩ := hI
      have hg : s'.heap.get? it = some (ob κ) := by have := S.H.own κ (.inl (.inr rfl)); rw [ha] at this; exact this
      by_cases hlt : i < N
      · refine hnext s' i ys G ad ob _ _ _ _ _ _ S hj hg hit' hlt (fun h₂ tk o' hsb ho' hio' => ?_) _
        subst ha
        have S5 := S.turn (n := tk) (.inl (.inr rfl)) hsb ho'
        refine WP.out (r_asName (r_store S5 (fun s₂ S6 => ?_) cE (lookup_relabel_local hx)))
        have hj' : J i ys G ad (up ob κ o') := by have := hJ i ys G ad ob (ad κ) o' κ (.inl rfl) hj; rwa [up_self] at this
        refine wpAny_mono (turn i ys G ad _ C Z' loc' _ _ s'.toks hlt hj' hzz S6).out (fun y s₃ hy => ?_) fun _ _ q => q.elim
        obtain ⟨G', ad', ob', loc'', S7, hj7, ⟨a7, o7⟩, a8, o8⟩ := hy
        have hob : ob' (κ + 1) = listOf ys.toArray e := by rw [o8, up_other _ _ (Nat.ne_of_gt (Nat.lt_succ_self κ)), ho]
        have e8 := S7.H.own (κ + 1) (.inr rfl)
        rw [a8, had, hob] at e8
        refine append_at (hsz := by rw [List.size_toArray, sizeLine_eq]; exact oq39 hN hlen hlt) e8 fun h₃ hs₃ ho₃ => ?_
        have S8 := S7.turn (n := s₃.toks) (k := κ + 1) (.inr rfl) (by rw [a8, had]; exact hs₃) (by rw [a8, had]; exact ho₃)
        refine ⟨N + 1 - (i + 1), oq40 hlt, .mk (i + 1) (ys ++ [y]) loc'' G' ad' _ rfl hlt S8 ?_ (by rw [List.length_append, hlen]; rfl) ?_ a7 (e + 1) ?_ (a8.trans had)⟩
        · have := hJ _ _ _ _ _ (ad' (κ + 1)) { cls := .type "list", data := .seq (ys.toArray.push y) (e + 1) } (κ + 1) (.inr rfl) hj7
          rwa [up_self] at this
        · rw [up_other _ _ (Nat.ne_of_lt (Nat.lt_succ_self κ)), o7, up_same]; exact hio'
        · rw [up_same]; simp
      · obtain rfl : i = N := oq41 hi' hlt
        refine hend s' ys G ad ob _ _ _ _ _ _ S hj hg hit' (fun h₂ he => ?_) _
        obtain ⟨m, F, hm⟩ := S.F
        have hCit : C ≠ it := fun q => S.na κ (.inl (.inr rfl)) (ha.trans q.symm)
        have usl : ∀ k, (us k ∨ k = κ + 1) → us2 us κ k ∧ k ≠ κ := fun k u => ⟨u.elim (fun u => .inl (.inl u)) .inr, fun q => u.elim (fun u => hκ (q ▸ u)) fun z => absurd (q.symm.trans z) (Nat.ne_of_lt (Nat.lt_succ_self κ))⟩
        have S9 := S.dropBut (κ := κ) (us := fun k => us k ∨ k = κ + 1) (.inl (.inr rfl)) usl (by rw [ha]; exact he) s'.toks
        have R := back G ad ob (fun k => us k ∨ k = κ + 1) { s' with heap := h₂ } S9.H S9.S
        have nC : New Z G ad (fun k => us k ∨ k = κ + 1) L C := ⟨S9.na, nCz, S9.ng, nCl⟩
        exact fin ys e G ad ob C D m _ _ hj (F.ns.extBut he hCit) R nC had ho
  exact codeAny_compStart_list loop (hself _ _ _ hgit loop)
theorem comp_rangeG {elt iter : Expr} {scope : Scope} {cl : List (Str × Addr)} {use : Option (Value → Sem Unit)} {Qv : Value → Shared → Prop} (κ : Nat) (J : InvC) {r : Addr} {hi : Int} {t u v : Tok}
    (hκ : ¬ us κ) (hκ' : ¬ us (κ + 1)) (hJ : ∀ i ys G ad ob b o k, (k = κ ∨ k = κ + 1) → J i ys G ad ob → J i ys G (up ad k b) (up ob k o)) (hh : A.handled = none)
    (hr : IsRange s.heap r 0 hi 1 t u v) (b : 0 ≤ hi ∧ hi ≤ 1000) (S : St B L loc Z G ad ob us s₀ s) (hJ0 : J 0 [] G ad ob)
    (turn : ∀ i ys G ad ob C Z' loc' s₂ s₃ t, i < hi.toNat → J i ys G ad ob → St B C ((x, .int i t) :: loc') Z' G ad ob (us2 us κ) s₂ s₃ → WP pw w A (eval elt (cEnv scope cl C env)) (CE B Z' us κ s₂ C (J (i + 1)) ys ad ob) (fun _ _ => False) s₃)
    (fin : FinU w A E B Z us s₀ L loc κ (J hi.toNat) use Qv)
    (hE : EnvOk env L) (hcell : ∀ y ∈ scope.names, y.2 ≠ .cell) (hkind : scope.kind = .function) (hx : scope.names.lookup x = some .local) :
    wpAny (model pw w) A (pyIter (.ref r)) (fun it s₂ => wpAny (model pw w) A (newList []) (fun acc s₃ => wpAny (model pw w) A (newFunctionEnv scope env.globals cl [] env.qual none .none (some env)) (fun cenv s₄ =>
      codeAny (model pw w) A (.compStart (.ListComp elt [⟨.Name x px, iter, [], 0⟩] scope pos) 0 it acc { cenv with scope := relabel scope env }) (compPost (model pw w) A E use Qv acc cenv.locals) s₄) E s₃) E s₂) E s := by
  obtain ⟨b1, b2⟩ := b
  refine wpAny_pyIter_range hr (small_one (by decide) (by decide) (oq42 b1) (oq43 b2)) ?_
  rw [rangeSize_one]
  have hN : (if 0 < hi then hi - 0 else 0) = ((hi.toNat : Nat) : Int) := by split <;> omega
  rw [hN]
  have hN' : hi.toNat ≤ 1000 := oq44 b2
  generalize hi.toNat = N at turn fin hN' ⊢
  refine comp_blockG κ J (fun i o => o = rangeIt (0 + i) ((N : Int) - i)) N (fun i t => .int i t) hκ hκ' hJ hN' S (oi := rangeIt 0 N) rfl ?_ ?_ ?_ ?_ hcell hkind hx hE.g hE.b hJ0 (fun i ys G ad ob C Z' loc' s₂ s₃ t h1 h2 _ h3 => turn i ys G ad ob C Z' loc' s₂ s₃ t h1 h2 h3) fin rfl
  · simp
  · rintro s' i ys G ad ob C Z' loc' s₂ o Q' S hj hg rfl hlt hQ E'
    refine wpAny_pyNext_range_item hg (oq45 hlt) fun h' hit hsb => ?_
    have := hQ h' (s'.toks + 1) _ hsb hit ?_
    · rw [Int.zero_add]; exact this
    · rw [show (0 : Int) + (i : Int) + 1 = 0 + ((i + 1 : Nat) : Int) from oq46, show (N : Int) - i - 1 = (N : Int) - ((i + 1 : Nat) : Int) from oq47]
  · rintro s' ys G ad ob C Z' loc' s₂ o Q' S hj hg rfl hQ E'
    exact wpAny_pyNext_range_end hh hg (oq48) hQ
  · intro s' Q' E' hg hq
    exact wpAny_pyIter_rangeIt hg hq
theorem comp_listG {elt iter : Expr} {scope : Scope} {cl : List (Str × Addr)} {use : Option (Value → Sem Unit)} {Qv : Value → Shared → Prop} (κ : Nat) (J : InvC) {l : Addr} {vs : List Value}
    (hκ : ¬ us κ) (hκ' : ¬ us (κ + 1)) (hJ : ∀ i ys G ad ob b o k, (k = κ ∨ k = κ + 1) → J i ys G ad ob → J i ys G (up ad k b) (up ob k o)) (hh : A.handled = none)
    (hN : vs.length ≤ 1000) (S : St B L loc Z G ad ob us s₀ s) (hJ0 : J 0 [] G ad ob)
    (src : ∀ i ys G ad ob, J i ys G ad ob → (∃ ol, G l ol ∧ IsL ol vs) ∨ (∃ k, us k ∧ ad k = l ∧ IsL (ob k) vs))
    (turn : ∀ i ys G ad ob C Z' loc' s₂ s₃ v, vs[i]? = some v → J i ys G ad ob → (∀ a o, Z a o → Z' a o) → St B C ((x, v) :: loc') Z' G ad ob (us2 us κ) s₂ s₃ → WP pw w A (eval elt (cEnv scope cl C env)) (CE B Z' us κ s₂ C (J (i + 1)) ys ad ob) (fun _ _ => False) s₃)
    (fin : FinU w A E B Z us s₀ L loc κ (J vs.length) use Qv)
    (hE : EnvOk env L) (hcell : ∀ y ∈ scope.names, y.2 ≠ .cell) (hkind : scope.kind = .function) (hx : scope.names.lookup x = some .local) :
    wpAny (model pw w) A (pyIter (.ref l)) (fun it s₂ => wpAny (model pw w) A (newList []) (fun acc s₃ => wpAny (model pw w) A (newFunctionEnv scope env.globals cl [] env.qual none .none (some env)) (fun cenv s₄ =>
      codeAny (model pw w) A (.compStart (.ListComp elt [⟨.Name x px, iter, [], 0⟩] scope pos) 0 it acc { cenv with scope := relabel scope env }) (compPost (model pw w) A E use Qv acc cenv.locals) s₄) E s₃) E s₂) E s := by
  have srcAt : ∀ {C : Addr} {loc' : List (Str × Value)} {Z' G' : Addr → Obj → Prop} {ad' : Nat → Addr} {ob' : Nat → Obj} {us' : Nat → Prop} {s₂ s' : Shared} {i ys}, (∀ k, us k → us' k) → St B C loc' Z' G' ad' ob' us' s₂ s' → J i ys G' ad' ob' → s'.heap.IsList l vs.toArray := by
    intro C loc' Z' G' ad' ob' us' s₂ s' i ys hu S' hj
    rcases src i ys G' ad' ob' hj with ⟨ol, hg, hl⟩ | ⟨k, uk, rfl, hl⟩
    · exact IsL.at (S'.H.imm _ _ hg).1 hl
    · exact IsL.at (S'.H.own k (hu k uk)) hl
  refine wpAny_pyIter_list (srcAt (fun _ u => u) S hJ0) ?_
  refine comp_blockG κ J (fun i o => IsLI o l i) vs.length (fun i t => vs.getD i .none) hκ hκ' hJ hN S (oi := { cls := .type "list_iterator", data := .fields #[.ref l, .int 0 0] }) rfl ⟨rfl, rfl⟩ ?_ ?_ ?_ hcell hkind hx hE.g hE.b hJ0
    (fun i ys G ad ob C Z' loc' s₂ s₃ t hi hj hz S' => turn i ys G ad ob C Z' loc' s₂ s₃ (vs.getD i .none) (by rw [List.getD_eq_getElem?_getD, List.getElem?_eq_getElem hi]; rfl) hj hz S') fin rfl
  · rintro s' i ys G ad ob C Z' loc' s₂ o Q' S hj hg hi hlt hQ E'
    refine wpAny_pyNext_list_item ⟨_, hg, hi.1, hi.2⟩ (srcAt (fun _ u => .inl (.inl u)) S hj) (x := vs.getD i .none) (by rw [List.getElem?_toArray, List.getD_eq_getElem?_getD, List.getElem?_eq_getElem hlt]; rfl) fun h' hit hsb => ?_
    obtain ⟨o', ho', hc', hd'⟩ := hit
    exact hQ h' s'.toks o' hsb ho' ⟨hc', hd'⟩
  · rintro s' ys G ad ob C Z' loc' s₂ o Q' S hj hg hi hQ E'
    exact wpAny_pyNext_list_end hh ⟨_, hg, hi.1, hi.2⟩ (srcAt (fun _ u => .inl (.inl u)) S hj) (by simp) hQ
  · intro s' Q' E' hg hq
    exact wpAny_pyIter_listiter ⟨_, hg, rfl, rfl⟩ hq
inductive CR (w : World) (A : Around) (env : Env) (x : Str) (elt : Expr) (scope : Scope) (cl : List (Str × Addr)) (B : Heap) (Z : Addr → Obj → Prop) (us : Nat → Prop) (s₀ : Shared) (L : Addr) (κ : Nat) (J : InvC) (Q : Value → Shared → Prop) (xv : Value) (s₁ : Shared) : Prop
  | mk (r : Addr) (hi : Int) (t u v : Tok) (loc : List (Str × Value)) (G : Addr → Obj → Prop) (ad : Nat → Addr) (ob : Nat → Obj) (e : xv = .ref r) (hr : IsRange s₁.heap r 0 hi 1 t u v) (b : 0 ≤ hi ∧ hi ≤ 1000) (S : St B L loc Z G ad ob us s₀ s₁) (j : J 0 [] G ad ob)
      (turn : ∀ i ys G ad ob C Z' loc' s₂ s₃ t, i < hi.toNat → J i ys G ad ob → St B C ((x, .int i t) :: loc') Z' G ad ob (us2 us κ) s₂ s₃ → WP pw w A (eval elt (cEnv scope cl C env)) (CE B Z' us κ s₂ C (J (i + 1)) ys ad ob) (fun _ _ => False) s₃)
      (fin : ∀ ys n G ad ob D s₂, J hi.toNat ys G ad ob → St B L loc Z G ad ob us s₀ s₂ → s₂.heap.get? D = some (listOf ys.toArray n) → New Z G ad us L D → Q (.ref D) s₂)
inductive CRU (w : World) (A : Around) (env : Env) (x : Str) (elt : Expr) (scope : Scope) (cl : List (Str × Addr)) (B : Heap) (Z : Addr → Obj → Prop) (us : Nat → Prop) (s₀ : Shared) (L : Addr) (κ : Nat) (J : InvC) (y : Str) (Q : Flow → Shared → Prop) (xv : Value) (s₁ : Shared) : Prop
  | mk (r : Addr) (hi : Int) (t u v : Tok) (loc : List (Str × Value)) (G : Addr → Obj → Prop) (ad : Nat → Addr) (ob : Nat → Obj) (e : xv = .ref r) (hr : IsRange s₁.heap r 0 hi 1 t u v) (b : 0 ≤ hi ∧ hi ≤ 1000) (S : St B L loc Z G ad ob us s₀ s₁) (j : J 0 [] G ad ob)
      (turn : ∀ i ys G ad ob C Z' loc' s₂ s₃ t, i < hi.toNat → J i ys G ad ob → St B C ((x, .int i t) :: loc') Z' G ad ob (us2 us κ) s₂ s₃ → WP pw w A (eval elt (cEnv scope cl C env)) (CE B Z' us κ s₂ C (J (i + 1)) ys ad ob) (fun _ _ => False) s₃)
      (fin : ∀ ys n G ad ob D s₂, J hi.toNat ys G ad ob → St B L ((y, .ref D) :: loc) Z G ad ob us s₀ s₂ → s₂.heap.get? D = some (listOf ys.toArray n) → New Z G ad us L D → Q .next s₂)
inductive CL (w : World) (A : Around) (env : Env) (x : Str) (elt : Expr) (scope : Scope) (cl : List (Str × Addr)) (B : Heap) (Z : Addr → Obj → Prop) (us : Nat → Prop) (s₀ : Shared) (L : Addr) (κ : Nat) (J : InvC) (Q : Value → Shared → Prop) (xv : Value) (s₁ : Shared) : Prop
  | mk (l : Addr) (vs : List Value) (loc : List (Str × Value)) (G : Addr → Obj → Prop) (ad : Nat → Addr) (ob : Nat → Obj) (e : xv = .ref l) (hN : vs.length ≤ 1000) (S : St B L loc Z G ad ob us s₀ s₁) (j : J 0 [] G ad ob) (src : ∀ i ys G ad ob, J i ys G ad ob → (∃ ol, G l ol ∧ IsL ol vs) ∨ (∃ k, us k ∧ ad k = l ∧ IsL (ob k) vs))
      (turn : ∀ i ys G ad ob C Z' loc' s₂ s₃ v, vs[i]? = some v → J i ys G ad ob → St B C ((x, v) :: loc') Z' G ad ob (us2 us κ) s₂ s₃ → WP pw w A (eval elt (cEnv scope cl C env)) (CE B Z' us κ s₂ C (J (i + 1)) ys ad ob) (fun _ _ => False) s₃)
      (fin : ∀ ys n G ad ob D s₂, J vs.length ys G ad ob → St B L loc Z G ad ob us s₀ s₂ → s₂.heap.get? D = some (listOf ys.toArray n) → New Z G ad us L D → Q (.ref D) s₂)
inductive CLU (w : World) (A : Around) (env : Env) (x : Str) (elt : Expr) (scope : Scope) (cl : List (Str × Addr)) (B : Heap) (Z : Addr → Obj → Prop) (us : Nat → Prop) (s₀ : Shared) (L : Addr) (κ : Nat) (J : InvC) (y : Str) (Q : Flow → Shared → Prop) (xv : Value) (s₁ : Shared) : Prop
  | mk (l : Addr) (vs : List Value) (loc : List (Str × Value)) (G : Addr → Obj → Prop) (ad : Nat → Addr) (ob : Nat → Obj) (e : xv = .ref l) (hN : vs.length ≤ 1000) (S : St B L loc Z G ad ob us s₀ s₁) (j : J 0 [] G ad ob) (src : ∀ i ys G ad ob, J i ys G ad ob → (∃ ol, G l ol ∧ IsL ol vs) ∨ (∃ k, us k ∧ ad k = l ∧ IsL (ob k) vs))
      (turn : ∀ i ys G ad ob C Z' loc' s₂ s₃ v, vs[i]? = some v → J i ys G ad ob → (∀ a o, Z a o → Z' a o) → St B C ((x, v) :: loc') Z' G ad ob (us2 us κ) s₂ s₃ → WP pw w A (eval elt (cEnv scope cl C env)) (CE B Z' us κ s₂ C (J (i + 1)) ys ad ob) (fun _ _ => False) s₃)
      (fin : ∀ ys n G ad ob D s₂, J vs.length ys G ad ob → St B L ((y, .ref D) :: loc) Z G ad ob us s₀ s₂ → s₂.heap.get? D = some (listOf ys.toArray n) → New Z G ad us L D → Q .next s₂)
theorem r_compRange {elt iter : Expr} {scope : Scope} {cl : List (Str × Addr)} {Q : Value → Shared → Prop} (κ : Nat) (J : InvC)
    (hκ : ¬ us κ) (hκ' : ¬ us (κ + 1)) (hJ : ∀ i ys G ad ob b o k, (k = κ ∨ k = κ + 1) → J i ys G ad ob → J i ys G (up ad k b) (up ob k o)) (hh : A.handled = none)
    (h : WP pw w A (eval iter env) (CR w A env x elt scope cl B Z us s₀ L κ J Q) E s)
    (hE : EnvOk env L := by exact ⟨rfl, rfl, rfl, rfl⟩) (hcell : ∀ y ∈ scope.names, y.2 ≠ .cell := by decide) (hkind : scope.kind = .function := by rfl) (hx : scope.names.lookup x = some .local := by rfl)
    (hs : ∀ x, foldedSetIterable iter env x = pure x := by intro _; rfl) (hclos : closureFor scope env = pure cl := by rfl) (hnames : ∀ x ∈ scope.names, x.2 = .local → scope.names.lookup x.1 = some .local := by decide) :
    WP pw w A (eval (.ListComp elt [⟨.Name x px, iter, [], 0⟩] scope pos) env) Q E s := by
  delta WP
  rw [eval_ListComp]
  refine wpAny_comprehension_free (cl := cl) rfl hs hclos hkind hnames (wpAny_mono h.out (fun xv s₁ h₁ => ?_) fun _ _ e => e)
  obtain ⟨r, hi, t, u, v, loc, G, ad, ob, rfl, hr, b, S, hJ0, turn, fin⟩ := h₁
  exact comp_rangeG κ J hκ hκ' hJ hh hr b S hJ0 turn (fin_none hκ' fin) hE hcell hkind hx
theorem r_compList {elt iter : Expr} {scope : Scope} {cl : List (Str × Addr)} {Q : Value → Shared → Prop} (κ : Nat) (J : InvC)
    (hκ : ¬ us κ) (hκ' : ¬ us (κ + 1)) (hJ : ∀ i ys G ad ob b o k, (k = κ ∨ k = κ + 1) → J i ys G ad ob → J i ys G (up ad k b) (up ob k o)) (hh : A.handled = none)
    (h : WP pw w A (eval iter env) (CL w A env x elt scope cl B Z us s₀ L κ J Q) E s)
    (hE : EnvOk env L := by exact ⟨rfl, rfl, rfl, rfl⟩) (hcell : ∀ y ∈ scope.names, y.2 ≠ .cell := by decide) (hkind : scope.kind = .function := by rfl) (hx : scope.names.lookup x = some .local := by rfl)
    (hs : ∀ x, foldedSetIterable iter env x = pure x := by intro _; rfl) (hclos : closureFor scope env = pure cl := by rfl) (hnames : ∀ x ∈ scope.names, x.2 = .local → scope.names.lookup x.1 = some .local := by decide) :
    WP pw w A (eval (.ListComp elt [⟨.Name x px, iter, [], 0⟩] scope pos) env) Q E s := by
  delta WP
  rw [eval_ListComp]
  refine wpAny_comprehension_free (cl := cl) rfl hs hclos hkind hnames (wpAny_mono h.out (fun xv s₁ h₁ => ?_) fun _ _ e => e)
  obtain ⟨l, vs, loc, G, ad, ob, rfl, hN, S, hJ0, src, turn, fin⟩ := h₁
  exact comp_listG κ J hκ hκ' hJ hh hN S hJ0 src (fun i ys G ad ob C Z' loc' s₂ s₃ v h1 h2 _ h3 => turn i ys G ad ob C Z' loc' s₂ s₃ v h1 h2 h3) (fin_none hκ' fin) hE hcell hkind hx
theorem comp_useG {elt iter : Expr} {scope : Scope} {cl : List (Str × Addr)} {Q : Flow → Shared → Prop} {y : Str} {py spos : Pos}
    (hs : ∀ x, foldedSetIterable iter env x = pure x) (hclos : closureFor scope env = pure cl) (hkind : scope.kind = .function) (hnames : ∀ x ∈ scope.names, x.2 = .local → scope.names.lookup x.1 = some .local)
    (hsw : swapsWith (.ListComp elt [⟨.Name x px, iter, [], 0⟩] scope pos) (some (.Name y py)) spos.line env = pure true)
    (h : wpAny (model pw w) A (eval iter env) (fun xv s₁ => wpAny (model pw w) A (pyIter xv) (fun it s₂ => wpAny (model pw w) A (newList []) (fun acc s₃ => wpAny (model pw w) A (newFunctionEnv scope env.globals cl [] env.qual none .none (some env)) (fun cenv s₄ =>
      codeAny (model pw w) A (.compStart (.ListComp elt [⟨.Name x px, iter, [], 0⟩] scope pos) 0 it acc { cenv with scope := relabel scope env }) (compPost (model pw w) A E (some (assign (.Name y py) env)) (fun _ s' => Q .next s') acc cenv.locals) s₄) E s₃) E s₂) E s₁) E s) :
    WP pw w A (exec (.Assign [.Name y py] (.ListComp elt [⟨.Name x px, iter, [], 0⟩] scope pos) spos) env) Q E s := by
  delta WP
  rw [exec_Assign_Name_used _ _ _ _ hsw]
  refine wpAny_bind (wpAny_standAt (wpAny_bind ?_))
  show wpAny _ A (do let _ ← comprehension (.ListComp elt [⟨.Name x px, iter, [], 0⟩] scope pos) scope env _ (newList []) false (eval iter env) (some (assign (.Name y py) env))) _ _ s
  exact wpAny_bind (wpAny_mono (wpAny_comprehension_free (cl := cl) (use := some (assign (.Name y py) env)) (Q := fun _ s' => Q .next s') rfl hs hclos hkind hnames h) (fun _ s' hq => wpAny_pure (wpAny_pure hq)) fun _ _ e => e)
theorem r_compRangeU {elt iter : Expr} {scope : Scope} {cl : List (Str × Addr)} {Q : Flow → Shared → Prop} {y : Str} {py spos : Pos} (κ : Nat) (J : InvC)
    (hκ : ¬ us κ) (hκ' : ¬ us (κ + 1)) (hJ : ∀ i ys G ad ob b o k, (k = κ ∨ k = κ + 1) → J i ys G ad ob → J i ys G (up ad k b) (up ob k o)) (hh : A.handled = none)
    (h : WP pw w A (eval iter env) (CRU w A env x elt scope cl B Z us s₀ L κ J y Q) E s)
    (hE : EnvOk env L := by exact ⟨rfl, rfl, rfl, rfl⟩) (hcell : ∀ y ∈ scope.names, y.2 ≠ .cell := by decide) (hkind : scope.kind = .function := by rfl) (hx : scope.names.lookup x = some .local := by rfl)
    (hs : ∀ x, foldedSetIterable iter env x = pure x := by intro _; rfl) (hclos : closureFor scope env = pure cl := by rfl) (hnames : ∀ x ∈ scope.names, x.2 = .local → scope.names.lookup x.1 = some .local := by decide)
    (hy : env.kindOf y = some .local := by rfl) (hsw : swapsWith (.ListComp elt [⟨.Name x px, iter, [], 0⟩] scope pos) (some (.Name y py)) spos.line env = pure true := by rfl) :
    WP pw w A (exec (.Assign [.Name y py] (.ListComp elt [⟨.Name x px, iter, [], 0⟩] scope pos) spos) env) Q E s := by
  refine comp_useG hs hclos hkind hnames hsw (wpAny_mono h.out (fun xv s₁ h₁ => ?_) fun _ _ e => e)
  obtain ⟨r, hi, t, u, v, loc, G, ad, ob, rfl, hr, b, S, hJ0, turn, fin⟩ := h₁
  exact comp_rangeG κ J hκ hκ' hJ hh hr b S hJ0 turn (fin_some hE hy hκ' fin) hE hcell hkind hx
theorem r_compListU {elt iter : Expr} {scope : Scope} {cl : List (Str × Addr)} {Q : Flow → Shared → Prop} {y : Str} {py spos : Pos} (κ : Nat) (J : InvC)
    (hκ : ¬ us κ) (hκ' : ¬ us (κ + 1)) (hJ : ∀ i ys G ad ob b o k, (k = κ ∨ k = κ + 1) → J i ys G ad ob → J i ys G (up ad k b) (up ob k o)) (hh : A.handled = none)
    (h : WP pw w A (eval iter env) (CLU w A env x elt scope cl B Z us s₀ L κ J y Q) E s)
    (hE : EnvOk env L := by exact ⟨rfl, rfl, rfl, rfl⟩) (hcell : ∀ y ∈ scope.names, y.2 ≠ .cell := by decide) (hkind : scope.kind = .function := by rfl) (hx : scope.names.lookup x = some .local := by rfl)
    (hs : ∀ x, foldedSetIterable iter env x = pure x := by intro _; rfl) (hclos : closureFor scope env = pure cl := by rfl) (hnames : ∀ x ∈ scope.names, x.2 = .local → scope.names.lookup x.1 = some .local := by decide)
    (hy : env.kindOf y = some .local := by rfl) (hsw : swapsWith (.ListComp elt [⟨.Name x px, iter, [], 0⟩] scope pos) (some (.Name y py)) spos.line env = pure true := by rfl) :
    WP pw w A (exec (.Assign [.Name y py] (.ListComp elt [⟨.Name x px, iter, [], 0⟩] scope pos) spos) env) Q E s := by
  refine comp_useG hs hclos hkind hnames hsw (wpAny_mono h.out (fun xv s₁ h₁ => ?_) fun _ _ e => e)
  obtain ⟨l, vs, loc, G, ad, ob, rfl, hN, S, hJ0, src, turn, fin⟩ := h₁
  exact comp_listG κ J hκ hκ' hJ hh hN S hJ0 src turn (fin_some hE hy hκ' fin) hE hcell hkind hx
end
theorem g_muldiv (w : World) : nsIn (KK w) mainGlobals "muldiv" = some (some (.ref 28)) := by kernel_rfl
theorem g_cut_div (w : World) : nsIn (KK w) mainGlobals "cut_div" = some (some (.ref 35)) := by kernel_rfl
theorem g_dot14 (w : World) : nsIn (KK w) mainGlobals "dot14" = some (some (.ref 42)) := by kernel_rfl
theorem g_apart (w : World) : nsIn (KK w) mainGlobals "apart" = some (some (.ref 49)) := by kernel_rfl
theorem g_measured (w : World) : nsIn (KK w) mainGlobals "measured" = some (some (.ref 56)) := by kernel_rfl
theorem g_dual_measured (w : World) : nsIn (KK w) mainGlobals "dual_measured" = some (some (.ref 63)) := by kernel_rfl
theorem g_place_of (w : World) : nsIn (KK w) mainGlobals "place_of" = some (some (.ref 70)) := by kernel_rfl
theorem g_touch (w : World) : nsIn (KK w) mainGlobals "touch" = some (some (.ref 77)) := by kernel_rfl
theorem g_step_of (w : World) : nsIn (KK w) mainGlobals "step_of" = some (some (.ref 84)) := by kernel_rfl
theorem g_shifted (w : World) : nsIn (KK w) mainGlobals "shifted" = some (some (.ref 91)) := by kernel_rfl
theorem g_move_point (w : World) : nsIn (KK w) mainGlobals "move_point" = some (some (.ref 98)) := by kernel_rfl
theorem g_do_gc (w : World) : nsIn (KK w) mainGlobals "do_gc" = some (some (.ref 106)) := by kernel_rfl
theorem g_do_scfs (w : World) : nsIn (KK w) mainGlobals "do_scfs" = some (some (.ref 113)) := by kernel_rfl
theorem g_do_md (w : World) : nsIn (KK w) mainGlobals "do_md" = some (some (.ref 120)) := by kernel_rfl
theorem g_crossing (w : World) : nsIn (KK w) mainGlobals "crossing" = some (some (.ref 127)) := by kernel_rfl
theorem g_do_isect (w : World) : nsIn (KK w) mainGlobals "do_isect" = some (some (.ref 134)) := by kernel_rfl
theorem g_do_alignpts (w : World) : nsIn (KK w) mainGlobals "do_alignpts" = some (some (.ref 141)) := by kernel_rfl
theorem g_do_utp (w : World) : nsIn (KK w) mainGlobals "do_utp" = some (some (.ref 148)) := by kernel_rfl
theorem g_do_flippt (w : World) : nsIn (KK w) mainGlobals "do_flippt" = some (some (.ref 155)) := by kernel_rfl
theorem g_do_flip_row (w : World) : nsIn (KK w) mainGlobals "do_flip_row" = some (some (.ref 162)) := by kernel_rfl
theorem g_HintFault (w : World) : nsIn (KK w) mainGlobals "HintFault" = some (some (.ref 192)) := by kernel_rfl
theorem g_Rounding (w : World) : nsIn (KK w) mainGlobals "Rounding" = some (some (.ref 218)) := by kernel_rfl
theorem g_named (w : World) : nsIn (KK w) mainGlobals "named" = some (some (.ref 229)) := by kernel_rfl
theorem g_GraphicsState (w : World) : nsIn (KK w) mainGlobals "GraphicsState" = some (some (.ref 274)) := by kernel_rfl
theorem g_HintStack (w : World) : nsIn (KK w) mainGlobals "HintStack" = some (some (.ref 330)) := by kernel_rfl
theorem g_HintWork (w : World) : nsIn (KK w) mainGlobals "HintWork" = some (some (.ref 381)) := by kernel_rfl
theorem g_Zone (w : World) : nsIn (KK w) mainGlobals "Zone" = some (some (.ref 423)) := by kernel_rfl
theorem g_law_pool (w : World) : nsIn (KK w) mainGlobals "_law_pool" = some (some (.ref 434)) := by kernel_rfl
theorem g_law_take (w : World) : nsIn (KK w) mainGlobals "_law_take" = some (some (.ref 441)) := by kernel_rfl
theorem g_law_one (w : World) : nsIn (KK w) mainGlobals "_law_one" = some (some (.ref 448)) := by kernel_rfl
theorem g_law_spot (w : World) : nsIn (KK w) mainGlobals "_law_spot" = some (some (.ref 455)) := by kernel_rfl
theorem g_law_begun (w : World) : nsIn (KK w) mainGlobals "_law_begun" = some (some (.ref 460)) := by kernel_rfl
theorem g_law_told (w : World) : nsIn (KK w) mainGlobals "_law_told" = some (some (.ref 467)) := by kernel_rfl
theorem g_law_half (w : World) : nsIn (KK w) mainGlobals "_law_half" = some (some (.ref 474)) := by kernel_rfl
theorem g_law_cut (w : World) : nsIn (KK w) mainGlobals "_law_cut" = some (some (.ref 481)) := by kernel_rfl
theorem g_law_moved (w : World) : nsIn (KK w) mainGlobals "_law_moved" = some (some (.ref 488)) := by kernel_rfl
theorem g_law_crossing (w : World) : nsIn (KK w) mainGlobals "_law_crossing" = some (some (.ref 495)) := by kernel_rfl
theorem g_law_isect (w : World) : nsIn (KK w) mainGlobals "_law_isect" = some (some (.ref 500)) := by kernel_rfl
theorem g_law_align (w : World) : nsIn (KK w) mainGlobals "_law_align" = some (some (.ref 507)) := by kernel_rfl
theorem g_law_utp (w : World) : nsIn (KK w) mainGlobals "_law_utp" = some (some (.ref 514)) := by kernel_rfl
theorem g_law_flips (w : World) : nsIn (KK w) mainGlobals "_law_flips" = some (some (.ref 519)) := by kernel_rfl
theorem g_law_scfs (w : World) : nsIn (KK w) mainGlobals "_law_scfs" = some (some (.ref 526)) := by kernel_rfl
theorem g_law_measures (w : World) : nsIn (KK w) mainGlobals "_law_measures" = some (some (.ref 533)) := by kernel_rfl
theorem g_law_refused (w : World) : nsIn (KK w) mainGlobals "_law_refused" = some (some (.ref 540)) := by kernel_rfl
theorem g_NOUGHT (w : World) : nsIn (KK w) mainGlobals "NOUGHT" = some (some (.ref 99)) := by kernel_rfl
theorem g_ONE14 (w : World) : nsIn (KK w) mainGlobals "ONE14" = some (some (.int 16384 196)) := by kernel_rfl
theorem g_LEAST_DOT (w : World) : nsIn (KK w) mainGlobals "LEAST_DOT" = some (some (.int 1024 529)) := by kernel_rfl
theorem k_muldiv (w : World) : keepIn (KK w) (.ref 28) = true := by kernel_rfl
theorem k_cut_div (w : World) : keepIn (KK w) (.ref 35) = true := by kernel_rfl
theorem k_dot14 (w : World) : keepIn (KK w) (.ref 42) = true := by kernel_rfl
theorem k_apart (w : World) : keepIn (KK w) (.ref 49) = true := by kernel_rfl
theorem k_measured (w : World) : keepIn (KK w) (.ref 56) = true := by kernel_rfl
theorem k_dual_measured (w : World) : keepIn (KK w) (.ref 63) = true := by kernel_rfl
theorem k_place_of (w : World) : keepIn (KK w) (.ref 70) = true := by kernel_rfl
theorem k_touch (w : World) : keepIn (KK w) (.ref 77) = true := by kernel_rfl
theorem k_step_of (w : World) : keepIn (KK w) (.ref 84) = true := by kernel_rfl
theorem k_shifted (w : World) : keepIn (KK w) (.ref 91) = true := by kernel_rfl
theorem k_move_point (w : World) : keepIn (KK w) (.ref 98) = true := by kernel_rfl
theorem k_do_gc (w : World) : keepIn (KK w) (.ref 106) = true := by kernel_rfl
theorem k_do_scfs (w : World) : keepIn (KK w) (.ref 113) = true := by kernel_rfl
theorem k_do_md (w : World) : keepIn (KK w) (.ref 120) = true := by kernel_rfl
theorem k_crossing (w : World) : keepIn (KK w) (.ref 127) = true := by kernel_rfl
theorem k_do_isect (w : World) : keepIn (KK w) (.ref 134) = true := by kernel_rfl
theorem k_do_alignpts (w : World) : keepIn (KK w) (.ref 141) = true := by kernel_rfl
theorem k_do_utp (w : World) : keepIn (KK w) (.ref 148) = true := by kernel_rfl
theorem k_do_flippt (w : World) : keepIn (KK w) (.ref 155) = true := by kernel_rfl
theorem k_do_flip_row (w : World) : keepIn (KK w) (.ref 162) = true := by kernel_rfl
theorem k_named (w : World) : keepIn (KK w) (.ref 229) = true := by kernel_rfl
theorem k_law_pool (w : World) : keepIn (KK w) (.ref 434) = true := by kernel_rfl
theorem k_law_take (w : World) : keepIn (KK w) (.ref 441) = true := by kernel_rfl
theorem k_law_one (w : World) : keepIn (KK w) (.ref 448) = true := by kernel_rfl
theorem k_law_spot (w : World) : keepIn (KK w) (.ref 455) = true := by kernel_rfl
theorem k_law_begun (w : World) : keepIn (KK w) (.ref 460) = true := by kernel_rfl
theorem k_law_told (w : World) : keepIn (KK w) (.ref 467) = true := by kernel_rfl
theorem k_law_half (w : World) : keepIn (KK w) (.ref 474) = true := by kernel_rfl
theorem k_law_cut (w : World) : keepIn (KK w) (.ref 481) = true := by kernel_rfl
theorem k_law_moved (w : World) : keepIn (KK w) (.ref 488) = true := by kernel_rfl
theorem k_law_crossing (w : World) : keepIn (KK w) (.ref 495) = true := by kernel_rfl
theorem k_law_isect (w : World) : keepIn (KK w) (.ref 500) = true := by kernel_rfl
theorem k_law_align (w : World) : keepIn (KK w) (.ref 507) = true := by kernel_rfl
theorem k_law_utp (w : World) : keepIn (KK w) (.ref 514) = true := by kernel_rfl
theorem k_law_flips (w : World) : keepIn (KK w) (.ref 519) = true := by kernel_rfl
theorem k_law_scfs (w : World) : keepIn (KK w) (.ref 526) = true := by kernel_rfl
theorem k_law_measures (w : World) : keepIn (KK w) (.ref 533) = true := by kernel_rfl
theorem k_law_refused (w : World) : keepIn (KK w) (.ref 540) = true := by kernel_rfl
theorem b_len (w : World) : nsIn (KK w) mainGlobals "len" = some none := by kernel_rfl
theorem b_int (w : World) : nsIn (KK w) mainGlobals "int" = some none := by kernel_rfl
theorem b_max (w : World) : nsIn (KK w) mainGlobals "max" = some none := by kernel_rfl
theorem b_abs (w : World) : nsIn (KK w) mainGlobals "abs" = some none := by kernel_rfl
theorem b_range (w : World) : nsIn (KK w) mainGlobals "range" = some none := by kernel_rfl
theorem b_list (w : World) : nsIn (KK w) mainGlobals "list" = some none := by kernel_rfl
theorem b_tuple (w : World) : nsIn (KK w) mainGlobals "tuple" = some none := by kernel_rfl
theorem b_zip (w : World) : nsIn (KK w) mainGlobals "zip" = some none := by kernel_rfl
theorem b_str (w : World) : nsIn (KK w) mainGlobals "str" = some none := by kernel_rfl
theorem bb_len : bootBuiltins "len" = some (.builtin "len") := by decide +kernel
theorem bb_int : bootBuiltins "int" = some (.type "int") := by decide +kernel
theorem bb_max : bootBuiltins "max" = some (.builtin "max") := by decide +kernel
theorem bb_abs : bootBuiltins "abs" = some (.builtin "abs") := by decide +kernel
theorem bb_range : bootBuiltins "range" = some (.type "range") := by decide +kernel
theorem bb_list : bootBuiltins "list" = some (.type "list") := by decide +kernel
theorem bb_tuple : bootBuiltins "tuple" = some (.type "tuple") := by decide +kernel
theorem bb_zip : bootBuiltins "zip" = some (.type "zip") := by decide +kernel
theorem bb_str : bootBuiltins "str" = some (.type "str") := by decide +kernel
theorem taker_of {K : Frag} {Cc : Addr} {name : Str} (h : findIn K (.ref Cc) name = some none) : takerIn K Cc name = some none := by
  unfold takerIn
  rw [h]
  rfl
theorem pg_S (w : World) : plainGet (KK w) 274 "x" = true := by kernel_rfl
theorem hd_S (w : World) : hasDictIn (KK w) 274 = true := by kernel_rfl
theorem sa_S (w : World) : findIn (KK w) (.ref 274) "__setattr__" = some (some (.builtin "object.__setattr__")) := by kernel_rfl
theorem po_S (w : World) : plainOver (KK w) 274 = true := by kernel_rfl
theorem cls_S {w : World} {name : Str} (h : findIn (KK w) (.ref 274) name = some none) : ClsA w 274 name := ⟨pg_S w, hd_S w, h, sa_S w, po_S w, taker_of h⟩
theorem a_S_freedom (w : World) : ClsA w 274 "freedom" := cls_S (by kernel_rfl)
theorem a_S_projection (w : World) : ClsA w 274 "projection" := cls_S (by kernel_rfl)
theorem a_S_dual (w : World) : ClsA w 274 "dual" := cls_S (by kernel_rfl)
theorem a_S_rp0 (w : World) : ClsA w 274 "rp0" := cls_S (by kernel_rfl)
theorem a_S_rp1 (w : World) : ClsA w 274 "rp1" := cls_S (by kernel_rfl)
theorem a_S_rp2 (w : World) : ClsA w 274 "rp2" := cls_S (by kernel_rfl)
theorem a_S_zp0 (w : World) : ClsA w 274 "zp0" := cls_S (by kernel_rfl)
theorem a_S_zp1 (w : World) : ClsA w 274 "zp1" := cls_S (by kernel_rfl)
theorem a_S_zp2 (w : World) : ClsA w 274 "zp2" := cls_S (by kernel_rfl)
theorem a_S_loop (w : World) : ClsA w 274 "loop" := cls_S (by kernel_rfl)
theorem a_S_minimum (w : World) : ClsA w 274 "minimum" := cls_S (by kernel_rfl)
theorem a_S_cut_in (w : World) : ClsA w 274 "cut_in" := cls_S (by kernel_rfl)
theorem a_S_single_cut_in (w : World) : ClsA w 274 "single_cut_in" := cls_S (by kernel_rfl)
theorem a_S_single_width (w : World) : ClsA w 274 "single_width" := cls_S (by kernel_rfl)
theorem a_S_delta_base (w : World) : ClsA w 274 "delta_base" := cls_S (by kernel_rfl)
theorem a_S_delta_shift (w : World) : ClsA w 274 "delta_shift" := cls_S (by kernel_rfl)
theorem a_S_auto_flip (w : World) : ClsA w 274 "auto_flip" := cls_S (by kernel_rfl)
theorem a_S_rounding (w : World) : ClsA w 274 "rounding" := cls_S (by kernel_rfl)
theorem pg_K (w : World) : plainGet (KK w) 330 "x" = true := by kernel_rfl
theorem hd_K (w : World) : hasDictIn (KK w) 330 = true := by kernel_rfl
theorem sa_K (w : World) : findIn (KK w) (.ref 330) "__setattr__" = some (some (.builtin "object.__setattr__")) := by kernel_rfl
theorem po_K (w : World) : plainOver (KK w) 330 = true := by kernel_rfl
theorem cls_K {w : World} {name : Str} (h : findIn (KK w) (.ref 330) name = some none) : ClsA w 330 name := ⟨pg_K w, hd_K w, h, sa_K w, po_K w, taker_of h⟩
theorem a_K_most (w : World) : ClsA w 330 "most" := cls_K (by kernel_rfl)
theorem a_K_numbers (w : World) : ClsA w 330 "numbers" := cls_K (by kernel_rfl)
theorem pg_W (w : World) : plainGet (KK w) 381 "x" = true := by kernel_rfl
theorem hd_W (w : World) : hasDictIn (KK w) 381 = true := by kernel_rfl
theorem sa_W (w : World) : findIn (KK w) (.ref 381) "__setattr__" = some (some (.builtin "object.__setattr__")) := by kernel_rfl
theorem po_W (w : World) : plainOver (KK w) 381 = true := by kernel_rfl
theorem cls_W {w : World} {name : Str} (h : findIn (KK w) (.ref 381) name = some none) : ClsA w 381 name := ⟨pg_W w, hd_W w, h, sa_W w, po_W w, taker_of h⟩
theorem a_W_state (w : World) : ClsA w 381 "state" := cls_W (by kernel_rfl)
theorem a_W_stack (w : World) : ClsA w 381 "stack" := cls_W (by kernel_rfl)
theorem a_W_zones (w : World) : ClsA w 381 "zones" := cls_W (by kernel_rfl)
theorem a_W_cvt (w : World) : ClsA w 381 "cvt" := cls_W (by kernel_rfl)
theorem a_W_storage (w : World) : ClsA w 381 "storage" := cls_W (by kernel_rfl)
theorem a_W_ppem (w : World) : ClsA w 381 "ppem" := cls_W (by kernel_rfl)
theorem a_W_point_size (w : World) : ClsA w 381 "point_size" := cls_W (by kernel_rfl)
theorem a_W_scale (w : World) : ClsA w 381 "scale" := cls_W (by kernel_rfl)
theorem pg_Z (w : World) : plainGet (KK w) 423 "x" = true := by kernel_rfl
theorem hd_Z (w : World) : hasDictIn (KK w) 423 = true := by kernel_rfl
theorem sa_Z (w : World) : findIn (KK w) (.ref 423) "__setattr__" = some (some (.builtin "object.__setattr__")) := by kernel_rfl
theorem po_Z (w : World) : plainOver (KK w) 423 = true := by kernel_rfl
theorem cls_Z {w : World} {name : Str} (h : findIn (KK w) (.ref 423) name = some none) : ClsA w 423 name := ⟨pg_Z w, hd_Z w, h, sa_Z w, po_Z w, taker_of h⟩
theorem a_Z_original (w : World) : ClsA w 423 "original" := cls_Z (by kernel_rfl)
theorem a_Z_current (w : World) : ClsA w 423 "current" := cls_Z (by kernel_rfl)
theorem a_Z_touched (w : World) : ClsA w 423 "touched" := cls_Z (by kernel_rfl)
theorem a_Z_ends (w : World) : ClsA w 423 "ends" := cls_Z (by kernel_rfl)
theorem a_Z_on_curve (w : World) : ClsA w 423 "on_curve" := cls_Z (by kernel_rfl)
theorem pg_R (w : World) : plainGet (KK w) 218 "x" = true := by kernel_rfl
theorem hd_R (w : World) : hasDictIn (KK w) 218 = true := by kernel_rfl
theorem sa_R (w : World) : findIn (KK w) (.ref 218) "__setattr__" = some (some (.builtin "object.__setattr__")) := by kernel_rfl
theorem po_R (w : World) : plainOver (KK w) 218 = true := by kernel_rfl
theorem cls_R {w : World} {name : Str} (h : findIn (KK w) (.ref 218) name = some none) : ClsA w 218 name := ⟨pg_R w, hd_R w, h, sa_R w, po_R w, taker_of h⟩
theorem a_R_period (w : World) : ClsA w 218 "period" := cls_R (by kernel_rfl)
theorem a_R_phase (w : World) : ClsA w 218 "phase" := cls_R (by kernel_rfl)
theorem a_R_threshold (w : World) : ClsA w 218 "threshold" := cls_R (by kernel_rfl)
theorem m_S_free_dot (w : World) : ClsM w 274 "free_dot" 250 := ⟨pg_S w, by kernel_rfl, by kernel_rfl, by kernel_rfl⟩
theorem m_S_projected (w : World) : ClsM w 274 "projected" 257 := ⟨pg_S w, by kernel_rfl, by kernel_rfl, by kernel_rfl⟩
theorem m_S_dual_projected (w : World) : ClsM w 274 "dual_projected" 264 := ⟨pg_S w, by kernel_rfl, by kernel_rfl, by kernel_rfl⟩
theorem m_K_push (w : World) : ClsM w 330 "push" 299 := ⟨pg_K w, by kernel_rfl, by kernel_rfl, by kernel_rfl⟩
theorem m_K_pop (w : World) : ClsM w 330 "pop" 306 := ⟨pg_K w, by kernel_rfl, by kernel_rfl, by kernel_rfl⟩
theorem m_W_zone (w : World) : ClsM w 381 "zone" 357 := ⟨pg_W w, by kernel_rfl, by kernel_rfl, by kernel_rfl⟩
theorem m_W_next_loop (w : World) : ClsM w 381 "next_loop" 378 := ⟨pg_W w, by kernel_rfl, by kernel_rfl, by kernel_rfl⟩
theorem m_Z_count (w : World) : ClsM w 423 "count" 406 := ⟨pg_Z w, by kernel_rfl, by kernel_rfl, by kernel_rfl⟩
theorem m_Z_check (w : World) : ClsM w 423 "check" 413 := ⟨pg_Z w, by kernel_rfl, by kernel_rfl, by kernel_rfl⟩
theorem m_Z_put (w : World) : ClsM w 423 "put" 420 := ⟨pg_Z w, by kernel_rfl, by kernel_rfl, by kernel_rfl⟩
inductive All2 {α β : Type} (R : α → β → Prop) : List α → List β → Prop
  | nil : All2 R [] []
  | cons {a b as bs} : R a b → All2 R as bs → All2 R (a :: as) (b :: bs)
section
variable {α β : Type} {R : α → β → Prop}
theorem All2.length {as : List α} {bs : List β} (h : All2 R as bs) : as.length = bs.length := by
  induction h with
  | nil => rfl
  | cons _ _ ih => simp [ih]
theorem All2.get {as : List α} {bs : List β} (h : All2 R as bs) : ∀ {i : Nat} {b : β}, bs[i]? = some b → ∃ a, as[i]? = some a ∧ R a b := by
  induction h with
  | nil => intro i b e; simp at e
  | cons r _ ih =>
    intro i b e
    cases i with
    | zero => simp only [List.getElem?_cons_zero, Option.some.injEq] at e; subst e; exact ⟨_, rfl, r⟩
    | succ i => simp only [List.getElem?_cons_succ] at e ⊢; exact ih e
theorem All2.set {as : List α} {bs : List β} (h : All2 R as bs) {a : α} {b : β} (r : R a b) : ∀ i : Nat, All2 R (as.set i a) (bs.set i b) := by
  induction h with
  | nil => intro i; exact .nil
  | cons r' h' ih =>
    intro i
    cases i with
    | zero => exact .cons r h'
    | succ i => exact .cons r' (ih i)
theorem All2.mono {R' : α → β → Prop} {as : List α} {bs : List β} (h : All2 R as bs) (l : ∀ a b, R a b → R' a b) : All2 R' as bs := by
  induction h with
  | nil => exact .nil
  | cons r _ ih => exact .cons (l _ _ r) ih
theorem All2.append {as as' : List α} {bs bs' : List β} (h : All2 R as bs) (h' : All2 R as' bs') : All2 R (as ++ as') (bs ++ bs') := by
  induction h with
  | nil => exact h'
  | cons r _ ih => exact .cons r ih
theorem All2.snoc {as : List α} {bs : List β} {b : β} (h : All2 R as (bs ++ [b])) : ∃ as' a, as = as' ++ [a] ∧ All2 R as' bs ∧ R a b := by
  induction bs generalizing as with
  | nil =>
    cases h with
    | cons r h' => cases h'; exact ⟨[], _, rfl, .nil, r⟩
  | cons c bs ih =>
    cases h with
    | cons r h' =>
      obtain ⟨as', a, rfl, h1, h2⟩ := ih h'
      exact ⟨_ :: as', a, rfl, .cons r h1, h2⟩
end
structure ZD where
  orig : List (Int × Int)
  cur : List (Int × Int)
  tou : List (Bool × Bool)
  on : List Bool
structure Dt where
  s0 : Int
  s1 : Int
  nums : List Int
  fr : Int × Int
  k : Int
  z0 : Int
  z1 : Int
  z2 : Int
  loop : Int
  q : Nat → ZD
structure Adr where
  w : Addr
  s : Addr
  k : Addr
  zs : Addr
  rs : Addr
  src : Addr
  z : Nat → Addr
  r : Nat → Addr
noncomputable def axv (k : Int) : Int × Int := if k = 0 then (16384, 0) else (0, 16384)
noncomputable def nq (i : Nat) : Nat := if i % 2 = 0 then 3 else 6
noncomputable def US (k : Nat) : Prop := k < 7 ∨ (16 ≤ k ∧ k < 80 ∧ k % 16 < 4 + nq (k / 16 - 1))
noncomputable def IsI (v : Value) (i : Int) : Prop := ∃ t, v = .int i t
inductive IsPt (G : Addr → Obj → Prop) (v : Value) (p : Int × Int) : Prop
  | mk (a : Addr) (t1 t2 : Tok) (e : v = .ref a) (g : G a (tupO [.int p.1 t1, .int p.2 t2]))
theorem IsPt.mono {G G' : Addr → Obj → Prop} (l : ∀ a o, G a o → G' a o) {v : Value} {p : Int × Int} (h : IsPt G v p) : IsPt G' v p := let ⟨a, t1, t2, e, g⟩ := h; ⟨a, t1, t2, e, l _ _ g⟩
structure Quad (G : Addr → Obj → Prop) (ad : Nat → Addr) (ob : Nat → Obj) (b n : Nat) (z : ZD) : Prop where
  o : ∃ vs, IsL (ob b) vs ∧ All2 (IsPt G) vs z.orig
  c : ∃ vs, IsL (ob (b + 1)) vs ∧ All2 (IsPt G) vs z.cur
  t : ∃ vs, IsL (ob (b + 2)) vs ∧ vs.length = n ∧ ∀ i, i < n → vs[i]? = some (.ref (ad (b + 4 + i)))
  m : ∀ i p, z.tou[i]? = some p → IsL (ob (b + 4 + i)) [.bool p.1, .bool p.2]
  v : IsL (ob (b + 3)) (z.on.map .bool)
  lo : z.orig.length = n
  lc : z.cur.length = n
  lt : z.tou.length = n
  ln : z.on.length = n
noncomputable def SMap (G : Addr → Obj → Prop) (D : Dt) (mf : Str → Option Value) : Prop :=
  (∃ v, mf "freedom" = some v ∧ IsPt G v D.fr) ∧ (∃ v, mf "projection" = some v ∧ IsPt G v (axv D.k)) ∧ (∃ v, mf "dual" = some v ∧ IsPt G v (axv D.k)) ∧
  (∃ t, mf "zp0" = some (.int D.z0 t)) ∧ (∃ t, mf "zp1" = some (.int D.z1 t)) ∧ (∃ t, mf "zp2" = some (.int D.z2 t)) ∧ (∃ t, mf "loop" = some (.int D.loop t)) ∧
  mf "free_dot" = none ∧ mf "projected" = none ∧ mf "dual_projected" = none
inductive ZMap (o : Obj) (ad : Nat → Addr) (b : Nat) : Prop
  | mk (mf : Str → Option Value) (n : Nat) (d : DictIs o mf n) (m1 : mf "original" = some (.ref (ad b))) (m2 : mf "current" = some (.ref (ad (b + 1)))) (m3 : mf "touched" = some (.ref (ad (b + 2)))) (m4 : mf "on_curve" = some (.ref (ad (b + 3))))
   (n1 : mf "count" = none) (n2 : mf "check" = none) (n3 : mf "put" = none)
structure Rel (D : Dt) (a : Adr) (G : Addr → Obj → Prop) (ad : Nat → Addr) (ob : Nat → Obj) : Prop where
  gw : G a.w (instObj 381 (ad 4))
  gs : G a.s (instObj 274 (ad 0))
  gk : G a.k (instObj 330 (ad 1))
  gz : ∀ i, i < 2 → G (a.z i) (instObj 423 (ad (5 + i)))
  gzs : ∃ o, G a.zs o ∧ IsL o [.ref (a.z 0), .ref (a.z 1)]
  grs : ∃ o, G a.rs o ∧ IsL o [.ref (a.r 0), .ref (a.r 1)]
  gr : ∀ i, i < 2 → ∃ o, G (a.r i) o ∧ IsL o [.ref (ad (16 * (i + 2) + 16)), .ref (ad (16 * (i + 2) + 17)), .ref (ad (16 * (i + 2) + 18)), .ref (ad (16 * (i + 2) + 19))]
  src : ad 3 = a.src
  sd : ∃ mf, DictIs (ob 0) mf 50 ∧ SMap G D mf
  kd : ∃ mf, DictIs (ob 1) mf 50 ∧ mf "numbers" = some (.ref (ad 2)) ∧ (∃ t, mf "most" = some (.int 64 t)) ∧ mf "push" = none ∧ mf "pop" = none
  nm : ∃ vs d, ob 2 = listOf vs.toArray d ∧ All2 IsI vs D.nums
  sr : ∃ t0 t1, IsL (ob 3) [.int D.s0 t0, .int D.s1 t1]
  wd : ∃ mf, DictIs (ob 4) mf 50 ∧ mf "state" = some (.ref a.s) ∧ mf "stack" = some (.ref a.k) ∧ mf "zones" = some (.ref a.zs) ∧ mf "zone" = none ∧ mf "next_loop" = none
  zd : ∀ i, i < 2 → ZMap (ob (5 + i)) ad (16 * i + 16)
  q : ∀ i, i < 4 → Quad G ad ob (16 * i + 16) (nq i) (D.q i)
section
variable {D : Dt} {a : Adr} {ad : Nat → Addr} {ob : Nat → Obj}
theorem nq_le (i : Nat) : nq i ≤ 6 := by unfold nq; split <;> omega
theorem Quad.congr {b n : Nat} {z : ZD} (h : Quad G ad ob b n z) (hn : n ≤ 6) (ha : ∀ i, i < 6 → ad' (b + 4 + i) = ad (b + 4 + i)) (ho : ∀ i, i < 10 → ob' (b + i) = ob (b + i)) : Quad G ad' ob' b n z := by
  obtain ⟨h1, h2, h3, h4, h5, l1, l2, l3, l4⟩ := h
  have e0 : ob' b = ob b := ho 0 (oq460)
  refine ⟨by rw [e0]; exact h1, by rw [ho 1 (oq461)]; exact h2, ?_, fun i p e => ?_, by rw [ho 3 (oq462)]; exact h5, l1, l2, l3, l4⟩
  · rw [ho 2 (oq463)]
    obtain ⟨vs, x1, x2, x3⟩ := h3
    exact ⟨vs, x1, x2, fun i hi => by rw [ha i (oq464 hn hi)]; exact x3 i hi⟩
  · have hi : i < z.tou.length := (List.getElem?_eq_some_iff.mp e).1
    have := ho (4 + i) (oq465 hn l3 hi)
    rw [show b + (4 + i) = b + 4 + i by exact oq466] at this
    rw [this]; exact h4 i p e
theorem Quad.mono (l : ∀ a o, G a o → G' a o) {b n : Nat} {z : ZD} (h : Quad G ad ob b n z) : Quad G' ad ob b n z := by
  obtain ⟨⟨v1, h1, p1⟩, ⟨v2, h2, p2⟩, h3, h4, h5, l1, l2, l3, l4⟩ := h
  exact ⟨⟨v1, h1, p1.mono fun _ _ => IsPt.mono l⟩, ⟨v2, h2, p2.mono fun _ _ => IsPt.mono l⟩, h3, h4, h5, l1, l2, l3, l4⟩
theorem SMap.mono (l : ∀ a o, G a o → G' a o) {mf : Str → Option Value} (h : SMap G D mf) : SMap G' D mf := by
  obtain ⟨⟨v1, e1, p1⟩, ⟨v2, e2, p2⟩, ⟨v3, e3, p3⟩, r⟩ := h
  exact ⟨⟨v1, e1, p1.mono l⟩, ⟨v2, e2, p2.mono l⟩, ⟨v3, e3, p3.mono l⟩, r⟩
theorem ZMap.congr {o : Obj} {b : Nat} (h : ZMap o ad b) (ha : ∀ i, i < 4 → ad' (b + i) = ad (b + i)) : ZMap o ad' b := by
  obtain ⟨mf, n, h1, h2, h3, h4, h5, r1, r2, r3⟩ := h
  have e0 : ad' b = ad b := ha 0 (oq467)
  exact ⟨mf, n, h1, by rw [e0]; exact h2, by rw [ha 1 (oq468)]; exact h3, by rw [ha 2 (oq469)]; exact h4, by rw [ha 3 (oq470)]; exact h5, r1, r2, r3⟩
theorem Rel.mono (R : Rel D a G ad ob) (l : ∀ a o, G a o → G' a o) : Rel D a G' ad ob := by
  obtain ⟨⟨o1, g1, l1⟩, ⟨o2, g2, l2⟩⟩ := And.intro R.gzs R.grs
  obtain ⟨mf, h1, h2⟩ := R.sd
  exact ⟨l _ _ R.gw, l _ _ R.gs, l _ _ R.gk, fun i hi => l _ _ (R.gz i hi), ⟨o1, l _ _ g1, l1⟩, ⟨o2, l _ _ g2, l2⟩, fun i hi => let ⟨o, g, il⟩ := R.gr i hi; ⟨o, l _ _ g, il⟩, R.src, ⟨mf, h1, h2.mono l⟩, R.kd, R.nm, R.sr, R.wd, R.zd, fun i hi => (R.q i hi).mono l⟩
theorem Rel.congr (R : Rel D a G ad ob) (ha : ∀ k, k < 80 → ad' k = ad k) (ho : ∀ k, k < 80 → ob' k = ob k) : Rel D a G ad' ob' := by
  obtain ⟨gw, gs, gk, gz, gzs, grs, gr, src, sd, kd, nm, sr, wd, zd, q⟩ := R
  refine ⟨by rw [ha 4 (oq345)]; exact gw, by rw [ha 0 (oq162)]; exact gs, by rw [ha 1 (oq346)]; exact gk, fun i hi => by rw [ha (5 + i) (oq347 hi)]; exact gz i hi, gzs, grs, fun i hi => ?_, by rw [ha 3 (oq58)]; exact src,
    by rw [ho 0 (oq162)]; exact sd, by rw [ho 1 (oq346), ha 2 (oq155)]; exact kd, by rw [ho 2 (oq155)]; exact nm, by rw [ho 3 (oq58)]; exact sr, by rw [ho 4 (oq345)]; exact wd, fun i hi => ?_, fun i hi => ?_⟩
  · rw [ha (16 * (i + 2) + 16) (oq471 hi), ha (16 * (i + 2) + 17) (oq472 hi), ha (16 * (i + 2) + 18) (oq473 hi), ha (16 * (i + 2) + 19) (oq474 hi)]; exact gr i hi
  · rw [ho (5 + i) (oq347 hi)]; exact (zd i hi).congr fun j hj => ha _ (oq348 hi hj)
  · exact (q i hi).congr (nq_le i) (fun j hj => ha _ (oq475 hi hj)) fun j hj => ho _ (oq476 hi hj)
theorem Rel.upX (R : Rel D a G ad ob) {k : Nat} (hk : 80 ≤ k) {b : Addr} {o : Obj} : Rel D a G (up ad k b) (up ob k o) :=
  R.congr (fun j hj => up_other _ _ (oq477 hk hj)) fun j hj => up_other _ _ (oq477 hk hj)
theorem Rel.uSrc (R : Rel D a G ad ob) {o : Obj} {x y : Int} {t0 t1 : Tok} (h : IsL o [.int x t0, .int y t1]) : Rel { D with s0 := x, s1 := y } a G ad (up ob 3 o) := by
  obtain ⟨gw, gs, gk, gz, gzs, grs, gr, src, sd, kd, nm, sr, wd, zd, q⟩ := R
  exact ⟨gw, gs, gk, gz, gzs, grs, gr, src, by rw [up_other _ _ (oq361)]; exact sd, by rw [up_other _ _ (oq364)]; exact kd, by rw [up_other _ _ (oq368)]; exact nm, ⟨t0, t1, by rw [up_same]; exact h⟩, by rw [up_other _ _ (oq371)]; exact wd,
    fun i hi => by rw [up_other _ _ (oq193)]; exact zd i hi, fun i hi => (q i hi).congr (nq_le i) (fun _ _ => rfl) fun j hj => up_other _ _ (oq376)⟩
theorem Rel.uNums (R : Rel D a G ad ob) {vs : List Value} {d : Nat} {ns : List Int} (h : All2 IsI vs ns) : Rel { D with nums := ns } a G ad (up ob 2 (listOf vs.toArray d)) := by
  obtain ⟨gw, gs, gk, gz, gzs, grs, gr, src, sd, kd, nm, sr, wd, zd, q⟩ := R
  exact ⟨gw, gs, gk, gz, gzs, grs, gr, src, by rw [up_other _ _ (oq478)]; exact sd, by rw [up_other _ _ (oq479)]; exact kd, ⟨vs, d, up_same .., h⟩, by rw [up_other _ _ (oq480)]; exact sr, by rw [up_other _ _ (oq481)]; exact wd,
    fun i hi => by rw [up_other _ _ (oq482)]; exact zd i hi, fun i hi => (q i hi).congr (nq_le i) (fun _ _ => rfl) fun j hj => up_other _ _ (oq483)⟩
theorem Rel.uSt (R : Rel D a G ad ob) {o : Obj} {mf : Str → Option Value} {D' : Dt} (h : DictIs o mf 50) (m : SMap G D' mf) (e1 : D'.s0 = D.s0) (e2 : D'.s1 = D.s1) (e3 : D'.nums = D.nums) (e4 : D'.q = D.q) : Rel D' a G ad (up ob 0 o) := by
  obtain ⟨gw, gs, gk, gz, gzs, grs, gr, src, sd, kd, nm, sr, wd, zd, q⟩ := R
  exact ⟨gw, gs, gk, gz, gzs, grs, gr, src, ⟨mf, by rw [up_same]; exact h, m⟩, by rw [up_other _ _ (oq484)]; exact kd, by rw [up_other _ _ (oq485), e3]; exact nm, by rw [up_other _ _ (oq486), e1, e2]; exact sr, by rw [up_other _ _ (oq487)]; exact wd,
    fun i hi => by rw [up_other _ _ (oq390)]; exact zd i hi, fun i hi => by rw [e4]; exact (q i hi).congr (nq_le i) (fun _ _ => rfl) fun j hj => up_other _ _ (oq488)⟩
theorem Rel.uStack (R : Rel D a G ad ob) {o : Obj} {b : Addr} {mf : Str → Option Value} {vs : List Value} {ns : List Int} {d : Nat} (h : DictIs o mf 50) (m1 : mf "numbers" = some (.ref b)) (m2 : ∃ t, mf "most" = some (.int 64 t)) (m3 : mf "push" = none) (m4 : mf "pop" = none) (hv : All2 IsI vs ns) :
    Rel { D with nums := ns } a G (up ad 2 b) (up (up ob 1 o) 2 (listOf vs.toArray d)) := by
  obtain ⟨gw, gs, gk, gz, gzs, grs, gr, src, sd, kd, nm, sr, wd, zd, q⟩ := R
  have u : ∀ j, j ≠ 1 → j ≠ 2 → up (up ob 1 o) 2 (listOf vs.toArray d) j = ob j := fun j h1 h2 => by rw [up_other _ _ h2, up_other _ _ h1]
  have v : ∀ j, j ≠ 2 → up ad 2 b j = ad j := fun j h => up_other _ _ h
  refine ⟨by rw [v 4 (oq481)]; exact gw, by rw [v 0 (oq478)]; exact gs, by rw [v 1 (oq479)]; exact gk, fun i hi => by rw [v (5 + i) (oq482)]; exact gz i hi, gzs, grs, fun i hi => ?_, by rw [v 3 (oq480)]; exact src,
    by rw [u 0 (oq489) (oq478)]; exact sd, ⟨mf, by rw [up_other _ _ (oq479), up_same]; exact h, by rw [up_same]; exact m1, m2, m3, m4⟩, ⟨vs, d, up_same .., hv⟩, by rw [u 3 (oq490) (oq480)]; exact sr, by rw [u 4 (oq491) (oq481)]; exact wd, fun i hi => ?_, fun i hi => ?_⟩
  · rw [v (16 * (i + 2) + 16) (oq492), v (16 * (i + 2) + 17) (oq493), v (16 * (i + 2) + 18) (oq494), v (16 * (i + 2) + 19) (oq495)]; exact gr i hi
  · rw [u (5 + i) (oq496) (oq482)]; exact (zd i hi).congr fun j hj => v _ (oq483)
  · exact (q i hi).congr (nq_le i) (fun j hj => v _ (oq497)) fun j hj => u _ (oq498) (oq483)
theorem Rel.uQuad (R : Rel D a G ad ob) {i : Nat} (hi : i < 4) {z : ZD} (hQ : Quad G ad' ob' (16 * i + 16) (nq i) z) (ho : ∀ j, (j < 16 * i + 16 ∨ 16 * i + 32 ≤ j) → ob' j = ob j) (ha : ∀ j, (j < 16 * i + 20 ∨ 16 * i + 32 ≤ j) → ad' j = ad j) :
    Rel { D with q := up D.q i z } a G ad' ob' := by
  obtain ⟨gw, gs, gk, gz, gzs, grs, gr, src, sd, kd, nm, sr, wd, zd, q⟩ := R
  refine ⟨by rw [ha 4 (oq499)]; exact gw, by rw [ha 0 (oq500)]; exact gs, by rw [ha 1 (oq501)]; exact gk, fun i hi => by rw [ha (5 + i) (oq502 hi)]; exact gz i hi, gzs, grs, fun j hj => ?_, by rw [ha 3 (oq503)]; exact src,
    by rw [ho 0 (oq504)]; exact sd, by rw [ho 1 (oq505), ha 2 (oq506)]; exact kd, by rw [ho 2 (oq507)]; exact nm, by rw [ho 3 (oq508)]; exact sr, by rw [ho 4 (oq509)]; exact wd, fun j hj => ?_, fun j hj => ?_⟩
  · rw [ha (16 * (j + 2) + 16) (oq510), ha (16 * (j + 2) + 17) (oq511), ha (16 * (j + 2) + 18) (oq512), ha (16 * (j + 2) + 19) (oq513)]
    exact gr j hj
  · rw [ho (5 + j) (oq514 hj)]; exact (zd j hj).congr fun c hc => ha _ (oq515 hc)
  · by_cases e : j = i
    · subst e
      rw [show ({ D with q := up D.q j z } : Dt).q j = z from up_same ..]; exact hQ
    · rw [show ({ D with q := up D.q i z } : Dt).q j = D.q j from up_other _ _ e]
      exact (q j hj).congr (nq_le j) (fun c hc => ha _ (oq516 e hc)) fun c hc => ho _ (oq517 e hc)
theorem Rel.uOrig (R : Rel D a G ad ob) {i j : Nat} (hi : i < 4) {o : Obj} {vs : List Value} {v : Value} {p : Int × Int} (hl : IsL (ob (16 * i + 16)) vs) (h : IsL o (vs.set j v)) (hp : IsPt G v p) :
    Rel { D with q := up D.q i { D.q i with orig := (D.q i).orig.set j p } } a G ad (up ob (16 * i + 16) o) := by
  obtain ⟨⟨vs', hl', h1⟩, h2, h3, h4, h5, l1, l2, l3, l4⟩ := R.q i hi
  obtain rfl : vs = vs' := by
    obtain ⟨_, n, e⟩ := hl; obtain ⟨_, n', e'⟩ := hl'
    rw [e] at e'; injection e' with e'; exact by simpa using e'
  refine R.uQuad hi ⟨⟨_, by rw [up_same]; exact h, h1.set hp j⟩, by rw [up_other _ _ (oq200)]; exact h2, by rw [up_other _ _ (oq211)]; exact h3, fun c p e => by rw [up_other _ _ (oq518)]; exact h4 c p e, by rw [up_other _ _ (oq216)]; exact h5, by rw [List.length_set]; exact l1, l2, l3, l4⟩ (fun j hj => up_other _ _ (oq519 hj)) fun _ _ => rfl
theorem Rel.uCur (R : Rel D a G ad ob) {i j : Nat} (hi : i < 4) {o : Obj} {vs : List Value} {v : Value} {p : Int × Int} (hl : IsL (ob (16 * i + 17)) vs) (h : IsL o (vs.set j v)) (hp : IsPt G v p) :
    Rel { D with q := up D.q i { D.q i with cur := (D.q i).cur.set j p } } a G ad (up ob (16 * i + 17) o) := by
  obtain ⟨h1, ⟨vs', hl', h2⟩, h3, h4, h5, l1, l2, l3, l4⟩ := R.q i hi
  obtain rfl : vs = vs' := by
    obtain ⟨_, n, e⟩ := hl; obtain ⟨_, n', e'⟩ := hl'
    rw [e] at e'; injection e' with e'; exact by simpa using e'
  refine R.uQuad hi ⟨by rw [up_other _ _ (oq520)]; exact h1, ⟨_, by rw [up_same]; exact h, h2.set hp j⟩, by rw [up_other _ _ (oq521)]; exact h3, fun c p e => by rw [up_other _ _ (oq522)]; exact h4 c p e, by rw [up_other _ _ (oq523)]; exact h5, l1, by rw [List.length_set]; exact l2, l3, l4⟩ (fun j hj => up_other _ _ (oq524 hj)) fun _ _ => rfl
theorem Rel.uOn (R : Rel D a G ad ob) {i j : Nat} (hi : i < 4) {o : Obj} {b : Bool} (h : IsL o (((D.q i).on.map Value.bool).set j (.bool b))) :
    Rel { D with q := up D.q i { D.q i with on := (D.q i).on.set j b } } a G ad (up ob (16 * i + 19) o) := by
  obtain ⟨h1, h2, h3, h4, h5, l1, l2, l3, l4⟩ := R.q i hi
  refine R.uQuad hi ⟨by rw [up_other _ _ (oq525)]; exact h1, by rw [up_other _ _ (oq526)]; exact h2, by rw [up_other _ _ (oq527)]; exact h3, fun c p e => by rw [up_other _ _ (oq528)]; exact h4 c p e, by rw [show 16 * i + 16 + 3 = 16 * i + 19 by exact oq529, up_same, List.map_set]; exact h, l1, l2, l3, by rw [List.length_set]; exact l4⟩ (fun j hj => up_other _ _ (oq530 hj)) fun _ _ => rfl
theorem Rel.uMark (R : Rel D a G ad ob) {i j : Nat} (hi : i < 4) (hj : j < nq i) {o : Obj} {p : Bool × Bool} (h : IsL o [.bool p.1, .bool p.2]) :
    Rel { D with q := up D.q i { D.q i with tou := (D.q i).tou.set j p } } a G ad (up ob (16 * i + 20 + j) o) := by
  obtain ⟨h1, h2, h3, h4, h5, l1, l2, l3, l4⟩ := R.q i hi
  have := nq_le i
  refine R.uQuad hi ⟨by rw [up_other _ _ (oq208)]; exact h1, by rw [up_other _ _ (oq209)]; exact h2, by rw [up_other _ _ (oq205)]; exact h3, fun c p' e => ?_, by rw [up_other _ _ (oq206)]; exact h5, l1, l2, by rw [List.length_set]; exact l3, l4⟩ (fun j hj => up_other _ _ (by exact oq531 ‹_› this hj)) fun _ _ => rfl
  by_cases q : c = j
  · subst q
    rw [show 16 * i + 16 + 4 + c = 16 * i + 20 + c by exact oq220, up_same]
    rw [List.getElem?_set_self (oq114 l3 hj)] at e
    cases e; exact h
  · rw [List.getElem?_set_ne (Ne.symm q)] at e
    rw [up_other _ _ (oq532 q)]; exact h4 c p' e
theorem Rel.uMarkNew (R : Rel D a G ad ob) {i j : Nat} (hi : i < 4) (hj : j < nq i) {o ol : Obj} {b : Addr} {vs : List Value} {p : Bool × Bool} (hl : IsL (ob (16 * i + 18)) vs) (h : IsL ol (vs.set j (.ref b))) (ho : IsL o [.bool p.1, .bool p.2]) :
    Rel { D with q := up D.q i { D.q i with tou := (D.q i).tou.set j p } } a G (up ad (16 * i + 20 + j) b) (up (up ob (16 * i + 20 + j) o) (16 * i + 18) ol) := by
  obtain ⟨h1, h2, ⟨vs', hl', hn, h3⟩, h4, h5, l1, l2, l3, l4⟩ := R.q i hi
  obtain rfl : vs = vs' := by
    obtain ⟨_, n, e⟩ := hl; obtain ⟨_, n', e'⟩ := hl'
    rw [e] at e'; injection e' with e'; exact by simpa using e'
  have := nq_le i
  have u : ∀ k, k ≠ 16 * i + 20 + j → k ≠ 16 * i + 18 → up (up ob (16 * i + 20 + j) o) (16 * i + 18) ol k = ob k := fun k h1 h2 => by rw [up_other _ _ h2, up_other _ _ h1]
  refine R.uQuad hi ⟨by rw [u _ (oq208) (oq533)]; exact h1, by rw [u _ (oq209) (oq534)]; exact h2, ⟨vs.set j (.ref b), by rw [show 16 * i + 16 + 2 = 16 * i + 18 by exact oq535, up_same]; exact h, by rw [List.length_set]; exact hn, fun c hc => ?_⟩, fun c p' e => ?_, by rw [u _ (oq206) (oq536)]; exact h5, l1, l2, by rw [List.length_set]; exact l3, l4⟩ (fun j hj => u _ (by exact oq531 ‹_› this hj) (oq537 hj)) fun k hk => up_other _ _ (oq538 hj this hk)
  · by_cases q : c = j
    · subst q
      rw [List.getElem?_set_self (oq114 hn hc), show 16 * i + 16 + 4 + c = 16 * i + 20 + c by exact oq220, up_same]
    · rw [List.getElem?_set_ne (Ne.symm q), up_other _ _ (oq532 q)]; exact h3 c hc
  · by_cases q : c = j
    · subst q
      rw [up_other _ _ (oq539), show 16 * i + 16 + 4 + c = 16 * i + 20 + c by exact oq220, up_same]
      rw [List.getElem?_set_self (oq114 l3 hj)] at e
      cases e; exact ho
    · rw [List.getElem?_set_ne (Ne.symm q)] at e
      rw [u _ (oq532 q) (oq539)]; exact h4 c p' e
end
variable {D D' D1 : Dt} {P : Dt → Prop}
theorem us_q {i c : Nat} (hi : i < 4) (hc : c < 4 + nq i) : US (16 * i + 16 + c) := by
  have := nq_le i
  have e1 : (16 * i + 16 + c) / 16 - 1 = i := oq584 hc this
  refine .inr ⟨by exact oq585, by exact oq586 hi e1, ?_⟩
  rw [e1]; exact oq587 hc
theorem us_l {k : Nat} (h : k < 7 := by omega) : US k := .inl h
section
variable {ad : Nat → Addr} {ob : Nat → Obj} {a : Adr} {ex : Bool} {i : Nat} {n : Int} {u : Tok} {pl : Sem Bool} {v : Value}
theorem x_fr (C : Cx w B) (S : St B L loc Z G ad ob us s₀ s) (R : Rel D a G ad ob) (hu : ∀ k, US k → us k) (h : ∀ v s', IsPt G v D.fr → St B L loc Z G ad ob us s₀ s' → Q v s') : WP pw w A (getAttr (.ref a.s) "freedom" ex) Q E s := by
  obtain ⟨mf, hd, ⟨hx, _⟩⟩ := R.sd
  obtain ⟨v, e, hp⟩ := hx
  have hv : handedIn v = true := by obtain ⟨b, _, _, rfl, _⟩ := hp; rfl
  exact r_get C S R.gs (hu 0 us_l) hd (a_S_freedom w) e hv fun s' S' => h v s' hp S'
theorem x_pr (C : Cx w B) (S : St B L loc Z G ad ob us s₀ s) (R : Rel D a G ad ob) (hu : ∀ k, US k → us k) (h : ∀ v s', IsPt G v (axv D.k) → St B L loc Z G ad ob us s₀ s' → Q v s') : WP pw w A (getAttr (.ref a.s) "projection" ex) Q E s := by
  obtain ⟨mf, hd, ⟨_, hx, _⟩⟩ := R.sd
  obtain ⟨v, e, hp⟩ := hx
  have hv : handedIn v = true := by obtain ⟨b, _, _, rfl, _⟩ := hp; rfl
  exact r_get C S R.gs (hu 0 us_l) hd (a_S_projection w) e hv fun s' S' => h v s' hp S'
theorem x_du (C : Cx w B) (S : St B L loc Z G ad ob us s₀ s) (R : Rel D a G ad ob) (hu : ∀ k, US k → us k) (h : ∀ v s', IsPt G v (axv D.k) → St B L loc Z G ad ob us s₀ s' → Q v s') : WP pw w A (getAttr (.ref a.s) "dual" ex) Q E s := by
  obtain ⟨mf, hd, ⟨_, _, hx, _⟩⟩ := R.sd
  obtain ⟨v, e, hp⟩ := hx
  have hv : handedIn v = true := by obtain ⟨b, _, _, rfl, _⟩ := hp; rfl
  exact r_get C S R.gs (hu 0 us_l) hd (a_S_dual w) e hv fun s' S' => h v s' hp S'
theorem x_z0 (C : Cx w B) (S : St B L loc Z G ad ob us s₀ s) (R : Rel D a G ad ob) (hu : ∀ k, US k → us k) (h : ∀ t s', St B L loc Z G ad ob us s₀ s' → Q (.int D.z0 t) s') : WP pw w A (getAttr (.ref a.s) "zp0" ex) Q E s := by
  obtain ⟨mf, hd, ⟨_, _, _, hx, _⟩⟩ := R.sd
  obtain ⟨t, e⟩ := hx
  exact r_get C S R.gs (hu 0 us_l) hd (a_S_zp0 w) e rfl fun s' S' => h t s' S'
theorem x_z1 (C : Cx w B) (S : St B L loc Z G ad ob us s₀ s) (R : Rel D a G ad ob) (hu : ∀ k, US k → us k) (h : ∀ t s', St B L loc Z G ad ob us s₀ s' → Q (.int D.z1 t) s') : WP pw w A (getAttr (.ref a.s) "zp1" ex) Q E s := by
  obtain ⟨mf, hd, ⟨_, _, _, _, hx, _⟩⟩ := R.sd
  obtain ⟨t, e⟩ := hx
  exact r_get C S R.gs (hu 0 us_l) hd (a_S_zp1 w) e rfl fun s' S' => h t s' S'
theorem x_z2 (C : Cx w B) (S : St B L loc Z G ad ob us s₀ s) (R : Rel D a G ad ob) (hu : ∀ k, US k → us k) (h : ∀ t s', St B L loc Z G ad ob us s₀ s' → Q (.int D.z2 t) s') : WP pw w A (getAttr (.ref a.s) "zp2" ex) Q E s := by
  obtain ⟨mf, hd, ⟨_, _, _, _, _, hx, _⟩⟩ := R.sd
  obtain ⟨t, e⟩ := hx
  exact r_get C S R.gs (hu 0 us_l) hd (a_S_zp2 w) e rfl fun s' S' => h t s' S'
theorem x_loop (C : Cx w B) (S : St B L loc Z G ad ob us s₀ s) (R : Rel D a G ad ob) (hu : ∀ k, US k → us k) (h : ∀ t s', St B L loc Z G ad ob us s₀ s' → Q (.int D.loop t) s') : WP pw w A (getAttr (.ref a.s) "loop" ex) Q E s := by
  obtain ⟨mf, hd, ⟨_, _, _, _, _, _, hx, _⟩⟩ := R.sd
  obtain ⟨t, e⟩ := hx
  exact r_get C S R.gs (hu 0 us_l) hd (a_S_loop w) e rfl fun s' S' => h t s' S'
theorem x_m_free_dot {Q : Value × List Value → Shared → Prop} (C : Cx w B) (S : St B L loc Z G ad ob us s₀ s) (R : Rel D a G ad ob) (hu : ∀ k, US k → us k) (h : Q (.ref 250, [.ref a.s]) s) : WP pw w A (getMethod (.ref a.s) "free_dot" pl) Q E s := by
  obtain ⟨mf, hd, ⟨_, _, _, _, _, _, _, hx, _⟩⟩ := R.sd
  exact r_meth C S R.gs (hu 0 us_l) hd (m_S_free_dot w) hx h
theorem x_m_projected {Q : Value × List Value → Shared → Prop} (C : Cx w B) (S : St B L loc Z G ad ob us s₀ s) (R : Rel D a G ad ob) (hu : ∀ k, US k → us k) (h : Q (.ref 257, [.ref a.s]) s) : WP pw w A (getMethod (.ref a.s) "projected" pl) Q E s := by
  obtain ⟨mf, hd, ⟨_, _, _, _, _, _, _, _, hx, _⟩⟩ := R.sd
  exact r_meth C S R.gs (hu 0 us_l) hd (m_S_projected w) hx h
theorem x_m_dual_projected {Q : Value × List Value → Shared → Prop} (C : Cx w B) (S : St B L loc Z G ad ob us s₀ s) (R : Rel D a G ad ob) (hu : ∀ k, US k → us k) (h : Q (.ref 264, [.ref a.s]) s) : WP pw w A (getMethod (.ref a.s) "dual_projected" pl) Q E s := by
  obtain ⟨mf, hd, ⟨_, _, _, _, _, _, _, _, _, hx⟩⟩ := R.sd
  exact r_meth C S R.gs (hu 0 us_l) hd (m_S_dual_projected w) hx h
theorem x_wst (C : Cx w B) (S : St B L loc Z G ad ob us s₀ s) (R : Rel D a G ad ob) (hu : ∀ k, US k → us k) (h : ∀ s', St B L loc Z G ad ob us s₀ s' → Q (.ref a.s) s') : WP pw w A (getAttr (.ref a.w) "state" ex) Q E s := by
  obtain ⟨mf, hd, hx, _⟩ := R.wd
  exact r_get C S R.gw (hu 4 us_l) hd (a_W_state w) hx rfl h
theorem x_wsk (C : Cx w B) (S : St B L loc Z G ad ob us s₀ s) (R : Rel D a G ad ob) (hu : ∀ k, US k → us k) (h : ∀ s', St B L loc Z G ad ob us s₀ s' → Q (.ref a.k) s') : WP pw w A (getAttr (.ref a.w) "stack" ex) Q E s := by
  obtain ⟨mf, hd, _, hx, _⟩ := R.wd
  exact r_get C S R.gw (hu 4 us_l) hd (a_W_stack w) hx rfl h
theorem x_wzs (C : Cx w B) (S : St B L loc Z G ad ob us s₀ s) (R : Rel D a G ad ob) (hu : ∀ k, US k → us k) (h : ∀ s', St B L loc Z G ad ob us s₀ s' → Q (.ref a.zs) s') : WP pw w A (getAttr (.ref a.w) "zones" ex) Q E s := by
  obtain ⟨mf, hd, _, _, hx, _⟩ := R.wd
  exact r_get C S R.gw (hu 4 us_l) hd (a_W_zones w) hx rfl h
theorem x_m_zone {Q : Value × List Value → Shared → Prop} (C : Cx w B) (S : St B L loc Z G ad ob us s₀ s) (R : Rel D a G ad ob) (hu : ∀ k, US k → us k) (h : Q (.ref 357, [.ref a.w]) s) : WP pw w A (getMethod (.ref a.w) "zone" pl) Q E s := by
  obtain ⟨mf, hd, _, _, _, hx, _⟩ := R.wd
  exact r_meth C S R.gw (hu 4 us_l) hd (m_W_zone w) hx h
theorem x_m_next_loop {Q : Value × List Value → Shared → Prop} (C : Cx w B) (S : St B L loc Z G ad ob us s₀ s) (R : Rel D a G ad ob) (hu : ∀ k, US k → us k) (h : Q (.ref 378, [.ref a.w]) s) : WP pw w A (getMethod (.ref a.w) "next_loop" pl) Q E s := by
  obtain ⟨mf, hd, _, _, _, _, hx⟩ := R.wd
  exact r_meth C S R.gw (hu 4 us_l) hd (m_W_next_loop w) hx h
theorem x_nums (C : Cx w B) (S : St B L loc Z G ad ob us s₀ s) (R : Rel D a G ad ob) (hu : ∀ k, US k → us k) (h : ∀ s', St B L loc Z G ad ob us s₀ s' → Q (.ref (ad 2)) s') : WP pw w A (getAttr (.ref a.k) "numbers" ex) Q E s := by
  obtain ⟨mf, hd, hx, _⟩ := R.kd
  exact r_get C S R.gk (hu 1 us_l) hd (a_K_numbers w) hx rfl h
theorem x_most (C : Cx w B) (S : St B L loc Z G ad ob us s₀ s) (R : Rel D a G ad ob) (hu : ∀ k, US k → us k) (h : ∀ t s', St B L loc Z G ad ob us s₀ s' → Q (.int 64 t) s') : WP pw w A (getAttr (.ref a.k) "most" ex) Q E s := by
  obtain ⟨mf, hd, _, ⟨t, hx⟩, _⟩ := R.kd
  exact r_get C S R.gk (hu 1 us_l) hd (a_K_most w) hx rfl fun s' S' => h t s' S'
theorem x_m_push {Q : Value × List Value → Shared → Prop} (C : Cx w B) (S : St B L loc Z G ad ob us s₀ s) (R : Rel D a G ad ob) (hu : ∀ k, US k → us k) (h : Q (.ref 299, [.ref a.k]) s) : WP pw w A (getMethod (.ref a.k) "push" pl) Q E s := by
  obtain ⟨mf, hd, _, _, hx, _⟩ := R.kd
  exact r_meth C S R.gk (hu 1 us_l) hd (m_K_push w) hx h
theorem x_m_pop {Q : Value × List Value → Shared → Prop} (C : Cx w B) (S : St B L loc Z G ad ob us s₀ s) (R : Rel D a G ad ob) (hu : ∀ k, US k → us k) (h : Q (.ref 306, [.ref a.k]) s) : WP pw w A (getMethod (.ref a.k) "pop" pl) Q E s := by
  obtain ⟨mf, hd, _, _, _, hx⟩ := R.kd
  exact r_meth C S R.gk (hu 1 us_l) hd (m_K_pop w) hx h
theorem x_zo (C : Cx w B) (S : St B L loc Z G ad ob us s₀ s) (R : Rel D a G ad ob) (hu : ∀ k, US k → us k) (hi : i < 2) (h : ∀ s', St B L loc Z G ad ob us s₀ s' → Q (.ref (ad (16 * i + 16))) s') : WP pw w A (getAttr (.ref (a.z i)) "original" ex) Q E s := by
  obtain ⟨mf, k, hd, hx, _⟩ := R.zd i hi
  exact r_get C S (R.gz i hi) (hu (5 + i) (us_l (oq187 hi))) hd (a_Z_original w) hx rfl h
theorem x_zc (C : Cx w B) (S : St B L loc Z G ad ob us s₀ s) (R : Rel D a G ad ob) (hu : ∀ k, US k → us k) (hi : i < 2) (h : ∀ s', St B L loc Z G ad ob us s₀ s' → Q (.ref (ad (16 * i + 17))) s') : WP pw w A (getAttr (.ref (a.z i)) "current" ex) Q E s := by
  obtain ⟨mf, k, hd, _, hx, _⟩ := R.zd i hi
  exact r_get C S (R.gz i hi) (hu (5 + i) (us_l (oq187 hi))) hd (a_Z_current w) hx rfl h
theorem x_zt (C : Cx w B) (S : St B L loc Z G ad ob us s₀ s) (R : Rel D a G ad ob) (hu : ∀ k, US k → us k) (hi : i < 2) (h : ∀ s', St B L loc Z G ad ob us s₀ s' → Q (.ref (ad (16 * i + 18))) s') : WP pw w A (getAttr (.ref (a.z i)) "touched" ex) Q E s := by
  obtain ⟨mf, k, hd, _, _, hx, _⟩ := R.zd i hi
  exact r_get C S (R.gz i hi) (hu (5 + i) (us_l (oq187 hi))) hd (a_Z_touched w) hx rfl h
theorem x_zn (C : Cx w B) (S : St B L loc Z G ad ob us s₀ s) (R : Rel D a G ad ob) (hu : ∀ k, US k → us k) (hi : i < 2) (h : ∀ s', St B L loc Z G ad ob us s₀ s' → Q (.ref (ad (16 * i + 19))) s') : WP pw w A (getAttr (.ref (a.z i)) "on_curve" ex) Q E s := by
  obtain ⟨mf, k, hd, _, _, _, hx, _⟩ := R.zd i hi
  exact r_get C S (R.gz i hi) (hu (5 + i) (us_l (oq187 hi))) hd (a_Z_on_curve w) hx rfl h
theorem x_m_check {Q : Value × List Value → Shared → Prop} (C : Cx w B) (S : St B L loc Z G ad ob us s₀ s) (R : Rel D a G ad ob) (hu : ∀ k, US k → us k) (hi : i < 2) (h : Q (.ref 413, [.ref (a.z i)]) s) : WP pw w A (getMethod (.ref (a.z i)) "check" pl) Q E s := by
  obtain ⟨mf, k, hd, _, _, _, _, _, hx, _⟩ := R.zd i hi
  exact r_meth C S (R.gz i hi) (hu (5 + i) (us_l (oq187 hi))) hd (m_Z_check w) hx h
theorem x_m_put {Q : Value × List Value → Shared → Prop} (C : Cx w B) (S : St B L loc Z G ad ob us s₀ s) (R : Rel D a G ad ob) (hu : ∀ k, US k → us k) (hi : i < 2) (h : Q (.ref 420, [.ref (a.z i)]) s) : WP pw w A (getMethod (.ref (a.z i)) "put" pl) Q E s := by
  obtain ⟨mf, k, hd, _, _, _, _, _, _, hx⟩ := R.zd i hi
  exact r_meth C S (R.gz i hi) (hu (5 + i) (us_l (oq187 hi))) hd (m_Z_put w) hx h
theorem x_zs (S : St B L loc Z G ad ob us s₀ s) (R : Rel D a G ad ob) (hn : n = 0 ∨ n = 1) (h : Q (.ref (a.z n.toNat)) s) (hs : subscripted slice false (.ref a.zs) (.int n u) = operate [.ref a.zs, .int n u] (getItem (.ref a.zs) (.int n u)) := by with_unfolding_all rfl) : WP pw w A (subscriptTail value slice (.ref a.zs) (.int n u)) Q E s := by
  obtain ⟨o, g, hl⟩ := R.gzs
  exact r_gitem S g hl (oq588 hn) (oq589 hn) (by rcases hn with rfl | rfl <;> rfl) h hs
theorem x_rs (S : St B L loc Z G ad ob us s₀ s) (R : Rel D a G ad ob) (hn : n = 0 ∨ n = 1) (h : Q (.ref (a.r n.toNat)) s) (hs : subscripted slice false (.ref a.rs) (.int n u) = operate [.ref a.rs, .int n u] (getItem (.ref a.rs) (.int n u)) := by with_unfolding_all rfl) : WP pw w A (subscriptTail value slice (.ref a.rs) (.int n u)) Q E s := by
  obtain ⟨o, g, hl⟩ := R.grs
  exact r_gitem S g hl (oq588 hn) (oq589 hn) (by rcases hn with rfl | rfl <;> rfl) h hs
theorem x_r (S : St B L loc Z G ad ob us s₀ s) (R : Rel D a G ad ob) (hi : i < 2) (hn : 0 ≤ n ∧ n < 4) (h : Q (.ref (ad (16 * (i + 2) + 16 + n.toNat))) s) (hs : subscripted slice false (.ref (a.r i)) (.int n u) = operate [.ref (a.r i), .int n u] (getItem (.ref (a.r i)) (.int n u)) := by with_unfolding_all rfl) : WP pw w A (subscriptTail value slice (.ref (a.r i)) (.int n u)) Q E s := by
  obtain ⟨o, g, hl⟩ := R.gr i hi
  refine r_gitem S g hl hn.1 (oq590 hn) ?_ h hs
  have : n = 0 ∨ n = 1 ∨ n = 2 ∨ n = 3 := oq591 hn
  rcases this with rfl | rfl | rfl | rfl <;> rfl
theorem x_o {p : Int × Int} (S : St B L loc Z G ad ob us s₀ s) (R : Rel D a G ad ob) (hu : ∀ k, US k → us k) (hi : i < 4) (hn : 0 ≤ n) (hp : (D.q i).orig[n.toNat]? = some p) (h : ∀ v, IsPt G v p → Q v s) (hs : subscripted slice false (.ref (ad (16 * i + 16))) (.int n u) = operate [.ref (ad (16 * i + 16)), .int n u] (getItem (.ref (ad (16 * i + 16))) (.int n u)) := by with_unfolding_all rfl) : WP pw w A (subscriptTail value slice (.ref (ad (16 * i + 16))) (.int n u)) Q E s := by
  obtain ⟨vs, hl, h2⟩ := (R.q i hi).o
  obtain ⟨v, e, hv⟩ := h2.get hp
  have hlt := (List.getElem?_eq_some_iff.mp hp).1
  have h6 := nq_le i
  rw [(R.q i hi).lo] at hlt
  exact r_litem S (hu _ (us_q (c := 0) hi (oq453))) hl hn (oq592 hlt h6) e (h v hv) hs
theorem x_c {p : Int × Int} (S : St B L loc Z G ad ob us s₀ s) (R : Rel D a G ad ob) (hu : ∀ k, US k → us k) (hi : i < 4) (hn : 0 ≤ n) (hp : (D.q i).cur[n.toNat]? = some p) (h : ∀ v, IsPt G v p → Q v s) (hs : subscripted slice false (.ref (ad (16 * i + 17))) (.int n u) = operate [.ref (ad (16 * i + 17)), .int n u] (getItem (.ref (ad (16 * i + 17))) (.int n u)) := by with_unfolding_all rfl) : WP pw w A (subscriptTail value slice (.ref (ad (16 * i + 17))) (.int n u)) Q E s := by
  obtain ⟨vs, hl, h2⟩ := (R.q i hi).c
  obtain ⟨v, e, hv⟩ := h2.get hp
  have hlt := (List.getElem?_eq_some_iff.mp hp).1
  have h6 := nq_le i
  rw [(R.q i hi).lc] at hlt
  exact r_litem S (hu _ (us_q (c := 1) hi (oq105))) hl hn (oq592 hlt h6) e (h v hv) hs
theorem x_t (S : St B L loc Z G ad ob us s₀ s) (R : Rel D a G ad ob) (hu : ∀ k, US k → us k) (hi : i < 4) (hn : 0 ≤ n ∧ n.toNat < nq i) (h : Q (.ref (ad (16 * i + 20 + n.toNat))) s) (hs : subscripted slice false (.ref (ad (16 * i + 18))) (.int n u) = operate [.ref (ad (16 * i + 18)), .int n u] (getItem (.ref (ad (16 * i + 18))) (.int n u)) := by with_unfolding_all rfl) : WP pw w A (subscriptTail value slice (.ref (ad (16 * i + 18))) (.int n u)) Q E s := by
  obtain ⟨vs, hl, hlen, h2⟩ := (R.q i hi).t
  have h6 := nq_le i
  exact r_litem S (hu _ (us_q (c := 2) hi (oq457))) hl hn.1 (oq593 hn h6) (h2 _ hn.2) h hs
theorem x_n {b : Bool} (S : St B L loc Z G ad ob us s₀ s) (R : Rel D a G ad ob) (hu : ∀ k, US k → us k) (hi : i < 4) (hn : 0 ≤ n) (hp : (D.q i).on[n.toNat]? = some b) (h : Q (.bool b) s) (hs : subscripted slice false (.ref (ad (16 * i + 19))) (.int n u) = operate [.ref (ad (16 * i + 19)), .int n u] (getItem (.ref (ad (16 * i + 19))) (.int n u)) := by with_unfolding_all rfl) : WP pw w A (subscriptTail value slice (.ref (ad (16 * i + 19))) (.int n u)) Q E s := by
  have hl := (R.q i hi).v
  have hlt := (List.getElem?_eq_some_iff.mp hp).1
  have h6 := nq_le i
  rw [(R.q i hi).ln] at hlt
  exact r_litem S (hu _ (us_q (c := 3) hi (oq455))) hl hn (oq592 hlt h6) (by rw [List.getElem?_map, hp]; rfl) h hs
section
variable {Q : Unit → Shared → Prop}
theorem y_z0 (C : Cx w B) (S : St B L loc Z G ad ob us s₀ s) (R : Rel D a G ad ob) (hu : ∀ k, US k → us k) (h : ∀ o s', St B L loc Z G ad (up ob 0 o) us s₀ s' → Rel { D with z0 := n } a G ad (up ob 0 o) → Q () s') : WP pw w A (setAttr (.ref a.s) "zp0" (.int n u)) Q E s := by
  obtain ⟨mf, hd, m1, m2, m3, m4, m5, m6, m7, m8, m9, m10⟩ := R.sd
  have e : (mf "zp0").isSome = true := by
    obtain ⟨_, e⟩ := m4
    rw [e]; rfl
  refine r_set C S R.gs (hu 0 us_l) hd (a_S_zp0 w) (by decide) fun o s' hd' S' => ?_
  rw [e] at hd'
  refine h o s' S' (R.uSt (D' := { D with z0 := n }) hd' ?_ rfl rfl rfl rfl)
  exact ⟨(by simp only [show ¬ (("freedom" : Str) = ("zp0" : Str)) from by decide, if_false]; exact m1), (by simp only [show ¬ (("projection" : Str) = ("zp0" : Str)) from by decide, if_false]; exact m2), (by simp only [show ¬ (("dual" : Str) = ("zp0" : Str)) from by decide, if_false]; exact m3), ⟨u, by simp⟩, (by simp only [show ¬ (("zp1" : Str) = ("zp0" : Str)) from by decide, if_false]; exact m5), (by simp only [show ¬ (("zp2" : Str) = ("zp0" : Str)) from by decide, if_false]; exact m6), (by simp only [show ¬ (("loop" : Str) = ("zp0" : Str)) from by decide, if_false]; exact m7), (by simp only [show ¬ (("free_dot" : Str) = ("zp0" : Str)) from by decide, if_false]; exact m8), (by simp only [show ¬ (("projected" : Str) = ("zp0" : Str)) from by decide, if_false]; exact m9), (by simp only [show ¬ (("dual_projected" : Str) = ("zp0" : Str)) from by decide, if_false]; exact m10)⟩
theorem y_z1 (C : Cx w B) (S : St B L loc Z G ad ob us s₀ s) (R : Rel D a G ad ob) (hu : ∀ k, US k → us k) (h : ∀ o s', St B L loc Z G ad (up ob 0 o) us s₀ s' → Rel { D with z1 := n } a G ad (up ob 0 o) → Q () s') : WP pw w A (setAttr (.ref a.s) "zp1" (.int n u)) Q E s := by
  obtain ⟨mf, hd, m1, m2, m3, m4, m5, m6, m7, m8, m9, m10⟩ := R.sd
  have e : (mf "zp1").isSome = true := by
    obtain ⟨_, e⟩ := m5
    rw [e]; rfl
  refine r_set C S R.gs (hu 0 us_l) hd (a_S_zp1 w) (by decide) fun o s' hd' S' => ?_
  rw [e] at hd'
  refine h o s' S' (R.uSt (D' := { D with z1 := n }) hd' ?_ rfl rfl rfl rfl)
  exact ⟨(by simp only [show ¬ (("freedom" : Str) = ("zp1" : Str)) from by decide, if_false]; exact m1), (by simp only [show ¬ (("projection" : Str) = ("zp1" : Str)) from by decide, if_false]; exact m2), (by simp only [show ¬ (("dual" : Str) = ("zp1" : Str)) from by decide, if_false]; exact m3), (by simp only [show ¬ (("zp0" : Str) = ("zp1" : Str)) from by decide, if_false]; exact m4), ⟨u, by simp⟩, (by simp only [show ¬ (("zp2" : Str) = ("zp1" : Str)) from by decide, if_false]; exact m6), (by simp only [show ¬ (("loop" : Str) = ("zp1" : Str)) from by decide, if_false]; exact m7), (by simp only [show ¬ (("free_dot" : Str) = ("zp1" : Str)) from by decide, if_false]; exact m8), (by simp only [show ¬ (("projected" : Str) = ("zp1" : Str)) from by decide, if_false]; exact m9), (by simp only [show ¬ (("dual_projected" : Str) = ("zp1" : Str)) from by decide, if_false]; exact m10)⟩
theorem y_z2 (C : Cx w B) (S : St B L loc Z G ad ob us s₀ s) (R : Rel D a G ad ob) (hu : ∀ k, US k → us k) (h : ∀ o s', St B L loc Z G ad (up ob 0 o) us s₀ s' → Rel { D with z2 := n } a G ad (up ob 0 o) → Q () s') : WP pw w A (setAttr (.ref a.s) "zp2" (.int n u)) Q E s := by
  obtain ⟨mf, hd, m1, m2, m3, m4, m5, m6, m7, m8, m9, m10⟩ := R.sd
  have e : (mf "zp2").isSome = true := by
    obtain ⟨_, e⟩ := m6
    rw [e]; rfl
  refine r_set C S R.gs (hu 0 us_l) hd (a_S_zp2 w) (by decide) fun o s' hd' S' => ?_
  rw [e] at hd'
  refine h o s' S' (R.uSt (D' := { D with z2 := n }) hd' ?_ rfl rfl rfl rfl)
  exact ⟨(by simp only [show ¬ (("freedom" : Str) = ("zp2" : Str)) from by decide, if_false]; exact m1), (by simp only [show ¬ (("projection" : Str) = ("zp2" : Str)) from by decide, if_false]; exact m2), (by simp only [show ¬ (("dual" : Str) = ("zp2" : Str)) from by decide, if_false]; exact m3), (by simp only [show ¬ (("zp0" : Str) = ("zp2" : Str)) from by decide, if_false]; exact m4), (by simp only [show ¬ (("zp1" : Str) = ("zp2" : Str)) from by decide, if_false]; exact m5), ⟨u, by simp⟩, (by simp only [show ¬ (("loop" : Str) = ("zp2" : Str)) from by decide, if_false]; exact m7), (by simp only [show ¬ (("free_dot" : Str) = ("zp2" : Str)) from by decide, if_false]; exact m8), (by simp only [show ¬ (("projected" : Str) = ("zp2" : Str)) from by decide, if_false]; exact m9), (by simp only [show ¬ (("dual_projected" : Str) = ("zp2" : Str)) from by decide, if_false]; exact m10)⟩
theorem y_loop (C : Cx w B) (S : St B L loc Z G ad ob us s₀ s) (R : Rel D a G ad ob) (hu : ∀ k, US k → us k) (h : ∀ o s', St B L loc Z G ad (up ob 0 o) us s₀ s' → Rel { D with loop := n } a G ad (up ob 0 o) → Q () s') : WP pw w A (setAttr (.ref a.s) "loop" (.int n u)) Q E s := by
  obtain ⟨mf, hd, m1, m2, m3, m4, m5, m6, m7, m8, m9, m10⟩ := R.sd
  have e : (mf "loop").isSome = true := by
    obtain ⟨_, e⟩ := m7
    rw [e]; rfl
  refine r_set C S R.gs (hu 0 us_l) hd (a_S_loop w) (by decide) fun o s' hd' S' => ?_
  rw [e] at hd'
  refine h o s' S' (R.uSt (D' := { D with loop := n }) hd' ?_ rfl rfl rfl rfl)
  exact ⟨(by simp only [show ¬ (("freedom" : Str) = ("loop" : Str)) from by decide, if_false]; exact m1), (by simp only [show ¬ (("projection" : Str) = ("loop" : Str)) from by decide, if_false]; exact m2), (by simp only [show ¬ (("dual" : Str) = ("loop" : Str)) from by decide, if_false]; exact m3), (by simp only [show ¬ (("zp0" : Str) = ("loop" : Str)) from by decide, if_false]; exact m4), (by simp only [show ¬ (("zp1" : Str) = ("loop" : Str)) from by decide, if_false]; exact m5), (by simp only [show ¬ (("zp2" : Str) = ("loop" : Str)) from by decide, if_false]; exact m6), ⟨u, by simp⟩, (by simp only [show ¬ (("free_dot" : Str) = ("loop" : Str)) from by decide, if_false]; exact m8), (by simp only [show ¬ (("projected" : Str) = ("loop" : Str)) from by decide, if_false]; exact m9), (by simp only [show ¬ (("dual_projected" : Str) = ("loop" : Str)) from by decide, if_false]; exact m10)⟩
theorem y_fr {p : Int × Int} (hp : IsPt G v p) (C : Cx w B) (S : St B L loc Z G ad ob us s₀ s) (R : Rel D a G ad ob) (hu : ∀ k, US k → us k) (h : ∀ o s', St B L loc Z G ad (up ob 0 o) us s₀ s' → Rel { D with fr := p } a G ad (up ob 0 o) → Q () s') : WP pw w A (setAttr (.ref a.s) "freedom" v) Q E s := by
  obtain ⟨mf, hd, m1, m2, m3, m4, m5, m6, m7, m8, m9, m10⟩ := R.sd
  have e : (mf "freedom").isSome = true := by
    obtain ⟨_, e⟩ := m1
    rw [e.1]; rfl
  refine r_set C S R.gs (hu 0 us_l) hd (a_S_freedom w) (by decide) fun o s' hd' S' => ?_
  rw [e] at hd'
  refine h o s' S' (R.uSt (D' := { D with fr := p }) hd' ?_ rfl rfl rfl rfl)
  exact ⟨⟨v, by simp, hp⟩, (by simp only [show ¬ (("projection" : Str) = ("freedom" : Str)) from by decide, if_false]; exact m2), (by simp only [show ¬ (("dual" : Str) = ("freedom" : Str)) from by decide, if_false]; exact m3), (by simp only [show ¬ (("zp0" : Str) = ("freedom" : Str)) from by decide, if_false]; exact m4), (by simp only [show ¬ (("zp1" : Str) = ("freedom" : Str)) from by decide, if_false]; exact m5), (by simp only [show ¬ (("zp2" : Str) = ("freedom" : Str)) from by decide, if_false]; exact m6), (by simp only [show ¬ (("loop" : Str) = ("freedom" : Str)) from by decide, if_false]; exact m7), (by simp only [show ¬ (("free_dot" : Str) = ("freedom" : Str)) from by decide, if_false]; exact m8), (by simp only [show ¬ (("projected" : Str) = ("freedom" : Str)) from by decide, if_false]; exact m9), (by simp only [show ¬ (("dual_projected" : Str) = ("freedom" : Str)) from by decide, if_false]; exact m10)⟩
theorem y_nums {b : Addr} {vs : List Value} {ns : List Int} {d : Nat} (C : Cx w B) (S : St B L loc Z G ad ob us s₀ s) (R : Rel D a G ad ob) (hu : ∀ k, US k → us k) (hb : s.heap.get? b = some (listOf vs.toArray d)) (hn : New Z G ad us L b) (hv : All2 IsI vs ns)
    (h : ∀ o s', St B L loc Z G (up ad 2 b) (up (up ob 1 o) 2 (listOf vs.toArray d)) us s₀ s' → Rel { D with nums := ns } a G (up ad 2 b) (up (up ob 1 o) 2 (listOf vs.toArray d)) → Q () s') : WP pw w A (setAttr (.ref a.k) "numbers" (.ref b)) Q E s := by
  obtain ⟨mf, hd, m1, m2, m3, m4⟩ := R.kd
  have S' := S.addG (a := b) (o := listOf vs.toArray d) hb (fun _ _ e => by cases e) hn.k
  refine r_set C S' (.inl R.gk) (hu 1 us_l) hd (a_K_numbers w) (by decide) fun o s' hd' S2 => ?_
  have e : (mf "numbers").isSome = true := by rw [m1]; rfl
  rw [e] at hd'
  have hb' := (S2.H.imm b _ (.inr ⟨rfl, rfl⟩)).1
  have S3 := S2.lessG (G' := G) fun _ _ g => .inl g
  have S4 := (S3.key (k := 2) hb' hn.z hn.g hn.k hn.l).lessU (us' := us) fun _ u => .inl u
  exact h o s' S4 (R.uStack hd' (by simp) (by simp only [show ¬ (("most" : Str) = ("numbers" : Str)) from by decide, if_false]; exact m2) (by simp only [show ¬ (("push" : Str) = ("numbers" : Str)) from by decide, if_false]; exact m3) (by simp only [show ¬ (("pop" : Str) = ("numbers" : Str)) from by decide, if_false]; exact m4) hv)
theorem y_o {p : Int × Int} (S : St B L loc Z G ad ob us s₀ s) (R : Rel D a G ad ob) (hu : ∀ k, US k → us k) (hi : i < 4) (hn : 0 ≤ n ∧ n.toNat < nq i) (hp : IsPt G v p)
    (h : ∀ o s', St B L loc Z G ad (up ob (16 * i + 16) o) us s₀ s' → Rel { D with q := up D.q i { D.q i with orig := (D.q i).orig.set n.toNat p } } a G ad (up ob (16 * i + 16) o) → Q () s') : WP pw w A (setItem (.ref (ad (16 * i + 16))) (.int n u) v) Q E s := by
  obtain ⟨vs, hl, h2⟩ := (R.q i hi).o
  have h6 := nq_le i
  have hlen : vs.length = nq i := h2.length.trans (R.q i hi).lo
  exact r_setitem S (hu _ (us_q (c := 0) hi (oq453))) hl hn.1 (oq594 hn hlen) (oq106 h6 hlen) fun o s' ho S' => h o s' S' (R.uOrig hi hl ho hp)
theorem y_c {p : Int × Int} (S : St B L loc Z G ad ob us s₀ s) (R : Rel D a G ad ob) (hu : ∀ k, US k → us k) (hi : i < 4) (hn : 0 ≤ n ∧ n.toNat < nq i) (hp : IsPt G v p)
    (h : ∀ o s', St B L loc Z G ad (up ob (16 * i + 17) o) us s₀ s' → Rel { D with q := up D.q i { D.q i with cur := (D.q i).cur.set n.toNat p } } a G ad (up ob (16 * i + 17) o) → Q () s') : WP pw w A (setItem (.ref (ad (16 * i + 17))) (.int n u) v) Q E s := by
  obtain ⟨vs, hl, h2⟩ := (R.q i hi).c
  have h6 := nq_le i
  have hlen : vs.length = nq i := h2.length.trans (R.q i hi).lc
  exact r_setitem S (hu _ (us_q (c := 1) hi (oq105))) hl hn.1 (oq594 hn hlen) (oq106 h6 hlen) fun o s' ho S' => h o s' S' (R.uCur hi hl ho hp)
theorem y_n {b : Bool} (S : St B L loc Z G ad ob us s₀ s) (R : Rel D a G ad ob) (hu : ∀ k, US k → us k) (hi : i < 4) (hn : 0 ≤ n ∧ n.toNat < nq i)
    (h : ∀ o s', St B L loc Z G ad (up ob (16 * i + 19) o) us s₀ s' → Rel { D with q := up D.q i { D.q i with on := (D.q i).on.set n.toNat b } } a G ad (up ob (16 * i + 19) o) → Q () s') : WP pw w A (setItem (.ref (ad (16 * i + 19))) (.int n u) (.bool b)) Q E s := by
  have hl := (R.q i hi).v
  have h6 := nq_le i
  have hlen := (R.q i hi).ln
  exact r_setitem S (hu _ (us_q (c := 3) hi (oq455))) hl hn.1 (by rw [List.length_map]; exact oq594 hn hlen) (by rw [List.length_map]; exact oq106 h6 hlen) fun o s' ho S' => h o s' S' (R.uOn hi ho)
theorem y_m {p : Bool × Bool} {b : Bool} {c : Int} {j : Nat} (S : St B L loc Z G ad ob us s₀ s) (R : Rel D a G ad ob) (hu : ∀ k, US k → us k) (hi : i < 4) (hp : (D.q i).tou[j]? = some p) (hc : c = 0 ∨ c = 1)
    (h : ∀ o s', St B L loc Z G ad (up ob (16 * i + 20 + j) o) us s₀ s' → Rel { D with q := up D.q i { D.q i with tou := (D.q i).tou.set j (if c = 0 then (b, p.2) else (p.1, b)) } } a G ad (up ob (16 * i + 20 + j) o) → Q () s') : WP pw w A (setItem (.ref (ad (16 * i + 20 + j))) (.int c u) (.bool b)) Q E s := by
  have hl := (R.q i hi).m j p hp
  have hlt := (List.getElem?_eq_some_iff.mp hp).1
  rw [(R.q i hi).lt] at hlt
  rw [show 16 * i + 16 + 4 + j = 16 * i + 20 + j by exact oq220] at hl
  have hu' := hu (16 * i + 20 + j) (by have := us_q (c := 4 + j) hi (oq458 hlt); rwa [show 16 * i + 16 + (4 + j) = 16 * i + 20 + j by exact oq595] at this)
  refine r_setitem S hu' hl (oq588 hc) (by rcases hc with rfl | rfl <;> (show _ < ((2 : Nat) : Int); decide)) (by show (2 : Nat) < _; decide) fun o s' ho S' => h o s' S' (R.uMark hi hlt ?_)
  rcases hc with rfl | rfl <;> exact ho
theorem y_t {p : Bool × Bool} {b : Addr} (S : St B L loc Z G ad ob us s₀ s) (R : Rel D a G ad ob) (hu : ∀ k, US k → us k) (hi : i < 4) (hn : 0 ≤ n ∧ n.toNat < nq i) (hb : s.heap.get? b = some (lstO [.bool p.1, .bool p.2])) (hN : New Z G ad us L b)
    (h : ∀ o s', St B L loc Z G (up ad (16 * i + 20 + n.toNat) b) (up (up ob (16 * i + 20 + n.toNat) (lstO [.bool p.1, .bool p.2])) (16 * i + 18) o) us s₀ s' →
      Rel { D with q := up D.q i { D.q i with tou := (D.q i).tou.set n.toNat p } } a G (up ad (16 * i + 20 + n.toNat) b) (up (up ob (16 * i + 20 + n.toNat) (lstO [.bool p.1, .bool p.2])) (16 * i + 18) o) → Q () s') : WP pw w A (setItem (.ref (ad (16 * i + 18))) (.int n u) (.ref b)) Q E s := by
  obtain ⟨vs, hl, hlen, h2⟩ := (R.q i hi).t
  have h6 := nq_le i
  have u1 := hu (16 * i + 20 + n.toNat) (by have := us_q (c := 4 + n.toNat) hi (oq596 hn); rwa [show 16 * i + 16 + (4 + n.toNat) = 16 * i + 20 + n.toNat by exact oq597] at this)
  have S1 := (S.key (k := 16 * i + 20 + n.toNat) hb hN.z hN.g hN.k hN.l).lessU (us' := us) fun _ u => .inl u
  have e1 : up ad (16 * i + 20 + n.toNat) b (16 * i + 18) = ad (16 * i + 18) := up_other _ _ (oq598)
  have e2 : up ob (16 * i + 20 + n.toNat) (lstO [.bool p.1, .bool p.2]) (16 * i + 18) = ob (16 * i + 18) := up_other _ _ (oq598)
  rw [← e1]
  exact r_setitem S1 (hu _ (us_q (c := 2) hi (oq457))) (by rw [e2]; exact hl) hn.1 (oq594 hn hlen) (oq599 hlen h6) fun o s' ho S' => h o s' S' (R.uMarkNew hi hn.2 hl ho (IsL.lst _))
end
end
noncomputable def mdv (a b c : Int) : Int :=
  if c < 0 then (if 0 - a * b < 0 then 0 - Int.fdiv (0 - 2 * (0 - a * b) + (0 - c)) (2 * (0 - c)) else Int.fdiv (2 * (0 - a * b) + (0 - c)) (2 * (0 - c)))
  else (if a * b < 0 then 0 - Int.fdiv (0 - 2 * (a * b) + c) (2 * c) else Int.fdiv (2 * (a * b) + c) (2 * c))
noncomputable def cdv (a b c : Int) : Int :=
  if c < 0 then (if 0 - a * b < 0 then 0 - Int.fdiv (0 - (0 - a * b)) (0 - c) else Int.fdiv (0 - a * b) (0 - c))
  else (if a * b < 0 then 0 - Int.fdiv (0 - a * b) c else Int.fdiv (a * b) c)
theorem fin_int {Q : Value → Shared → Prop} {P : Shared → Prop} {v v' : Int} {t : Tok} {s : Shared} (k : ∀ t s', P s' → Q (.int v t) s') (h : P s) (e : v = v') : Q (.int v' t) s := e ▸ k t s h
section
variable {ad : Nat → Addr} {ob : Nat → Obj}
theorem sp_muldiv {x y z : Int} {t1 t2 t3 : Tok} (C : Cx w B) (S : St B L loc Z G ad ob us s₀ s) (hA : Rm A 1) (hm : IntMulOk x y) (hz : z ≠ 0) (hb1 : -(2 ^ 199 : Int) < z) (hb2 : z < 2 ^ 199)
   (k : ∀ t s', St B L loc Z G ad ob us s₀ s' → Q (.int (mdv x y z) t) s') : WP pw w A (call (.ref 28) [.int x t1, .int y t2, .int z t3]) Q E s := by
  obtain ⟨Z', H', back⟩ := S.lend
  refine r_call [("a", .int x t1), ("b", .int y t2), ("c", .int z t3)] C H' hA rfl rfl (BindsTo.of_eq rfl) (locs rfl) ?_
  intro A1 L1 s1 hA1 S1
  walk_at "c"; refine r_assign (r_bin ?_); walk_at "l"; walk_at "l"; refine n_mul ⋯ ?_; walk_at "d"; walk_at "t"; walk_at "n"; refine r_if (r_isCmp ?_); walk_at "l"; walk_at "i"; refine r_lt (r_truthy ?_); (refine br ?_ ?_ <;> intro _); walk_at "c"; refine r_assign2 (r_tupleE (r_args (r_bin ?_))); walk_at "i"; walk_at "l"; refine n_sub ?_; walk_at "d"; refine r_args (r_bin ?_); walk_at "i"; walk_at "l"; refine n_sub ?_; walk_at "d"; refine r_args0 ?_; refine r_tuple ⋯ ?_; intro _ _ _ _ _; refine r_unpackN ⋯ (Rm.h ⋯) ⋯ ?_; intro _ _; refine r_inOrder (r_bindName ?_); walk_at "t"; refine r_inOrder (r_bindName ?_); walk_at "t"; refine r_inOrder0 ?_; walk_at "e"; refine r_nil ?_; walk_at "n"; refine r_if (r_isCmp ?_); walk_at "l"; walk_at "i"; refine r_lt (r_truthy ?_); (refine br ?_ ?_ <;> intro _); walk_at "c"; refine r_ret (r_bin ?_); walk_at "i"; refine r_bin (r_bin (r_bin ?_)); walk_at "i"; refine r_bin ?_; walk_at "i"; walk_at "l"; refine n_mul (ok2 _) ?_; walk_at "d"; refine n_sub ?_; walk_at "d"; walk_at "l"; refine n_add ?_; walk_at "d"; refine r_bin ?_; walk_at "i"; walk_at "l"; refine n_mul (ok2 _) ?_; walk_at "d"; refine n_div (oq136 ⋯) (np_small (oq137 ⋯) (oq138 hb1)) ?_; walk_at "d"; refine n_sub ?_; walk_at "d"; refine nx_ret ⋯ ?_; clear Nc Qc; refine nx_ret ⋯ ?_; clear Nc Qc; dsimp only; rotate_left; refine r_nil ?_; walk_at "n"; refine r_ret (r_bin (r_bin (r_bin ?_))); walk_at "i"; walk_at "l"; refine n_mul (ok2 _) ?_; walk_at "d"; walk_at "l"; refine n_add ?_; walk_at "d"; refine r_bin ?_; walk_at "i"; walk_at "l"; refine n_mul (ok2 _) ?_; walk_at "d"; refine n_div (oq136 ⋯) (np_small (oq137 ⋯) (oq138 hb1)) ?_; walk_at "d"; refine nx_ret ⋯ ?_; clear Nc Qc; dsimp only; rotate_left; refine r_nil ?_; walk_at "n"; refine r_if (r_isCmp ?_); walk_at "l"; walk_at "i"; refine r_lt (r_truthy ?_); (refine br ?_ ?_ <;> intro _); walk_at "c"; refine r_ret (r_bin ?_); walk_at "i"; refine r_bin (r_bin (r_bin ?_)); walk_at "i"; refine r_bin ?_; walk_at "i"; walk_at "l"; refine n_mul (ok2 _) ?_; walk_at "d"; refine n_sub ?_; walk_at "d"; walk_at "l"; refine n_add ?_; walk_at "d"; refine r_bin ?_; walk_at "i"; walk_at "l"; refine n_mul (ok2 _) ?_; walk_at "d"; refine n_div (oq139 hz) (np_small (oq140 ⋯) (oq141 hb2)) ?_; walk_at "d"; refine n_sub ?_; walk_at "d"; refine nx_ret ⋯ ?_; clear Nc Qc; refine nx_ret ⋯ ?_; clear Nc Qc; dsimp only; rotate_left; refine r_nil ?_; walk_at "n"; refine r_ret (r_bin (r_bin (r_bin ?_))); walk_at "i"; walk_at "l"; refine n_mul (ok2 _) ?_; walk_at "d"; walk_at "l"; refine n_add ?_; walk_at "d"; refine r_bin ?_; walk_at "i"; walk_at "l"; refine n_mul (ok2 _) ?_; walk_at "d"; refine n_div (oq139 hz) (np_small (oq140 ⋯) (oq141 hb2)) ?_; walk_at "d"; refine nx_ret ⋯ ?_; clear Nc Qc; dsimp only; rotate_left
  all_goals (refine fin_int k (back _ _ _ _ _ (St.H ⋯) (St.S ⋯)) ?_; unfold mdv; repeat (first | rw [if_pos ⋯] | rw [if_neg ⋯]))
theorem sp_cut_div {x y z : Int} {t1 t2 t3 : Tok} (C : Cx w B) (S : St B L loc Z G ad ob us s₀ s) (hA : Rm A 1) (hm : IntMulOk x y) (hz : z ≠ 0) (hb1 : -(2 ^ 199 : Int) < z) (hb2 : z < 2 ^ 199)
   (k : ∀ t s', St B L loc Z G ad ob us s₀ s' → Q (.int (cdv x y z) t) s') : WP pw w A (call (.ref 35) [.int x t1, .int y t2, .int z t3]) Q E s := by
  obtain ⟨Z', H', back⟩ := S.lend
  refine r_call [("a", .int x t1), ("b", .int y t2), ("c", .int z t3)] C H' hA rfl rfl (BindsTo.of_eq rfl) (locs rfl) ?_
  intro A1 L1 s1 hA1 S1
  walk_at "c"; refine r_assign (r_bin ?_); walk_at "l"; walk_at "l"; refine n_mul ⋯ ?_; walk_at "d"; walk_at "t"; walk_at "n"; refine r_if (r_isCmp ?_); walk_at "l"; walk_at "i"; refine r_lt (r_truthy ?_); (refine br ?_ ?_ <;> intro _); walk_at "c"; refine r_assign2 (r_tupleE (r_args (r_bin ?_))); walk_at "i"; walk_at "l"; refine n_sub ?_; walk_at "d"; refine r_args (r_bin ?_); walk_at "i"; walk_at "l"; refine n_sub ?_; walk_at "d"; refine r_args0 ?_; refine r_tuple ⋯ ?_; intro _ _ _ _ _; refine r_unpackN ⋯ (Rm.h ⋯) ⋯ ?_; intro _ _; refine r_inOrder (r_bindName ?_); walk_at "t"; refine r_inOrder (r_bindName ?_); walk_at "t"; refine r_inOrder0 ?_; walk_at "e"; refine r_nil ?_; walk_at "n"; refine r_ret (r_ifexp (r_isCmp ?_)); walk_at "l"; walk_at "i"; refine r_lt (r_truthy ?_); (refine br ?_ ?_ <;> intro _); refine r_bin ?_; walk_at "i"; refine r_bin (r_bin ?_); walk_at "i"; walk_at "l"; refine n_sub ?_; walk_at "d"; walk_at "l"; refine n_div (oq142 ⋯) (np_small (oq143 ⋯) (oq144 hb1)) ?_; walk_at "d"; refine n_sub ?_; walk_at "d"; refine nx_ret ⋯ ?_; clear Nc Qc; dsimp only; rotate_left; refine r_bin ?_; walk_at "l"; walk_at "l"; refine n_div (oq142 ⋯) (np_small (oq143 ⋯) (oq144 hb1)) ?_; walk_at "d"; refine nx_ret ⋯ ?_; clear Nc Qc; dsimp only; rotate_left; refine r_nil ?_; walk_at "n"; refine r_ret (r_ifexp (r_isCmp ?_)); walk_at "l"; walk_at "i"; refine r_lt (r_truthy ?_); (refine br ?_ ?_ <;> intro _); refine r_bin ?_; walk_at "i"; refine r_bin (r_bin ?_); walk_at "i"; walk_at "l"; refine n_sub ?_; walk_at "d"; walk_at "l"; refine n_div (oq145 hz) (np_small (oq146 ⋯) (oq147 hb2)) ?_; walk_at "d"; refine n_sub ?_; walk_at "d"; refine nx_ret ⋯ ?_; clear Nc Qc; dsimp only; rotate_left; refine r_bin ?_; walk_at "l"; walk_at "l"; refine n_div (oq145 hz) (np_small (oq146 ⋯) (oq147 hb2)) ?_; walk_at "d"; refine nx_ret ⋯ ?_; clear Nc Qc; dsimp only; rotate_left
  all_goals (refine fin_int k (back _ _ _ _ _ (St.H ⋯) (St.S ⋯)) ?_; unfold cdv; repeat (first | rw [if_pos ⋯] | rw [if_neg ⋯]))
end
theorem ok1 (x : Int) : IntMulOk x 1 := IntMulOk.of_right (by decide)
theorem ok_l {x : Int} (y : Int) (h : -(2 ^ 64) < x ∧ x < 2 ^ 64) : IntMulOk x y := IntMulOk.of_left (intBits_le_64 h.1 h.2)
theorem ok_r {y : Int} (x : Int) (h : -(2 ^ 64) < y ∧ y < 2 ^ 64) : IntMulOk x y := IntMulOk.of_right (intBits_le_64 h.1 h.2)
noncomputable def Vec (p : Int × Int) : Prop := (p.1 = 0 ∨ p.1 = 16384) ∧ (p.2 = 0 ∨ p.2 = 16384)
theorem vec_axv (k : Int) : Vec (axv k) := by
  unfold Vec axv
  split
  · exact ⟨.inr rfl, .inl rfl⟩
  · exact ⟨.inl rfl, .inr rfl⟩
section
variable {ad : Nat → Addr} {ob : Nat → Obj}
theorem St.addG' (S : St B L loc Z G ad ob us s₀ s) {a : Addr} {o : Obj} (ho : s.heap.get? a = some o) (hs : Still o) (hn : ∀ k, us k → ad k ≠ a) : ∃ G2, (∀ b p, G b p → G2 b p) ∧ G2 a o ∧ St B L loc Z G2 ad ob us s₀ s :=
  ⟨_, fun _ _ g => .inl g, .inr ⟨rfl, rfl⟩, S.addG ho hs hn⟩
theorem sp_dot14 {x y : Int} {t1 t2 : Tok} {v : Value} {p : Int × Int} (C : Cx w B) (S : St B L loc Z G ad ob us s₀ s) (hA : Rm A 2) (hv : IsPt G v p) (hp : Vec p)
   (k : ∀ t s', St B L loc Z G ad ob us s₀ s' → Q (.int (mdv (x * p.1 + y * p.2) 1 16384) t) s') : WP pw w A (call (.ref 42) [.int x t1, .int y t2, v]) Q E s := by
  obtain ⟨b, u1, u2, rfl, hG⟩ := hv
  obtain ⟨p1, p2⟩ := p
  have o1 : IntMulOk x p1 := ok_r x (by rcases hp.1 with h | h <;> (dsimp only at h; omega))
  have o2 : IntMulOk y p2 := ok_r y (by rcases hp.2 with h | h <;> (dsimp only at h; omega))
  obtain ⟨Z', H', back⟩ := S.lend
  refine r_call [("x", .int x t1), ("y", .int y t2), ("vector", .ref b)] C H' hA rfl rfl (BindsTo.of_eq rfl) (locs rfl) ?_
  intro A1 L1 s1 hA1 S1
  walk_at "c"; refine r_ret ?_; refine r_callG ⋯ ⋯ (g_muldiv _) (k_muldiv _) ?_; refine r_args (r_bin (r_bin ?_)); walk_at "l"; refine Mine.r_sub ?_; walk_at "l"; walk_at "i"; refine r_item ⋯ ⋯ rfl rfl ?_; refine n_mul ⋯ ?_; walk_at "d"; refine r_bin ?_; walk_at "l"; refine Mine.r_sub ?_; walk_at "l"; walk_at "i"; refine r_item ⋯ ⋯ rfl rfl ?_; refine n_mul ⋯ ?_; walk_at "d"; refine n_add ?_; walk_at "d"; refine r_args ?_; walk_at "i"; refine r_args ?_; refine r_glob ⋯ ⋯ (g_ONE14 _) ?_; refine r_args0 ?_; walk_at "k"; refine sp_muldiv ⋯ ⋯ (Rm.less ⋯) (ok1 _) (by decide) (oq91) (oq92) ?_; intro _ _ _; refine nx_ret ⋯ ?_; clear Nc Qc; dsimp only
  exact k _ _ (back _ _ _ _ _ (St.H ⋯) (St.S ⋯))
theorem sp_apart {b c : Addr} {p1 p2 q1 q2 : Int} {u1 u2 v1 v2 : Tok} (C : Cx w B) (S : St B L loc Z G ad ob us s₀ s) (hA : Rm A 1) (hp : G b (tupO [.int p1 u1, .int p2 u2])) (hq : G c (tupO [.int q1 v1, .int q2 v2]))
   (k : ∀ d t1 t2 s', St B L loc Z G ad ob us s₀ s' → s'.heap.get? d = some (tupO [.int (p1 - q1) t1, .int (p2 - q2) t2]) → (∀ k, us k → ad k ≠ d) → Q (.ref d) s') : WP pw w A (call (.ref 49) [.ref b, .ref c]) Q E s := by
  obtain ⟨Z', H', back⟩ := S.lend
  refine r_call [("one", .ref b), ("other", .ref c)] C H' hA rfl rfl (BindsTo.of_eq rfl) (locs rfl) ?_
  intro A1 L1 s1 hA1 S1
  walk_at "c"; refine r_ret (r_tupleE (r_args (r_bin (Mine.r_sub ?_)))); walk_at "l"; walk_at "i"; refine r_item ⋯ ⋯ rfl rfl ?_; refine Mine.r_sub ?_; walk_at "l"; walk_at "i"; refine r_item ⋯ ⋯ rfl rfl ?_; refine n_sub ?_; walk_at "d"; refine r_args (r_bin (Mine.r_sub ?_)); walk_at "l"; walk_at "i"; refine r_item ⋯ ⋯ rfl rfl ?_; refine Mine.r_sub ?_; walk_at "l"; walk_at "i"; refine r_item ⋯ ⋯ rfl rfl ?_; refine n_sub ?_; walk_at "d"; refine r_args0 ?_; refine r_tuple ⋯ ?_; intro _ _ _ _ _; refine nx_ret ⋯ ?_; clear Nc Qc; dsimp only
  exact k _ _ _ _ (back _ _ _ _ _ (St.H ⋯) (St.S ⋯)) ⋯ ⋯
theorem r_absx {x : Str} {p1 p2 p3 p4 p5 p6 p7 p8 : Pos} {c1 c2 : Nat} {i : Int} {t : Tok} (S : St B L loc Z G ad ob us s₀ s) (hv : loc.lookup x = some (.int i t)) (h : ∀ t s', St B L loc Z G ad ob us s₀ s' → Q (.int (if 0 ≤ i then i else 0 - i) t) s')
    (hE : EnvOk env L := by exact ⟨rfl, rfl, rfl, rfl⟩) (hx : env.kindOf x = some .local := by rfl) (hd : (x == ("__debug__" : Str)) = false := by rfl) :
    WP pw w A (eval (.IfExp (.Compare (.Name x p1) [.GtE] [.Constant (.int 0) c1 p2] p3) (.Name x p4) (.BinOp (.Constant (.int 0) c2 p5) .Sub (.Name x p6) p7) p8) env) Q E s := by
  refine r_ifexp (r_isCmp (r_loc S hv (r_int S fun t0 s1 S1 => r_ge (r_truthy (br (fun q => ?_) fun q => ?_))) hE hx hd))
  · refine r_loc S1 hv ?_ hE hx hd
    have := h t s1 S1
    rwa [if_pos q] at this
  · refine r_bin (r_int S1 fun t2 s2 S2 => r_loc S2 hv (r_sub' S2 fun t3 s3 S3 => ?_) hE hx hd)
    have := h t3 s3 S3
    rwa [if_neg q] at this
end
theorem mulb {x y : Int} (hx : -(2 ^ 61 : Int) < x ∧ x < 2 ^ 61) (hy : -(2 ^ 61 : Int) < y ∧ y < 2 ^ 61) : -(2 ^ 122 : Int) < x * y ∧ x * y < 2 ^ 122 := by
  have h1 : x.natAbs < 2 ^ 61 := oq126 hx
  have h2 : y.natAbs < 2 ^ 61 := oq126 hy
  have h3 : (x * y).natAbs < 2 ^ 61 * 2 ^ 61 := by
    rw [Int.natAbs_mul]
    exact Nat.mul_lt_mul'' h1 h2
  have h4 : (2 ^ 61 * 2 ^ 61 : Nat) = 2 ^ 122 := by decide
  rw [h4] at h3
  exact oq127 h3
noncomputable def Bp (p : Int × Int) : Prop := (-(2 ^ 59 : Int) < p.1 ∧ p.1 < 2 ^ 59) ∧ (-(2 ^ 59 : Int) < p.2 ∧ p.2 < 2 ^ 59)
noncomputable def ab (x : Int) : Int := if 0 ≤ x then x else 0 - x
noncomputable def crossP (a b c d : Int × Int) : Int × Int :=
  if ab ((b.1 - a.1) * (d.1 - c.1) + (b.2 - a.2) * (d.2 - c.2)) < 19 * ab ((b.2 - a.2) * (d.1 - c.1) - (b.1 - a.1) * (d.2 - c.2)) then
    (a.1 + mdv ((c.2 - a.2) * (d.1 - c.1) - (c.1 - a.1) * (d.2 - c.2)) (b.1 - a.1) ((b.2 - a.2) * (d.1 - c.1) - (b.1 - a.1) * (d.2 - c.2)),
     a.2 + mdv ((c.2 - a.2) * (d.1 - c.1) - (c.1 - a.1) * (d.2 - c.2)) (b.2 - a.2) ((b.2 - a.2) * (d.1 - c.1) - (b.1 - a.1) * (d.2 - c.2)))
  else (cdv (a.1 + b.1 + c.1 + d.1) 1 4, cdv (a.2 + b.2 + c.2 + d.2) 1 4)
section
variable {ad : Nat → Addr} {ob : Nat → Obj}
theorem sp_crossing {v1 v2 v3 v4 : Value} {p1 p2 p3 p4 : Int × Int} (C : Cx w B) (S : St B L loc Z G ad ob us s₀ s) (hA : Rm A 2) (h1 : IsPt G v1 p1) (h2 : IsPt G v2 p2) (h3 : IsPt G v3 p3) (h4 : IsPt G v4 p4) (b1 : Bp p1) (b2 : Bp p2) (b3 : Bp p3) (b4 : Bp p4)
   (k : ∀ G2 v s', (∀ b p, G b p → G2 b p) → IsPt G2 v (crossP p1 p2 p3 p4) → St B L loc Z G2 ad ob us s₀ s' → Q v s') : WP pw w A (call (.ref 127) [v1, v2, v3, v4]) Q E s := by
  obtain ⟨a1, u1, w1, rfl, g1⟩ := h1
  obtain ⟨a2, u2, w2, rfl, g2⟩ := h2
  obtain ⟨a3, u3, w3, rfl, g3⟩ := h3
  obtain ⟨a4, u4, w4, rfl, g4⟩ := h4
  obtain ⟨x1, y1⟩ := p1
  obtain ⟨x2, y2⟩ := p2
  obtain ⟨x3, y3⟩ := p3
  obtain ⟨x4, y4⟩ := p4
  obtain ⟨⟨bx1, cx1⟩, by1, cy1⟩ := b1
  obtain ⟨⟨bx2, cx2⟩, by2, cy2⟩ := b2
  obtain ⟨⟨bx3, cx3⟩, by3, cy3⟩ := b3
  obtain ⟨⟨bx4, cx4⟩, by4, cy4⟩ := b4
  dsimp only at *
  obtain ⟨Z', H', back⟩ := S.lend
  refine r_call [("first", .ref a1), ("second", .ref a2), ("third", .ref a3), ("fourth", .ref a4)] C H' hA rfl rfl (BindsTo.of_eq rfl) (locs rfl) ?_
  intro A1 L1 s1 hA1 S1
  walk_at "c"; refine r_assign2 (r_tupleE (r_args ?_)); refine r_callG ⋯ ⋯ (g_apart _) (k_apart _) ?_; refine r_args ?_; walk_at "l"; refine r_args ?_; walk_at "l"; refine r_args0 ?_; walk_at "k"
  refine sp_apart C ⋯ (Rm.less hA1) ⋯ ⋯ ?_
  intro d1 t1 t2 s2 S2 e2 f2
  obtain ⟨G2, le2, k1, S3⟩ := S2.addG' e2 (still_tup _) f2
  replace g1 := le2 _ _ g1; replace g2 := le2 _ _ g2; replace g3 := le2 _ _ g3; replace g4 := le2 _ _ g4
  clear S2 S1 e2 f2 H'
  refine r_args ?_; refine r_callG ⋯ ⋯ (g_apart _) (k_apart _) ?_; refine r_args ?_; walk_at "l"; refine r_args ?_; walk_at "l"; refine r_args0 ?_; walk_at "k"
  refine sp_apart C ⋯ (Rm.less hA1) ⋯ ⋯ ?_
  intro d2 t3 t4 s4 S4 e4 f4
  obtain ⟨G3, le3, k2, S5⟩ := S4.addG' e4 (still_tup _) f4
  replace g1 := le3 _ _ g1; replace g2 := le3 _ _ g2; replace g3 := le3 _ _ g3; replace g4 := le3 _ _ g4; replace k1 := le3 _ _ k1
  clear S4 e4 f4
  have m1 := mulb (x := y2 - y1) (y := x4 - x3) (oq128 by1 cy1 by2 cy2) (oq128 bx3 cx3 bx4 cx4)
  have m2 := mulb (x := x2 - x1) (y := y4 - y3) (oq128 bx1 cx1 bx2 cx2) (oq128 by3 cy3 by4 cy4)
  refine r_args0 ?_; refine r_tuple ⋯ ?_; intro _ _ _ _ _; refine r_unpackN ⋯ (Rm.h ⋯) ⋯ ?_; intro _ _; refine r_inOrder (r_bindName ?_); walk_at "t"; refine r_inOrder (r_bindName ?_); walk_at "t"; refine r_inOrder0 ?_; walk_at "n"; refine r_assign (r_bin (r_bin (Mine.r_sub ?_))); walk_at "l"; walk_at "i"; refine r_item ⋯ ⋯ rfl rfl ?_; refine Mine.r_sub ?_; walk_at "l"; walk_at "i"; refine r_item ⋯ ⋯ rfl rfl ?_; refine n_mul (ok_l _ (oq129 by1 cy1 by2 cy2)) ?_; walk_at "d"; refine r_bin (Mine.r_sub ?_); walk_at "l"; walk_at "i"; refine r_item ⋯ ⋯ rfl rfl ?_; refine Mine.r_sub ?_; walk_at "l"; walk_at "i"; refine r_item ⋯ ⋯ rfl rfl ?_; refine n_mul (ok_l _ (oq129 bx1 cx1 bx2 cx2)) ?_; walk_at "d"; refine n_sub ?_; walk_at "d"; walk_at "t"; walk_at "n"; refine r_assign (r_bin (r_bin (Mine.r_sub ?_))); walk_at "l"; walk_at "i"; refine r_item ⋯ ⋯ rfl rfl ?_; refine Mine.r_sub ?_; walk_at "l"; walk_at "i"; refine r_item ⋯ ⋯ rfl rfl ?_; refine n_mul (ok_l _ (oq129 bx1 cx1 bx2 cx2)) ?_; walk_at "d"; refine r_bin (Mine.r_sub ?_); walk_at "l"; walk_at "i"; refine r_item ⋯ ⋯ rfl rfl ?_; refine Mine.r_sub ?_; walk_at "l"; walk_at "i"; refine r_item ⋯ ⋯ rfl rfl ?_; refine n_mul (ok_l _ (oq129 by1 cy1 by2 cy2)) ?_; walk_at "d"; refine n_add ?_; walk_at "d"; walk_at "t"; walk_at "n"; refine r_if (r_isCmp (r_bin ?_)); walk_at "i"; refine r_absx ⋯ rfl ?_; intro _ _ _; refine n_mul (ok_l _ (by decide)) ?_; walk_at "d"; refine r_absx ⋯ rfl ?_; intro _ _ _; refine r_gt (r_truthy ?_); (refine br ?_ ?_ <;> intro _); walk_at "c"; refine r_assign ?_; refine r_callG ⋯ ⋯ (g_apart _) (k_apart _) ?_; refine r_args ?_; walk_at "l"; refine r_args ?_; walk_at "l"; refine r_args0 ?_; walk_at "k"; rotate_left; refine r_nil ?_; walk_at "n"; refine r_assign (r_bin (r_bin (r_bin (Mine.r_sub ?_)))); walk_at "l"; walk_at "i"; refine r_item ⋯ ⋯ rfl rfl ?_; refine Mine.r_sub ?_; walk_at "l"; walk_at "i"; refine r_item ⋯ ⋯ rfl rfl ?_; refine n_add ?_; walk_at "d"; refine Mine.r_sub ?_; walk_at "l"; walk_at "i"; refine r_item ⋯ ⋯ rfl rfl ?_; refine n_add ?_; walk_at "d"; refine Mine.r_sub ?_; walk_at "l"; walk_at "i"; refine r_item ⋯ ⋯ rfl rfl ?_; refine n_add ?_; walk_at "d"; walk_at "t"; walk_at "n"; refine r_ret (r_tupleE (r_args ?_)); refine r_callG ⋯ ⋯ (g_cut_div _) (k_cut_div _) ?_; refine r_args ?_; walk_at "l"; refine r_args ?_; walk_at "i"; refine r_args ?_; walk_at "i"; refine r_args0 ?_; walk_at "k"; refine sp_cut_div ⋯ ⋯ (Rm.less ⋯) (ok_l _ (oq130 bx1 cx1 bx2 cx2 bx3 cx3 bx4 cx4)) (by decide) (oq131) (oq132) ?_; intro _ _ _; refine r_args ?_; refine r_callG ⋯ ⋯ (g_cut_div _) (k_cut_div _) ?_; refine r_args (r_bin (r_bin (r_bin (Mine.r_sub ?_)))); walk_at "l"; walk_at "i"; refine r_item ⋯ ⋯ rfl rfl ?_; refine Mine.r_sub ?_; walk_at "l"; walk_at "i"; refine r_item ⋯ ⋯ rfl rfl ?_; refine n_add ?_; walk_at "d"; refine Mine.r_sub ?_; walk_at "l"; walk_at "i"; refine r_item ⋯ ⋯ rfl rfl ?_; refine n_add ?_; walk_at "d"; refine Mine.r_sub ?_; walk_at "l"; walk_at "i"; refine r_item ⋯ ⋯ rfl rfl ?_; refine n_add ?_; walk_at "d"; refine r_args ?_; walk_at "i"; refine r_args ?_; walk_at "i"; refine r_args0 ?_; walk_at "k"; refine sp_cut_div ⋯ ⋯ (Rm.less ⋯) (ok_l _ (oq130 by1 cy1 by2 cy2 by3 cy3 by4 cy4)) (by decide) (oq131) (oq132) ?_; intro _ _ _; refine r_args0 ?_; refine r_tuple ⋯ ?_; intro _ _ _ _ _; refine nx_ret ⋯ ?_; clear Nc Qc; dsimp only; rotate_left
  · have q : (if 0 ≤ (x2 - x1) * (x4 - x3) + (y2 - y1) * (y4 - y3) then (x2 - x1) * (x4 - x3) + (y2 - y1) * (y4 - y3) else 0 - ((x2 - x1) * (x4 - x3) + (y2 - y1) * (y4 - y3))) <
        19 * (if 0 ≤ (y2 - y1) * (x4 - x3) - (x2 - x1) * (y4 - y3) then (y2 - y1) * (x4 - x3) - (x2 - x1) * (y4 - y3) else 0 - ((y2 - y1) * (x4 - x3) - (x2 - x1) * (y4 - y3))) := ⋯
    have hturn : (y2 - y1) * (x4 - x3) - (x2 - x1) * (y4 - y3) ≠ 0 := by
      intro e
      rw [e] at q
      simp only [Int.le_refl, if_true, Int.mul_zero] at q
      split at q <;> omega
    refine sp_apart C ⋯ (Rm.less hA1) ⋯ ⋯ ?_
    intro d3 t5 t6 s6 S6 e6 f6
    obtain ⟨G4, le4, k3, S7⟩ := S6.addG' e6 (still_tup _) f6
    replace g1 := le4 _ _ g1; replace g2 := le4 _ _ g2; replace g3 := le4 _ _ g3; replace g4 := le4 _ _ g4; replace k1 := le4 _ _ k1; replace k2 := le4 _ _ k2
    clear S6 e6 f6
    walk_at "t"; walk_at "n"; refine r_assign (r_bin (r_bin (Mine.r_sub ?_))); walk_at "l"; walk_at "i"; refine r_item ⋯ ⋯ rfl rfl ?_; refine Mine.r_sub ?_; walk_at "l"; walk_at "i"; refine r_item ⋯ ⋯ rfl rfl ?_; refine n_mul (ok_l _ (oq129 by1 cy1 by3 cy3)) ?_; walk_at "d"; refine r_bin (Mine.r_sub ?_); walk_at "l"; walk_at "i"; refine r_item ⋯ ⋯ rfl rfl ?_; refine Mine.r_sub ?_; walk_at "l"; walk_at "i"; refine r_item ⋯ ⋯ rfl rfl ?_; refine n_mul (ok_l _ (oq129 bx1 cx1 bx3 cx3)) ?_; walk_at "d"; refine n_sub ?_; walk_at "d"; walk_at "t"; walk_at "n"; refine r_ret (r_tupleE (r_args (r_bin (Mine.r_sub ?_)))); walk_at "l"; walk_at "i"; refine r_item ⋯ ⋯ rfl rfl ?_; refine r_callG ⋯ ⋯ (g_muldiv _) (k_muldiv _) ?_; refine r_args ?_; walk_at "l"; refine r_args (Mine.r_sub ?_); walk_at "l"; walk_at "i"; refine r_item ⋯ ⋯ rfl rfl ?_; refine r_args ?_; walk_at "l"; refine r_args0 ?_; walk_at "k"; refine sp_muldiv ⋯ ⋯ (Rm.less ⋯) (ok_r _ (oq129 bx1 cx1 bx2 cx2)) ⋯ (oq133 m1 m2) (oq134 m1 m2) ?_; intro _ _ _; refine n_add ?_; walk_at "d"; refine r_args (r_bin (Mine.r_sub ?_)); walk_at "l"; walk_at "i"; refine r_item ⋯ ⋯ rfl rfl ?_; refine r_callG ⋯ ⋯ (g_muldiv _) (k_muldiv _) ?_; refine r_args ?_; walk_at "l"; refine r_args (Mine.r_sub ?_); walk_at "l"; walk_at "i"; refine r_item ⋯ ⋯ rfl rfl ?_; refine r_args ?_; walk_at "l"; refine r_args0 ?_; walk_at "k"; refine sp_muldiv ⋯ ⋯ (Rm.less ⋯) (ok_r _ (oq129 by1 cy1 by2 cy2)) ⋯ (oq133 m1 m2) (oq134 m1 m2) ?_; intro _ _ _; refine n_add ?_; walk_at "d"; refine r_args0 ?_; refine r_tuple ⋯ ?_; intro _ _ _ _ _; refine nx_ret ⋯ ?_; clear Nc Qc; refine nx_ret ⋯ ?_; clear Nc Qc; dsimp only
    rename_i S8 e8 f8
    obtain ⟨G5, le5, k4, S9⟩ := S8.addG' e8 (still_tup _) f8
    try refine nx_ret ⋯ ?_
    refine k G5 _ _ (fun b p g => le5 _ _ (le4 _ _ (le3 _ _ (le2 _ _ g)))) ?_ (back _ _ _ _ _ S9.H S9.S)
    unfold crossP ab
    dsimp only
    rw [if_pos q]
    exact ⟨_, _, _, rfl, k4⟩
  · rename_i S8 e8 f8
    obtain ⟨G5, le5, k4, S9⟩ := S8.addG' e8 (still_tup _) f8
    try refine nx_ret ⋯ ?_
    refine k G5 _ _ (fun b p g => le5 _ _ (le3 _ _ (le2 _ _ g))) ?_ (back _ _ _ _ _ S9.H S9.S)
    unfold crossP ab
    dsimp only
    rw [if_neg ⋯]
    exact ⟨_, _, _, rfl, k4⟩
end
noncomputable def abz (x : Int) : Int := if x < 0 then -x else x
noncomputable def hlf (t b : Int) : Int :=
  if b < 0 then (if 0 ≤ 0 - t then Int.fdiv (2 * abz (0 - t) + (0 - b)) (2 * (0 - b)) else 0 - Int.fdiv (2 * abz (0 - t) + (0 - b)) (2 * (0 - b)))
  else (if 0 ≤ t then Int.fdiv (2 * abz t + b) (2 * b) else 0 - Int.fdiv (2 * abz t + b) (2 * b))
noncomputable def ctf (t b : Int) : Int := if 0 ≤ t then Int.fdiv (abz t) b else 0 - Int.fdiv (abz t) b
noncomputable def crossL (a b c d : Int × Int) : Int × Int :=
  if abz ((b.1 - a.1) * (d.1 - c.1) + (b.2 - a.2) * (d.2 - c.2)) < 19 * abz ((b.1 - a.1) * (d.2 - c.2) - (b.2 - a.2) * (d.1 - c.1)) then
    (a.1 + hlf (((c.1 - a.1) * (d.2 - c.2) - (c.2 - a.2) * (d.1 - c.1)) * (b.1 - a.1)) ((b.1 - a.1) * (d.2 - c.2) - (b.2 - a.2) * (d.1 - c.1)),
     a.2 + hlf (((c.1 - a.1) * (d.2 - c.2) - (c.2 - a.2) * (d.1 - c.1)) * (b.2 - a.2)) ((b.1 - a.1) * (d.2 - c.2) - (b.2 - a.2) * (d.1 - c.1)))
  else (ctf (a.1 + b.1 + c.1 + d.1) 4, ctf (a.2 + b.2 + c.2 + d.2) 4)
section
variable {ad : Nat → Addr} {ob : Nat → Obj}
theorem sp_half {x z : Int} {t1 t3 : Tok} (C : Cx w B) (S : St B L loc Z G ad ob us s₀ s) (hA : Rm A 1) (hz : z ≠ 0) (hb1 : -(2 ^ 199 : Int) < z) (hb2 : z < 2 ^ 199)
   (k : ∀ t s', St B L loc Z G ad ob us s₀ s' → Q (.int (hlf x z) t) s') : WP pw w A (call (.ref 474) [.int x t1, .int z t3]) Q E s := by
  obtain ⟨Z', H', back⟩ := S.lend
  refine r_call [("top", .int x t1), ("bottom", .int z t3)] C H' hA rfl rfl (BindsTo.of_eq rfl) (locs rfl) ?_
  intro A1 L1 s1 hA1 S1
  walk_at "c"; refine r_if (r_isCmp ?_); walk_at "l"; walk_at "i"; refine r_lt (r_truthy ?_); (refine br ?_ ?_ <;> intro _); walk_at "c"; refine r_assign2 (r_tupleE (r_args (r_bin ?_))); walk_at "i"; walk_at "l"; refine n_sub ?_; walk_at "d"; refine r_args (r_bin ?_); walk_at "i"; walk_at "l"; refine n_sub ?_; walk_at "d"; refine r_args0 ?_; refine r_tuple ⋯ ?_; intro _ _ _ _ _; refine r_unpackN ⋯ (Rm.h ⋯) ⋯ ?_; intro _ _; refine r_inOrder (r_bindName ?_); walk_at "t"; refine r_inOrder (r_bindName ?_); walk_at "t"; refine r_inOrder0 ?_; walk_at "e"; refine r_nil ?_; walk_at "n"; refine r_assign (r_bin (r_bin (r_bin ?_))); walk_at "i"; refine r_callB ⋯ ⋯ (b_abs _) bb_abs ?_; refine r_args ?_; walk_at "l"; refine r_args0 ?_; refine r_abs ⋯ ?_; intro _ _ _; refine n_mul (ok_l _ (by decide)) ?_; walk_at "d"; walk_at "l"; refine n_add ?_; walk_at "d"; refine r_bin ?_; walk_at "i"; walk_at "l"; refine n_mul (ok_l _ (by decide)) ?_; walk_at "d"; refine n_div (oq136 ⋯) (np_small (oq137 ⋯) (oq138 hb1)) ?_; walk_at "d"; walk_at "t"; walk_at "n"; refine r_ret (r_ifexp (r_isCmp ?_)); walk_at "l"; walk_at "i"; refine r_ge (r_truthy ?_); (refine br ?_ ?_ <;> intro _); walk_at "l"; refine nx_ret ⋯ ?_; clear Nc Qc; dsimp only; rotate_left; refine r_bin ?_; walk_at "i"; walk_at "l"; refine n_sub ?_; walk_at "d"; refine nx_ret ⋯ ?_; clear Nc Qc; dsimp only; rotate_left; refine r_nil ?_; walk_at "n"; refine r_assign (r_bin (r_bin (r_bin ?_))); walk_at "i"; refine r_callB ⋯ ⋯ (b_abs _) bb_abs ?_; refine r_args ?_; walk_at "l"; refine r_args0 ?_; refine r_abs ⋯ ?_; intro _ _ _; refine n_mul (ok_l _ (by decide)) ?_; walk_at "d"; walk_at "l"; refine n_add ?_; walk_at "d"; refine r_bin ?_; walk_at "i"; walk_at "l"; refine n_mul (ok_l _ (by decide)) ?_; walk_at "d"; refine n_div (oq139 hz) (np_small (oq140 ⋯) (oq141 hb2)) ?_; walk_at "d"; walk_at "t"; walk_at "n"; refine r_ret (r_ifexp (r_isCmp ?_)); walk_at "l"; walk_at "i"; refine r_ge (r_truthy ?_); (refine br ?_ ?_ <;> intro _); walk_at "l"; refine nx_ret ⋯ ?_; clear Nc Qc; dsimp only; rotate_left; refine r_bin ?_; walk_at "i"; walk_at "l"; refine n_sub ?_; walk_at "d"; refine nx_ret ⋯ ?_; clear Nc Qc; dsimp only; rotate_left
  all_goals (refine fin_int k (back _ _ _ _ _ (St.H ⋯) (St.S ⋯)) ?_; unfold hlf abz; repeat (first | rw [if_pos ⋯] | rw [if_neg ⋯]))
theorem sp_cut {x : Int} {t1 t3 : Tok} (C : Cx w B) (S : St B L loc Z G ad ob us s₀ s) (hA : Rm A 1) {z : Int} (hz : z ≠ 0) (hb1 : -(2 ^ 199 : Int) < z) (hb2 : z < 2 ^ 199)
   (k : ∀ t s', St B L loc Z G ad ob us s₀ s' → Q (.int (ctf x z) t) s') : WP pw w A (call (.ref 481) [.int x t1, .int z t3]) Q E s := by
  obtain ⟨Z', H', back⟩ := S.lend
  refine r_call [("top", .int x t1), ("bottom", .int z t3)] C H' hA rfl rfl (BindsTo.of_eq rfl) (locs rfl) ?_
  intro A1 L1 s1 hA1 S1
  walk_at "c"; refine r_ret (r_ifexp (r_isCmp ?_)); walk_at "l"; walk_at "i"; refine r_ge (r_truthy ?_); (refine br ?_ ?_ <;> intro _); refine r_bin ?_; refine r_callB ⋯ ⋯ (b_abs _) bb_abs ?_; refine r_args ?_; walk_at "l"; refine r_args0 ?_; refine r_abs ⋯ ?_; intro _ _ _; walk_at "l"; refine n_div (oq145 hz) (np_small (oq439 hb1) (oq147 hb2)) ?_; walk_at "d"; refine nx_ret ⋯ ?_; clear Nc Qc; dsimp only; rotate_left; refine r_bin ?_; walk_at "i"; refine r_bin ?_; refine r_callB ⋯ ⋯ (b_abs _) bb_abs ?_; refine r_args ?_; walk_at "l"; refine r_args0 ?_; refine r_abs ⋯ ?_; intro _ _ _; walk_at "l"; refine n_div (oq145 hz) (np_small (oq439 hb1) (oq147 hb2)) ?_; walk_at "d"; refine n_sub ?_; walk_at "d"; refine nx_ret ⋯ ?_; clear Nc Qc; dsimp only; rotate_left
  all_goals (refine fin_int k (back _ _ _ _ _ (St.H ⋯) (St.S ⋯)) ?_; unfold ctf abz; repeat (first | rw [if_pos ⋯] | rw [if_neg ⋯]))
end
section
variable {ad : Nat → Addr} {ob : Nat → Obj}
theorem sp_lcross {v1 v2 v3 v4 : Value} {p1 p2 p3 p4 : Int × Int} (C : Cx w B) (S : St B L loc Z G ad ob us s₀ s) (hA : Rm A 2) (h1 : IsPt G v1 p1) (h2 : IsPt G v2 p2) (h3 : IsPt G v3 p3) (h4 : IsPt G v4 p4) (b1 : Bp p1) (b2 : Bp p2) (b3 : Bp p3) (b4 : Bp p4)
   (k : ∀ G2 v s', (∀ b p, G b p → G2 b p) → IsPt G2 v (crossL p1 p2 p3 p4) → St B L loc Z G2 ad ob us s₀ s' → Q v s') : WP pw w A (call (.ref 495) [v1, v2, v3, v4]) Q E s := by
  obtain ⟨a1, u1, w1, rfl, g1⟩ := h1
  obtain ⟨a2, u2, w2, rfl, g2⟩ := h2
  obtain ⟨a3, u3, w3, rfl, g3⟩ := h3
  obtain ⟨a4, u4, w4, rfl, g4⟩ := h4
  obtain ⟨x1, y1⟩ := p1
  obtain ⟨x2, y2⟩ := p2
  obtain ⟨x3, y3⟩ := p3
  obtain ⟨x4, y4⟩ := p4
  obtain ⟨⟨bx1, cx1⟩, by1, cy1⟩ := b1
  obtain ⟨⟨bx2, cx2⟩, by2, cy2⟩ := b2
  obtain ⟨⟨bx3, cx3⟩, by3, cy3⟩ := b3
  obtain ⟨⟨bx4, cx4⟩, by4, cy4⟩ := b4
  dsimp only at *
  obtain ⟨Z', H', back⟩ := S.lend
  refine r_call [("a", .ref a1), ("b", .ref a2), ("c", .ref a3), ("d", .ref a4)] C H' hA rfl rfl (BindsTo.of_eq rfl) (locs rfl) ?_
  intro A1 L1 s1 hA1 S1
  walk_at "c"; refine r_assign3 (r_tupleE (r_args (r_tupleE (r_args (r_bin (Mine.r_sub ?_)))))); walk_at "l"; walk_at "i"; refine r_item ⋯ ⋯ rfl rfl ?_; refine Mine.r_sub ?_; walk_at "l"; walk_at "i"; refine r_item ⋯ ⋯ rfl rfl ?_; refine n_sub ?_; walk_at "d"; refine r_args (r_bin (Mine.r_sub ?_)); walk_at "l"; walk_at "i"; refine r_item ⋯ ⋯ rfl rfl ?_; refine Mine.r_sub ?_; walk_at "l"; walk_at "i"; refine r_item ⋯ ⋯ rfl rfl ?_; refine n_sub ?_; walk_at "d"; refine r_args0 ?_
  refine r_tuple ⋯ ?_
  intro d1 s2 S2 e2 f2
  obtain ⟨G2, le2, k1, S3⟩ := S2.addG' e2 (still_tup _) f2
  replace g1 := le2 _ _ g1; replace g2 := le2 _ _ g2; replace g3 := le2 _ _ g3; replace g4 := le2 _ _ g4
  clear S2 S1 e2 f2 H'
  refine r_args (r_tupleE (r_args (r_bin (Mine.r_sub ?_)))); walk_at "l"; walk_at "i"; refine r_item ⋯ ⋯ rfl rfl ?_; refine Mine.r_sub ?_; walk_at "l"; walk_at "i"; refine r_item ⋯ ⋯ rfl rfl ?_; refine n_sub ?_; walk_at "d"; refine r_args (r_bin (Mine.r_sub ?_)); walk_at "l"; walk_at "i"; refine r_item ⋯ ⋯ rfl rfl ?_; refine Mine.r_sub ?_; walk_at "l"; walk_at "i"; refine r_item ⋯ ⋯ rfl rfl ?_; refine n_sub ?_; walk_at "d"; refine r_args0 ?_
  refine r_tuple ⋯ ?_
  intro d2 s4 S4 e4 f4
  obtain ⟨G3, le3, k2, S5⟩ := S4.addG' e4 (still_tup _) f4
  replace g1 := le3 _ _ g1; replace g2 := le3 _ _ g2; replace g3 := le3 _ _ g3; replace g4 := le3 _ _ g4; replace k1 := le3 _ _ k1
  clear S4 e4 f4
  refine r_args (r_tupleE (r_args (r_bin (Mine.r_sub ?_)))); walk_at "l"; walk_at "i"; refine r_item ⋯ ⋯ rfl rfl ?_; refine Mine.r_sub ?_; walk_at "l"; walk_at "i"; refine r_item ⋯ ⋯ rfl rfl ?_; refine n_sub ?_; walk_at "d"; refine r_args (r_bin (Mine.r_sub ?_)); walk_at "l"; walk_at "i"; refine r_item ⋯ ⋯ rfl rfl ?_; refine Mine.r_sub ?_; walk_at "l"; walk_at "i"; refine r_item ⋯ ⋯ rfl rfl ?_; refine n_sub ?_; walk_at "d"; refine r_args0 ?_
  refine r_tuple ⋯ ?_
  intro d3 s6 S6 e6 f6
  obtain ⟨G4, le4, k3, S7⟩ := S6.addG' e6 (still_tup _) f6
  replace g1 := le4 _ _ g1; replace g2 := le4 _ _ g2; replace g3 := le4 _ _ g3; replace g4 := le4 _ _ g4; replace k1 := le4 _ _ k1; replace k2 := le4 _ _ k2
  clear S6 e6 f6
  have m1 := mulb (x := x2 - x1) (y := y4 - y3) (oq128 bx1 cx1 bx2 cx2) (oq128 by3 cy3 by4 cy4)
  have m2 := mulb (x := y2 - y1) (y := x4 - x3) (oq128 by1 cy1 by2 cy2) (oq128 bx3 cx3 bx4 cx4)
  refine r_args0 ?_; refine r_tuple ⋯ ?_; intro _ _ _ _ _; refine r_unpackN ⋯ (Rm.h ⋯) ⋯ ?_; intro _ _; refine r_inOrder (r_bindName ?_); walk_at "t"; refine r_inOrder (r_bindName ?_); walk_at "t"; refine r_inOrder (r_bindName ?_); walk_at "t"; refine r_inOrder0 ?_; walk_at "n"; refine r_assign (r_bin (r_bin (Mine.r_sub ?_))); walk_at "l"; walk_at "i"; refine r_item ⋯ ⋯ rfl rfl ?_; refine Mine.r_sub ?_; walk_at "l"; walk_at "i"; refine r_item ⋯ ⋯ rfl rfl ?_; refine n_mul (ok_l _ (oq129 bx1 cx1 bx2 cx2)) ?_; walk_at "d"; refine r_bin (Mine.r_sub ?_); walk_at "l"; walk_at "i"; refine r_item ⋯ ⋯ rfl rfl ?_; refine Mine.r_sub ?_; walk_at "l"; walk_at "i"; refine r_item ⋯ ⋯ rfl rfl ?_; refine n_mul (ok_l _ (oq129 by1 cy1 by2 cy2)) ?_; walk_at "d"; refine n_sub ?_; walk_at "d"; walk_at "t"; walk_at "n"; refine r_if (r_isCmp (r_bin ?_)); walk_at "i"; refine r_callB ⋯ ⋯ (b_abs _) bb_abs ?_; refine r_args ?_; walk_at "l"; refine r_args0 ?_; refine r_abs ⋯ ?_; intro _ _ _; refine n_mul (ok_l _ (by decide)) ?_; walk_at "d"; refine r_callB ⋯ ⋯ (b_abs _) bb_abs ?_; refine r_args (r_bin (r_bin (Mine.r_sub ?_))); walk_at "l"; walk_at "i"; refine r_item ⋯ ⋯ rfl rfl ?_; refine Mine.r_sub ?_; walk_at "l"; walk_at "i"; refine r_item ⋯ ⋯ rfl rfl ?_; refine n_mul (ok_l _ (oq129 bx1 cx1 bx2 cx2)) ?_; walk_at "d"; refine r_bin (Mine.r_sub ?_); walk_at "l"; walk_at "i"; refine r_item ⋯ ⋯ rfl rfl ?_; refine Mine.r_sub ?_; walk_at "l"; walk_at "i"; refine r_item ⋯ ⋯ rfl rfl ?_; refine n_mul (ok_l _ (oq129 by1 cy1 by2 cy2)) ?_; walk_at "d"; refine n_add ?_; walk_at "d"; refine r_args0 ?_; refine r_abs ⋯ ?_; intro _ _ _; refine r_gt (r_truthy ?_)
  refine br ?_ ?_
  · intro q
    have hturn : (x2 - x1) * (y4 - y3) - (y2 - y1) * (x4 - x3) ≠ 0 := by
      intro e
      rw [e] at q
      simp only [show ¬ ((0 : Int) < 0) by decide, if_false, Int.mul_zero] at q
      split at q <;> omega
    walk_at "c"; refine r_assign (r_bin (r_bin (Mine.r_sub ?_))); walk_at "l"; walk_at "i"; refine r_item ⋯ ⋯ rfl rfl ?_; refine Mine.r_sub ?_; walk_at "l"; walk_at "i"; refine r_item ⋯ ⋯ rfl rfl ?_; refine n_mul (ok_l _ (oq129 bx1 cx1 bx3 cx3)) ?_; walk_at "d"; refine r_bin (Mine.r_sub ?_); walk_at "l"; walk_at "i"; refine r_item ⋯ ⋯ rfl rfl ?_; refine Mine.r_sub ?_; walk_at "l"; walk_at "i"; refine r_item ⋯ ⋯ rfl rfl ?_; refine n_mul (ok_l _ (oq129 by1 cy1 by3 cy3)) ?_; walk_at "d"; refine n_sub ?_; walk_at "d"; walk_at "t"; walk_at "n"; refine r_ret (r_tupleE (r_args (r_bin (Mine.r_sub ?_)))); walk_at "l"; walk_at "i"; refine r_item ⋯ ⋯ rfl rfl ?_; refine r_callG ⋯ ⋯ (g_law_half _) (k_law_half _) ?_; refine r_args (r_bin ?_); walk_at "l"; refine Mine.r_sub ?_; walk_at "l"; walk_at "i"; refine r_item ⋯ ⋯ rfl rfl ?_; refine n_mul (ok_r _ (oq129 bx1 cx1 bx2 cx2)) ?_; walk_at "d"; refine r_args ?_; walk_at "l"; refine r_args0 ?_; walk_at "k"; refine sp_half ⋯ ⋯ (Rm.less ⋯) ⋯ (oq133 m1 m2) (oq134 m1 m2) ?_; intro _ _ _; refine n_add ?_; walk_at "d"; refine r_args (r_bin (Mine.r_sub ?_)); walk_at "l"; walk_at "i"; refine r_item ⋯ ⋯ rfl rfl ?_; refine r_callG ⋯ ⋯ (g_law_half _) (k_law_half _) ?_; refine r_args (r_bin ?_); walk_at "l"; refine Mine.r_sub ?_; walk_at "l"; walk_at "i"; refine r_item ⋯ ⋯ rfl rfl ?_; refine n_mul (ok_r _ (oq129 by1 cy1 by2 cy2)) ?_; walk_at "d"; refine r_args ?_; walk_at "l"; refine r_args0 ?_; walk_at "k"; refine sp_half ⋯ ⋯ (Rm.less ⋯) ⋯ (oq133 m1 m2) (oq134 m1 m2) ?_; intro _ _ _; refine n_add ?_; walk_at "d"; refine r_args0 ?_; refine r_tuple ⋯ ?_; intro _ _ _ _ _; refine nx_ret ⋯ ?_; clear Nc Qc; refine nx_ret ⋯ ?_; clear Nc Qc; dsimp only
    rename_i S8 e8 f8
    obtain ⟨G5, le5, k4, S9⟩ := S8.addG' e8 (still_tup _) f8
    try refine nx_ret ⋯ ?_
    refine k G5 _ _ (fun b p g => le5 _ _ (le4 _ _ (le3 _ _ (le2 _ _ g)))) ?_ (back _ _ _ _ _ S9.H S9.S)
    unfold crossL abz
    dsimp only
    rw [if_pos q]
    exact ⟨_, _, _, rfl, k4⟩
  · intro q
    refine r_nil ?_; walk_at "n"; refine r_ret (r_tupleE (r_args ?_)); refine r_callG ⋯ ⋯ (g_law_cut _) (k_law_cut _) ?_; refine r_args (r_bin (r_bin (r_bin (Mine.r_sub ?_)))); walk_at "l"; walk_at "i"; refine r_item ⋯ ⋯ rfl rfl ?_; refine Mine.r_sub ?_; walk_at "l"; walk_at "i"; refine r_item ⋯ ⋯ rfl rfl ?_; refine n_add ?_; walk_at "d"; refine Mine.r_sub ?_; walk_at "l"; walk_at "i"; refine r_item ⋯ ⋯ rfl rfl ?_; refine n_add ?_; walk_at "d"; refine Mine.r_sub ?_; walk_at "l"; walk_at "i"; refine r_item ⋯ ⋯ rfl rfl ?_; refine n_add ?_; walk_at "d"; refine r_args ?_; walk_at "i"; refine r_args0 ?_; walk_at "k"; refine sp_cut ⋯ ⋯ (Rm.less ⋯) (by decide) (oq131) (oq132) ?_; intro _ _ _; refine r_args ?_; refine r_callG ⋯ ⋯ (g_law_cut _) (k_law_cut _) ?_; refine r_args (r_bin (r_bin (r_bin (Mine.r_sub ?_)))); walk_at "l"; walk_at "i"; refine r_item ⋯ ⋯ rfl rfl ?_; refine Mine.r_sub ?_; walk_at "l"; walk_at "i"; refine r_item ⋯ ⋯ rfl rfl ?_; refine n_add ?_; walk_at "d"; refine Mine.r_sub ?_; walk_at "l"; walk_at "i"; refine r_item ⋯ ⋯ rfl rfl ?_; refine n_add ?_; walk_at "d"; refine Mine.r_sub ?_; walk_at "l"; walk_at "i"; refine r_item ⋯ ⋯ rfl rfl ?_; refine n_add ?_; walk_at "d"; refine r_args ?_; walk_at "i"; refine r_args0 ?_; walk_at "k"; refine sp_cut ⋯ ⋯ (Rm.less ⋯) (by decide) (oq131) (oq132) ?_; intro _ _ _; refine r_args0 ?_; refine r_tuple ⋯ ?_; intro _ _ _ _ _; refine nx_ret ⋯ ?_; clear Nc Qc; dsimp only
    rename_i S8 e8 f8
    obtain ⟨G5, le5, k4, S9⟩ := S8.addG' e8 (still_tup _) f8
    try refine nx_ret ⋯ ?_
    refine k G5 _ _ (fun b p g => le5 _ _ (le4 _ _ (le3 _ _ (le2 _ _ g)))) ?_ (back _ _ _ _ _ S9.H S9.S)
    unfold crossL abz
    dsimp only
    rw [if_neg q]
    exact ⟨_, _, _, rfl, k4⟩
end
noncomputable def Dt.sn (D : Dt) (ns : List Int) : Dt := { D with nums := ns }
noncomputable def Dt.sl (D : Dt) (l : Int) : Dt := { D with loop := l }
noncomputable def Dt.sr (D : Dt) (x y : Int) : Dt := { D with s0 := x, s1 := y }
noncomputable def Dt.sf (D : Dt) (p : Int × Int) : Dt := { D with fr := p }
open PySem.SeqAt in
section
variable {ad : Nat → Addr} {ob : Nat → Obj} {a : Addr} {k n : Nat} {v : Value} {i j : Int} {t u : Tok}
theorem r_isChain {l r1 r2 : Expr} {o1 o2 : CmpOp} {whole : Sem Value} {Q : Bool → Shared → Prop} (h : WP pw w A (eval l env) (fun a s₁ => WP pw w A (testChain pos a [o1, o2] [eval r1 env, eval r2 env]) Q E s₁) E s)
    (hm : lastMarks [o1, o2] [r1, r2] = false := by with_unfolding_all rfl) : WP pw w A (isTrue (.Compare l [o1, o2] [r1, r2] pos) env whole) Q E s := by
  delta WP at *; exact isTrue_chain h hm
theorem r_link {op op' : CmpOp} {r r' : Sem Value} {Q : Bool → Shared → Prop}
    (h : WP pw w A r (fun b s₁ => WP pw w A (compareOp op v b) (fun c s₂ => WP pw w A (truthy c) (fun t s₃ => if t then WP pw w A (testChain pos b [op'] [r']) Q E s₃ else Q false s₃) E s₂) E s₁) E s) :
    WP pw w A (testChain pos v [op, op'] [r, r']) Q E s := by
  delta WP at *; exact test_link h
theorem r_last {op : CmpOp} {r : Sem Value} {Q : Bool → Shared → Prop} (h : WP pw w A r (fun b s₁ => WP pw w A (compareOp op v b) (fun c s₂ => WP pw w A (truthy c) Q E s₂) E s₁) E s) : WP pw w A (testChain pos v [op] [r]) Q E s := by
  delta WP at *; exact test_last h
theorem r_le (h : Q (.bool (decide (i ≤ j))) s) : WP pw w A (compareOp .LtE (.int i t) (.int j u)) Q E s := by delta WP; exact le_int h
theorem r_notIn01 {t0 t1 : Tok} (hb : s.heap.get? b = some (tupO [.int 0 t0, .int 1 t1])) (hi : i = 0 ∨ i = 1) (h : Q (.bool false) s) : WP pw w A (compareOp .NotIn (.int i t) (.ref b)) Q E s := by
  delta WP
  refine notIn_tupleAt (fun y => match y with | .int m _ => m == i | _ => false) (isTup_of hb) (fun y hy => ?_) ?_
  · simp at hy
    rcases hy with rfl | rfl <;> exact EqAt.int_int _ _ _ _
  · rcases hi with rfl | rfl <;> simpa using h
theorem r_eqNil {vs : List Value} {l : Addr} (hl : s.heap.IsList l vs.toArray) (hb : s.heap.get? b = some (lstO [])) (hA : Rm A n) (hne : vs ≠ []) (h : Q (.bool false) s) : WP pw w A (compareOp .Eq (.ref l) (.ref b)) Q E s := by
  delta WP
  refine eq_list_lengthsAt hl (IsL.at hb (IsL.lst [])) ?_ hA.u h
  cases vs with
  | nil => exact absurd rfl hne
  | cons _ _ => rfl
end
noncomputable def ax (k : Int) (p : Int × Int) : Int := if k = 0 then p.1 else p.2
theorem mdv_one (x : Int) : mdv (x * 16384) 1 16384 = x := by
  unfold mdv; split <;> split <;> (try omega) <;> (rw [Int.fdiv_eq_ediv_of_nonneg _ (by decide)]; omega)
theorem ax_dot (k x y : Int) : mdv (x * (axv k).1 + y * (axv k).2) 1 16384 = ax k (x, y) := by
  unfold ax axv
  split
  · simp only [Int.mul_zero, Int.add_zero]; exact mdv_one x
  · simp only [Int.mul_zero, Int.zero_add]; exact mdv_one y
noncomputable def Kp (us : Nat → Prop) (ad : Nat → Addr) (ob : Nat → Obj) (ad' : Nat → Addr) (ob' : Nat → Obj) : Prop := ∀ k, us k → 80 ≤ k → ad' k = ad k ∧ ob' k = ob k
theorem Kp.refl (us : Nat → Prop) (ad : Nat → Addr) (ob : Nat → Obj) : Kp us ad ob ad ob := fun _ _ _ => ⟨rfl, rfl⟩
theorem Kp.trans {us : Nat → Prop} {ad ad1 ad2 : Nat → Addr} {ob ob1 ob2 : Nat → Obj} (h1 : Kp us ad ob ad1 ob1) (h2 : Kp us ad1 ob1 ad2 ob2) : Kp us ad ob ad2 ob2 := fun k u l => ⟨(h2 k u l).1.trans (h1 k u l).1, (h2 k u l).2.trans (h1 k u l).2⟩
theorem Kp.ob {us : Nat → Prop} {ad : Nat → Addr} {ob : Nat → Obj} {j : Nat} {o : Obj} (h : j < 80) : Kp us ad ob ad (up ob j o) := fun k u l => ⟨rfl, up_other _ _ (oq135 h l)⟩
section
variable {ad : Nat → Addr} {ob : Nat → Obj} {a : Adr}
theorem sp_projected {x y : Int} {t1 t2 : Tok} (C : Cx w B) (S : St B L loc Z G ad ob us s₀ s) (R : Rel D a G ad ob) (hu : ∀ k, US k → us k) (hA : Rm A 3)
   (k : ∀ t s', St B L loc Z G ad ob us s₀ s' → Q (.int (ax D.k (x, y)) t) s') : WP pw w A (call (.ref 257) [.ref a.s, .int x t1, .int y t2]) Q E s := by
  obtain ⟨Z', H', back⟩ := S.lend
  refine r_call [("self", .ref a.s), ("dx", .int x t1), ("dy", .int y t2)] C H' hA rfl rfl (BindsTo.of_eq rfl) (locs rfl) ?_
  intro A1 L1 s1 hA1 S1
  walk_at "c"; refine r_ret ?_; refine r_callG ⋯ ⋯ (g_dot14 _) (k_dot14 _) ?_; refine r_args ?_; walk_at "l"; refine r_args ?_; walk_at "l"; refine r_args (r_attrN ?_); walk_at "l"; refine x_pr ⋯ ⋯ ⋯ ⋯ ?_; intro _ _ _ _; refine r_args0 ?_; walk_at "k"; refine' sp_dot14 ⋯ ⋯ (Rm.less ⋯) ⋯ (vec_axv _) ?_; intro _ _ _; refine nx_ret ⋯ ?_; clear Nc Qc; dsimp only
  rw [ax_dot]
  try refine nx_ret ⋯ ?_
  exact k _ _ (back _ _ _ _ _ (St.H ⋯) (St.S ⋯))
theorem sp_dual_projected {x y : Int} {t1 t2 : Tok} (C : Cx w B) (S : St B L loc Z G ad ob us s₀ s) (R : Rel D a G ad ob) (hu : ∀ k, US k → us k) (hA : Rm A 3)
   (k : ∀ t s', St B L loc Z G ad ob us s₀ s' → Q (.int (ax D.k (x, y)) t) s') : WP pw w A (call (.ref 264) [.ref a.s, .int x t1, .int y t2]) Q E s := by
  obtain ⟨Z', H', back⟩ := S.lend
  refine r_call [("self", .ref a.s), ("dx", .int x t1), ("dy", .int y t2)] C H' hA rfl rfl (BindsTo.of_eq rfl) (locs rfl) ?_
  intro A1 L1 s1 hA1 S1
  walk_at "c"; refine r_ret ?_; refine r_callG ⋯ ⋯ (g_dot14 _) (k_dot14 _) ?_; refine r_args ?_; walk_at "l"; refine r_args ?_; walk_at "l"; refine r_args (r_attrN ?_); walk_at "l"; refine x_du ⋯ ⋯ ⋯ ⋯ ?_; intro _ _ _ _; refine r_args0 ?_; walk_at "k"; refine' sp_dot14 ⋯ ⋯ (Rm.less ⋯) ⋯ (vec_axv _) ?_; intro _ _ _; refine nx_ret ⋯ ?_; clear Nc Qc; dsimp only
  rw [ax_dot]
  try refine nx_ret ⋯ ?_
  exact k _ _ (back _ _ _ _ _ (St.H ⋯) (St.S ⋯))
end
theorem br_t {c : Prop} [Decidable c] {P R : Prop} (hc : c) (h : P) : if decide c = true then P else R := by rw [if_pos (decide_eq_true hc)]; exact h
theorem br_f {c : Prop} [Decidable c] {P R : Prop} (hc : ¬ c) (h : R) : if decide c = true then P else R := by rw [if_neg (by rw [decide_eq_false hc]; exact Bool.false_ne_true)]; exact h
theorem itt {P R : Prop} (h : P) : if true = true then P else R := by rw [if_pos rfl]; exact h
theorem itf {P R : Prop} (h : R) : if false = true then P else R := by rw [if_neg Bool.false_ne_true]; exact h
theorem inf {P R : Prop} (h : P) : if (!false) = true then P else R := by rw [if_pos (by decide)]; exact h
theorem int {P R : Prop} (h : R) : if (!true) = true then P else R := by rw [if_neg (by decide)]; exact h
theorem ind_t {c : Prop} [Decidable c] {P R : Prop} (hc : c) (h : R) : if (!decide c) = true then P else R := by rw [decide_eq_true hc]; exact int h
theorem beq_t {i j : Int} {P R : Prop} (hc : i = j) (h : P) : if (i == j) = true then P else R := by rw [if_pos (beq_iff_eq.mpr hc)]; exact h
theorem beq_f {i j : Int} {P R : Prop} (hc : ¬ i = j) (h : R) : if (i == j) = true then P else R := by rw [if_neg (fun z => hc (beq_iff_eq.mp z))]; exact h
theorem bne_t {i j : Int} {P R : Prop} (hc : ¬ i = j) (h : P) : if (i != j) = true then P else R := by rw [if_pos (by simpa using hc)]; exact h
theorem bne_f {i j : Int} {P R : Prop} (hc : i = j) (h : R) : if (i != j) = true then P else R := by rw [if_neg (by simpa using hc)]; exact h
section
variable {ad : Nat → Addr} {ob : Nat → Obj} {a : Adr} {i : Nat} {n : Int} {u : Tok}
theorem x_p0 {v : Value} {p : Int × Int} (S : St B L loc Z G ad ob us s₀ s) (hp : IsPt G v p) (h : ∀ t, Q (.int p.1 t) s) (hs : ∀ a, subscripted slice false (.ref a) (.int 0 u) = operate [.ref a, .int 0 u] (getItem (.ref a) (.int 0 u)) := by intro _; with_unfolding_all rfl) : WP pw w A (subscriptTail value slice v (.int 0 u)) Q E s := by
  obtain ⟨b, t1, t2, rfl, g⟩ := hp
  exact r_item (j := 0) S g rfl rfl (h t1) (by decide) (by decide) (hs _)
theorem x_p1 {v : Value} {p : Int × Int} (S : St B L loc Z G ad ob us s₀ s) (hp : IsPt G v p) (h : ∀ t, Q (.int p.2 t) s) (hs : ∀ a, subscripted slice false (.ref a) (.int 1 u) = operate [.ref a, .int 1 u] (getItem (.ref a) (.int 1 u)) := by intro _; with_unfolding_all rfl) : WP pw w A (subscriptTail value slice v (.int 1 u)) Q E s := by
  obtain ⟨b, t1, t2, rfl, g⟩ := hp
  exact r_item (j := 1) S g rfl rfl (h t2) (by decide) (by decide) (hs _)
end
section
variable {ad : Nat → Addr} {ob : Nat → Obj} {a : Adr} {i : Nat} {n : Int} {u : Tok}
theorem dot_axv (k : Int) : mdv ((axv k).1 * (axv k).1 + (axv k).2 * (axv k).2) 1 16384 = 16384 := by
  unfold axv; split <;> decide
theorem sp_free_dot (C : Cx w B) (S : St B L loc Z G ad ob us s₀ s) (R : Rel D a G ad ob) (hu : ∀ k, US k → us k) (hA : Rm A 3) (hf : D.fr = axv D.k)
   (k : ∀ t s', St B L loc Z G ad ob us s₀ s' → Q (.int 16384 t) s') : WP pw w A (call (.ref 250) [.ref a.s]) Q E s := by
  obtain ⟨Z', H', back⟩ := S.lend
  refine r_call [("self", .ref a.s)] C H' hA rfl rfl (BindsTo.of_eq rfl) (locs rfl) ?_
  intro A1 L1 s1 hA1 S1
  walk_at "c"; refine r_assign ?_; refine r_callG ⋯ ⋯ (g_dot14 _) (k_dot14 _) ?_; refine r_args (Mine.r_sub (r_attrN ?_)); walk_at "l"; refine x_fr ⋯ ⋯ ⋯ ⋯ ?_; intro _ _ _ _; walk_at "i"; refine x_p0 ⋯ ⋯ ?_; intro _; refine r_args (Mine.r_sub (r_attrN ?_)); walk_at "l"; refine x_fr ⋯ ⋯ ⋯ ⋯ ?_; intro _ _ _ _; walk_at "i"; refine x_p1 ⋯ ⋯ ?_; intro _; refine r_args (r_attrN ?_); walk_at "l"; refine x_pr ⋯ ⋯ ⋯ ⋯ ?_; intro _ _ _ _; refine r_args0 ?_; walk_at "k"; refine' sp_dot14 ⋯ ⋯ (Rm.less ⋯) ⋯ (vec_axv _) ?_; intro _ _ _
  rw [hf, dot_axv]
  walk_at "t"; walk_at "n"; refine r_ret (r_ifexp ?_); refine r_isChain ?_; refine r_bin ?_; walk_at "i"; refine r_glob ⋯ ⋯ (g_LEAST_DOT _) ?_; refine n_sub ?_; walk_at "d"; refine r_link ?_; walk_at "l"; refine r_lt (r_truthy ?_); refine br_t (oq568) ?_; refine r_last ?_; refine r_glob ⋯ ⋯ (g_LEAST_DOT _) ?_; refine r_lt (r_truthy ?_); refine br_f (by decide) ?_; walk_at "l"; refine nx_ret ⋯ ?_; clear Nc Qc; dsimp only
  exact k _ _ (back _ _ _ _ _ (St.H ⋯) (St.S ⋯))
theorem sp_check {t : Tok} (C : Cx w B) (S : St B L loc Z G ad ob us s₀ s) (R : Rel D a G ad ob) (hu : ∀ k, US k → us k) (hA : Rm A 1) (hi : i < 2) (hn : 0 ≤ n ∧ n < nq i)
   (k : ∀ s', St B L loc Z G ad ob us s₀ s' → Q (.int n t) s') : WP pw w A (call (.ref 413) [.ref (a.z i), .int n t]) Q E s := by
  obtain ⟨Z', H', back⟩ := S.lend
  refine r_call [("self", .ref (a.z i)), ("i", .int n t)] C H' hA rfl rfl (BindsTo.of_eq rfl) (locs rfl) ?_
  intro A1 L1 s1 hA1 S1
  walk_at "c"; refine r_if (r_isNot ?_); refine r_isChain ?_; walk_at "i"; refine r_link ?_; walk_at "l"; refine r_le (r_truthy ?_); refine br_t (oq569 hn) ?_; refine r_last ?_; refine r_callB ⋯ ⋯ (b_len _) bb_len ?_; refine r_args (r_attrN ?_); walk_at "l"; refine x_zc ⋯ ⋯ ⋯ ⋯ ⋯ ?_; intro _ _; refine r_args0 ?_
  obtain ⟨vs, hl, h2⟩ := (R.q i (oq104 hi)).c
  have h6 := nq_le i
  have hlen : vs.length = nq i := h2.length.trans (R.q i (oq104 hi)).lc
  refine r_lenK ⋯ (hu _ (us_q (c := 1) (oq104 hi) (oq105))) hl (oq106 h6 hlen) ?_
  intro t1 s2 S2
  rw [hlen]
  refine r_lt (r_truthy ?_); refine ind_t (oq570 hn) ?_; refine r_nil ?_; walk_at "n"; refine r_ret ?_; walk_at "l"; refine nx_ret ⋯ ?_; clear Nc Qc; dsimp only
  exact k _ (back _ _ _ _ _ (St.H ⋯) (St.S ⋯))
theorem sp_zone {t : Tok} (C : Cx w B) (S : St B L loc Z G ad ob us s₀ s) (R : Rel D a G ad ob) (hu : ∀ k, US k → us k) (hA : Rm A 1) (hn : n = 0 ∨ n = 1)
   (k : ∀ s', St B L loc Z G ad ob us s₀ s' → Q (.ref (a.z n.toNat)) s') : WP pw w A (call (.ref 357) [.ref a.w, .int n t]) Q E s := by
  obtain ⟨Z', H', back⟩ := S.lend
  refine r_call [("self", .ref a.w), ("number", .int n t)] C H' hA rfl rfl (BindsTo.of_eq rfl) (locs rfl) ?_
  intro A1 L1 s1 hA1 S1
  walk_at "c"; refine r_if (r_isCmp ?_); walk_at "l"; refine r_tupleE (r_args ?_); walk_at "i"; refine r_args ?_; walk_at "i"; refine r_args0 ?_; refine r_tuple ⋯ ?_; intro _ _ _ _ _
  refine r_notIn01 ⋯ hn ?_
  refine r_truthy ?_; refine itf ?_; refine r_nil ?_; walk_at "n"; refine r_ret (Mine.r_sub (r_attrN ?_)); walk_at "l"; refine x_wzs ⋯ ⋯ ⋯ ⋯ ?_; intro _ _; walk_at "l"; refine x_zs ⋯ ⋯ ⋯ ?_; refine nx_ret ⋯ ?_; clear Nc Qc; dsimp only
  exact k _ (back _ _ _ _ _ (St.H ⋯) (St.S ⋯))
theorem sp_next_loop (C : Cx w B) (S : St B L loc Z G ad ob us s₀ s) (R : Rel D a G ad ob) (hu : ∀ k, US k → us k) (hA : Rm A 1)
   (k : ∀ t o s', St B L loc Z G ad (up ob 0 o) us s₀ s' → Rel (D.sl 1) a G ad (up ob 0 o) → Q (.int D.loop t) s') : WP pw w A (call (.ref 378) [.ref a.w]) Q E s := by
  obtain ⟨Z', H', back⟩ := S.lend
  refine r_call [("self", .ref a.w)] C H' hA rfl rfl (BindsTo.of_eq rfl) (locs rfl) ?_
  intro A1 L1 s1 hA1 S1
  walk_at "c"; refine r_assign (r_attr (r_attrN ?_)); walk_at "l"; refine x_wst ⋯ ⋯ ⋯ ⋯ ?_; intro _ _; refine x_loop ⋯ ⋯ ⋯ ⋯ ?_; intro _ _ _; walk_at "t"; walk_at "n"; refine r_assignA ?_; walk_at "i"; refine r_attrN ?_; walk_at "l"; refine x_wst ⋯ ⋯ ⋯ ⋯ ?_; intro _ _
  refine y_loop ⋯ ⋯ ⋯ ⋯ ?_
  intro o s2 S2 R2
  walk_at "n"; refine r_ret ?_; walk_at "l"; refine nx_ret ⋯ ?_; clear Nc Qc; dsimp only
  exact k _ _ _ (back _ _ _ _ _ (St.H ⋯) (St.S ⋯)) R2
theorem sp_push {t : Tok} (C : Cx w B) (S : St B L loc Z G ad ob us s₀ s) (R : Rel D a G ad ob) (hu : ∀ k, US k → us k) (hA : Rm A 1) (hn : D.nums.length < 64)
   (k : ∀ o s', St B L loc Z G ad (up ob 2 o) us s₀ s' → Rel (D.sn (D.nums ++ [n])) a G ad (up ob 2 o) → Q .none s') : WP pw w A (call (.ref 299) [.ref a.k, .int n t]) Q E s := by
  obtain ⟨Z', H', back⟩ := S.lend
  refine r_call [("self", .ref a.k), ("number", .int n t)] C H' hA rfl rfl (BindsTo.of_eq rfl) (locs rfl) ?_
  intro A1 L1 s1 hA1 S1
  obtain ⟨vs, d, e2, h2⟩ := R.nm
  have hlen := h2.length
  walk_at "c"; refine r_if (r_isCmp ?_); refine r_callB ⋯ ⋯ (b_len _) bb_len ?_; refine r_args (r_attrN ?_); walk_at "l"; refine x_nums ⋯ ⋯ ⋯ ⋯ ?_; intro _ _; refine r_args0 ?_
  refine r_lenK ⋯ (hu 2 us_l) (vs := vs) (by rw [e2]; exact ⟨rfl, _, rfl⟩) (oq571 hn hlen) ?_
  intro t1 s2 S2
  refine r_attrN ?_; walk_at "l"; refine x_most ⋯ ⋯ ⋯ ⋯ ?_; intro _ _ _; refine r_ge (r_truthy ?_); refine br_f (oq572 hn hlen) ?_; refine r_nil ?_; walk_at "n"; refine r_expr ?_; refine r_callM (pl := pure false) ?_; refine r_attrN ?_; walk_at "l"; refine x_nums ⋯ ⋯ ⋯ ⋯ ?_; intro _ _
  refine r_lmeth ⋯ (hu 2 us_l) e2 PySem.F.slot_list_append rfl ?_
  refine r_cwB ?_; refine r_args ?_; walk_at "l"; refine r_args0 ?_; dsimp only
  refine r_append ⋯ (hu 2 us_l) e2 (oq573 hn hlen) ?_
  intro s3 S3
  walk_at "e"; refine r_nil ?_; dsimp only
  exact k _ _ (back _ _ _ _ _ (St.H ⋯) (St.S ⋯)) (R.uNums (h2.append (.cons ⟨_, rfl⟩ .nil)))
theorem sp_pop {ns : List Int} (C : Cx w B) (S : St B L loc Z G ad ob us s₀ s) (R : Rel D a G ad ob) (hu : ∀ k, US k → us k) (hA : Rm A 1) (hn : D.nums = ns ++ [n]) (hl : ns.length < 64)
   (k : ∀ t o s', St B L loc Z G ad (up ob 2 o) us s₀ s' → Rel (D.sn ns) a G ad (up ob 2 o) → Q (.int n t) s') : WP pw w A (call (.ref 306) [.ref a.k]) Q E s := by
  obtain ⟨Z', H', back⟩ := S.lend
  refine r_call [("self", .ref a.k)] C H' hA rfl rfl (BindsTo.of_eq rfl) (locs rfl) ?_
  intro A1 L1 s1 hA1 S1
  obtain ⟨vs, d, e2, h2⟩ := R.nm
  rw [hn] at h2
  obtain ⟨vs', v, rfl, h3, t, rfl⟩ := h2.snoc
  have hlen := h3.length
  walk_at "c"; refine r_if (r_isCmp (r_attrN ?_)); walk_at "l"; refine x_nums ⋯ ⋯ ⋯ ⋯ ?_; intro _ _; refine r_listE (r_args0 ?_); refine r_list ⋯ ?_; intro _ _ _ _ _
  rename_i b s2 S2 hb N
  have hL := S2.H.own 2 (hu 2 us_l)
  rw [e2] at hL
  refine r_eqNil (vs := vs' ++ [.int n t]) ⟨_, hL, rfl, _, rfl⟩ hb hA1 (by simp) ?_
  refine r_truthy ?_; refine itf ?_; refine r_nil ?_; walk_at "n"; refine r_ret ?_; refine r_callM (pl := pure false) ?_; refine r_attrN ?_; walk_at "l"; refine x_nums ⋯ ⋯ ⋯ ⋯ ?_; intro _ _
  refine r_lmeth ⋯ (hu 2 us_l) e2 PySem.F.slot_list_pop rfl ?_
  refine r_cwB0 ?_; dsimp only
  refine r_pop ⋯ (hu 2 us_l) e2 (oq573 hl hlen) ?_
  intro s3 S3
  refine nx_ret ⋯ ?_; clear Nc Qc; dsimp only
  exact k _ _ _ (back _ _ _ _ _ (St.H ⋯) (St.S ⋯)) (R.uNums h3)
end
noncomputable def mvp (k d : Int) (p : Int × Int) : Int × Int := if k = 0 then (p.1 + d, p.2) else (p.1, p.2 + d)
noncomputable def tch (k : Int) (b : Bool) (p : Bool × Bool) : Bool × Bool := if k = 0 then (b, p.2) else (p.1, b)
noncomputable def ZD.o (z : ZD) (n : Int) : Int × Int := z.orig.getD n.toNat (0, 0)
noncomputable def ZD.c (z : ZD) (n : Int) : Int × Int := z.cur.getD n.toNat (0, 0)
noncomputable def ZD.t (z : ZD) (n : Int) : Bool × Bool := z.tou.getD n.toNat (false, false)
noncomputable def ZD.v (z : ZD) (n : Int) : Bool := z.on.getD n.toNat false
noncomputable def ZD.so (z : ZD) (n : Int) (p : Int × Int) : ZD := { z with orig := z.orig.set n.toNat p }
noncomputable def ZD.sc (z : ZD) (n : Int) (p : Int × Int) : ZD := { z with cur := z.cur.set n.toNat p }
noncomputable def ZD.st (z : ZD) (n : Int) (p : Bool × Bool) : ZD := { z with tou := z.tou.set n.toNat p }
noncomputable def ZD.sv (z : ZD) (n : Int) (p : Bool) : ZD := { z with on := z.on.set n.toNat p }
noncomputable def ZD.mv (z : ZD) (k n d : Int) : ZD := (z.sc n (mvp k d (z.c n))).st n (tch k true (z.t n))
noncomputable def Dt.sq (D : Dt) (i : Nat) (z : ZD) : Dt := { D with q := up D.q i z }
theorem getD_of {α : Type} {l : List α} {n : Int} {m : Nat} {x : α} (hl : l.length = m) (hn : 0 ≤ n ∧ n < m) : l[n.toNat]? = some (l.getD n.toNat x) := by
  have h : n.toNat < l.length := oq121 hl hn
  rw [List.getD_eq_getElem?_getD, List.getElem?_eq_getElem h]; rfl
theorem mdv_full (d : Int) : mdv d 16384 16384 = d := by
  have := mdv_one d
  unfold mdv at *
  simpa using this
theorem mdv_none (d : Int) : mdv d 0 16384 = 0 := by
  unfold mdv; simp
noncomputable def svp (k d : Int) : Int × Int := if k = 0 then (d, 0) else (0, d)
theorem nq_ge (i : Nat) : 3 ≤ nq i := by unfold nq; split <;> omega
section
variable {ad : Nat → Addr} {ob : Nat → Obj} {a : Adr} {i : Nat} {n : Int} {u : Tok} {v : Value} {q : Int × Int}
theorem X_c (S : St B L loc Z G ad ob us s₀ s) (R : Rel D a G ad ob) (hu : ∀ k, US k → us k) (hi : i < 4) (hn : 0 ≤ n ∧ n < nq i) (h : ∀ v, IsPt G v ((D.q i).c n) → Q v s) (hs : subscripted slice false (.ref (ad (16 * i + 17))) (.int n u) = operate [.ref (ad (16 * i + 17)), .int n u] (getItem (.ref (ad (16 * i + 17))) (.int n u)) := by with_unfolding_all rfl) : WP pw w A (subscriptTail value slice (.ref (ad (16 * i + 17))) (.int n u)) Q E s :=
  x_c S R hu hi hn.1 (getD_of (R.q i hi).lc hn) h hs
theorem X_o (S : St B L loc Z G ad ob us s₀ s) (R : Rel D a G ad ob) (hu : ∀ k, US k → us k) (hi : i < 4) (hn : 0 ≤ n ∧ n < nq i) (h : ∀ v, IsPt G v ((D.q i).o n) → Q v s) (hs : subscripted slice false (.ref (ad (16 * i + 16))) (.int n u) = operate [.ref (ad (16 * i + 16)), .int n u] (getItem (.ref (ad (16 * i + 16))) (.int n u)) := by with_unfolding_all rfl) : WP pw w A (subscriptTail value slice (.ref (ad (16 * i + 16))) (.int n u)) Q E s :=
  x_o S R hu hi hn.1 (getD_of (R.q i hi).lo hn) h hs
theorem X_n (S : St B L loc Z G ad ob us s₀ s) (R : Rel D a G ad ob) (hu : ∀ k, US k → us k) (hi : i < 4) (hn : 0 ≤ n ∧ n < nq i) (h : Q (.bool ((D.q i).v n)) s) (hs : subscripted slice false (.ref (ad (16 * i + 19))) (.int n u) = operate [.ref (ad (16 * i + 19)), .int n u] (getItem (.ref (ad (16 * i + 19))) (.int n u)) := by with_unfolding_all rfl) : WP pw w A (subscriptTail value slice (.ref (ad (16 * i + 19))) (.int n u)) Q E s :=
  x_n S R hu hi hn.1 (getD_of (R.q i hi).ln hn) h hs
theorem X_t (S : St B L loc Z G ad ob us s₀ s) (R : Rel D a G ad ob) (hu : ∀ k, US k → us k) (hi : i < 4) (hn : 0 ≤ n ∧ n < nq i) (h : Q (.ref (ad (16 * i + 20 + n.toNat))) s) (hs : subscripted slice false (.ref (ad (16 * i + 18))) (.int n u) = operate [.ref (ad (16 * i + 18)), .int n u] (getItem (.ref (ad (16 * i + 18))) (.int n u)) := by with_unfolding_all rfl) : WP pw w A (subscriptTail value slice (.ref (ad (16 * i + 18))) (.int n u)) Q E s :=
  x_t S R hu hi ⟨hn.1, by exact oq69 hn⟩ h hs
theorem Y_o {Q : Unit → Shared → Prop} (S : St B L loc Z G ad ob us s₀ s) (R : Rel D a G ad ob) (hu : ∀ k, US k → us k) (hi : i < 4) (hn : 0 ≤ n ∧ n < nq i) (hp : IsPt G v p)
    (h : ∀ o s', St B L loc Z G ad (up ob (16 * i + 16) o) us s₀ s' → Rel (D.sq i ((D.q i).so n p)) a G ad (up ob (16 * i + 16) o) → Q () s') : WP pw w A (setItem (.ref (ad (16 * i + 16))) (.int n u) v) Q E s := y_o S R hu hi ⟨hn.1, by exact oq69 hn⟩ hp h
theorem Y_c {Q : Unit → Shared → Prop} (S : St B L loc Z G ad ob us s₀ s) (R : Rel D a G ad ob) (hu : ∀ k, US k → us k) (hi : i < 4) (hn : 0 ≤ n ∧ n < nq i) (hp : IsPt G v p)
    (h : ∀ o s', St B L loc Z G ad (up ob (16 * i + 17) o) us s₀ s' → Rel (D.sq i ((D.q i).sc n p)) a G ad (up ob (16 * i + 17) o) → Q () s') : WP pw w A (setItem (.ref (ad (16 * i + 17))) (.int n u) v) Q E s := y_c S R hu hi ⟨hn.1, by exact oq69 hn⟩ hp h
theorem Y_n {Q : Unit → Shared → Prop} {b : Bool} (S : St B L loc Z G ad ob us s₀ s) (R : Rel D a G ad ob) (hu : ∀ k, US k → us k) (hi : i < 4) (hn : 0 ≤ n ∧ n < nq i)
    (h : ∀ o s', St B L loc Z G ad (up ob (16 * i + 19) o) us s₀ s' → Rel (D.sq i ((D.q i).sv n b)) a G ad (up ob (16 * i + 19) o) → Q () s') : WP pw w A (setItem (.ref (ad (16 * i + 19))) (.int n u) (.bool b)) Q E s := y_n S R hu hi ⟨hn.1, by exact oq69 hn⟩ h
theorem Y_m {Q : Unit → Shared → Prop} {b : Bool} {c : Int} (S : St B L loc Z G ad ob us s₀ s) (R : Rel D a G ad ob) (hu : ∀ k, US k → us k) (hi : i < 4) (hn : 0 ≤ n ∧ n < nq i) (hc : c = 0 ∨ c = 1)
    (h : ∀ o s', St B L loc Z G ad (up ob (16 * i + 20 + n.toNat) o) us s₀ s' → Rel (D.sq i ((D.q i).st n (tch c b ((D.q i).t n)))) a G ad (up ob (16 * i + 20 + n.toNat) o) → Q () s') : WP pw w A (setItem (.ref (ad (16 * i + 20 + n.toNat))) (.int c u) (.bool b)) Q E s :=
  y_m S R hu hi (getD_of (R.q i hi).lt hn) hc h
theorem Y_t {Q : Unit → Shared → Prop} {p : Bool × Bool} {b : Addr} (S : St B L loc Z G ad ob us s₀ s) (R : Rel D a G ad ob) (hu : ∀ k, US k → us k) (hi : i < 4) (hn : 0 ≤ n ∧ n < nq i) (hb : s.heap.get? b = some (lstO [.bool p.1, .bool p.2])) (hN : New Z G ad us L b)
    (h : ∀ ad' ob' s', Kp us ad ob ad' ob' → St B L loc Z G ad' ob' us s₀ s' → Rel (D.sq i ((D.q i).st n p)) a G ad' ob' → Q () s') : WP pw w A (setItem (.ref (ad (16 * i + 18))) (.int n u) (.ref b)) Q E s := by
  have h6 := nq_le i
  refine y_t S R hu hi ⟨hn.1, by exact oq69 hn⟩ hb hN fun o s' S' R' => h _ _ s' ?_ S' R'
  exact fun k u l => ⟨up_other _ _ (oq122 hi hn h6 l), by rw [up_other _ _ (oq123 hi l), up_other _ _ (oq122 hi hn h6 l)]⟩
end
section
variable {ad : Nat → Addr} {ob : Nat → Obj} {a : Adr} {i : Nat} {n : Int} {u : Tok} {v : Value}
theorem sp_measured (C : Cx w B) (S : St B L loc Z G ad ob us s₀ s) (R : Rel D a G ad ob) (hu : ∀ k, US k → us k) (hA : Rm A 4) (h1 : IsPt G v p) (h2 : IsPt G v2 p2)
   (k : ∀ t s', St B L loc Z G ad ob us s₀ s' → Q (.int (ax D.k (p.1 - p2.1, p.2 - p2.2)) t) s') : WP pw w A (call (.ref 56) [.ref a.s, v, v2]) Q E s := by
  obtain ⟨Z', H', back⟩ := S.lend
  refine r_call [("state", .ref a.s), ("one", v), ("other", v2)] C H' hA rfl rfl (BindsTo.of_eq rfl) (locs rfl) ?_
  intro A1 L1 s1 hA1 S1
  walk_at "c"; refine r_ret (r_callM ?_); walk_at "l"; refine x_m_projected ⋯ ⋯ ⋯ ⋯ ?_; refine r_cwK ⋯ ⋯ (m_S_projected _).kp ?_; refine r_args (r_bin (Mine.r_sub ?_)); walk_at "l"; walk_at "i"; refine x_p0 ⋯ ⋯ ?_; intro _; refine Mine.r_sub ?_; walk_at "l"; walk_at "i"; refine x_p0 ⋯ ⋯ ?_; intro _; refine n_sub ?_; walk_at "d"; refine r_args (r_bin (Mine.r_sub ?_)); walk_at "l"; walk_at "i"; refine x_p1 ⋯ ⋯ ?_; intro _; refine Mine.r_sub ?_; walk_at "l"; walk_at "i"; refine x_p1 ⋯ ⋯ ?_; intro _; refine n_sub ?_; walk_at "d"; refine r_args0 ?_; walk_at "k"; refine sp_projected ⋯ ⋯ ⋯ ⋯ (Rm.less ⋯) ?_; intro _ _ _; refine nx_ret ⋯ ?_; clear Nc Qc; dsimp only
  exact k _ _ (back _ _ _ _ _ (St.H ⋯) (St.S ⋯))
theorem sp_dual_measured (C : Cx w B) (S : St B L loc Z G ad ob us s₀ s) (R : Rel D a G ad ob) (hu : ∀ k, US k → us k) (hA : Rm A 4) (h1 : IsPt G v p) (h2 : IsPt G v2 p2)
   (k : ∀ t s', St B L loc Z G ad ob us s₀ s' → Q (.int (ax D.k (p.1 - p2.1, p.2 - p2.2)) t) s') : WP pw w A (call (.ref 63) [.ref a.s, v, v2]) Q E s := by
  obtain ⟨Z', H', back⟩ := S.lend
  refine r_call [("state", .ref a.s), ("one", v), ("other", v2)] C H' hA rfl rfl (BindsTo.of_eq rfl) (locs rfl) ?_
  intro A1 L1 s1 hA1 S1
  walk_at "c"; refine r_ret (r_callM ?_); walk_at "l"; refine x_m_dual_projected ⋯ ⋯ ⋯ ⋯ ?_; refine r_cwK ⋯ ⋯ (m_S_dual_projected _).kp ?_; refine r_args (r_bin (Mine.r_sub ?_)); walk_at "l"; walk_at "i"; refine x_p0 ⋯ ⋯ ?_; intro _; refine Mine.r_sub ?_; walk_at "l"; walk_at "i"; refine x_p0 ⋯ ⋯ ?_; intro _; refine n_sub ?_; walk_at "d"; refine r_args (r_bin (Mine.r_sub ?_)); walk_at "l"; walk_at "i"; refine x_p1 ⋯ ⋯ ?_; intro _; refine Mine.r_sub ?_; walk_at "l"; walk_at "i"; refine x_p1 ⋯ ⋯ ?_; intro _; refine n_sub ?_; walk_at "d"; refine r_args0 ?_; walk_at "k"; refine sp_dual_projected ⋯ ⋯ ⋯ ⋯ (Rm.less ⋯) ?_; intro _ _ _; refine nx_ret ⋯ ?_; clear Nc Qc; dsimp only
  exact k _ _ (back _ _ _ _ _ (St.H ⋯) (St.S ⋯))
theorem sp_place_of {t : Tok} (C : Cx w B) (S : St B L loc Z G ad ob us s₀ s) (R : Rel D a G ad ob) (hu : ∀ k, US k → us k) (hA : Rm A 4) (hi : i < 2) (hn : 0 ≤ n ∧ n < nq i)
   (k : ∀ t s', St B L loc Z G ad ob us s₀ s' → Q (.int (ax D.k ((D.q i).c n)) t) s') : WP pw w A (call (.ref 70) [.ref a.s, .ref (a.z i), .int n t]) Q E s := by
  obtain ⟨Z', H', back⟩ := S.lend
  refine r_call [("state", .ref a.s), ("zone", .ref (a.z i)), ("i", .int n t)] C H' hA rfl rfl (BindsTo.of_eq rfl) (locs rfl) ?_
  intro A1 L1 s1 hA1 S1
  walk_at "c"; refine r_ret (r_callM ?_); walk_at "l"; refine x_m_projected ⋯ ⋯ ⋯ ⋯ ?_; refine r_cwK ⋯ ⋯ (m_S_projected _).kp ?_; refine r_args (Mine.r_sub (Mine.r_sub (r_attrN ?_))); walk_at "l"; refine x_zc ⋯ ⋯ ⋯ ⋯ ⋯ ?_; intro _ _; refine r_callM ?_; walk_at "l"; refine x_m_check ⋯ ⋯ ⋯ ⋯ ⋯ ?_; refine r_cwK ⋯ ⋯ (m_Z_check _).kp ?_; refine r_args ?_; walk_at "l"; refine r_args0 ?_; walk_at "k"; refine sp_check ⋯ ⋯ ⋯ ⋯ (Rm.less ⋯) ⋯ ⋯ ?_; intro _ _; refine X_c ⋯ ⋯ ⋯ (oq104 hi) ⋯ ?_; intro _ _; walk_at "i"; refine x_p0 ⋯ ⋯ ?_; intro _; refine r_args (Mine.r_sub (Mine.r_sub (r_attrN ?_))); walk_at "l"; refine x_zc ⋯ ⋯ ⋯ ⋯ ⋯ ?_; intro _ _; walk_at "l"; refine X_c ⋯ ⋯ ⋯ (oq104 hi) ⋯ ?_; intro _ _; walk_at "i"; refine x_p1 ⋯ ⋯ ?_; intro _; refine r_args0 ?_; walk_at "k"; refine sp_projected ⋯ ⋯ ⋯ ⋯ (Rm.less ⋯) ?_; intro _ _ _; refine nx_ret ⋯ ?_; clear Nc Qc; dsimp only
  exact k _ _ (back _ _ _ _ _ (St.H ⋯) (St.S ⋯))
theorem sp_put {t : Tok} (C : Cx w B) (S : St B L loc Z G ad ob us s₀ s) (R : Rel D a G ad ob) (hu : ∀ k, US k → us k) (hA : Rm A 2) (hi : i < 2) (hn : 0 ≤ n ∧ n < nq i) (hp : IsPt G v p)
   (k : ∀ o s', St B L loc Z G ad (up ob (16 * i + 17) o) us s₀ s' → Rel (D.sq i ((D.q i).sc n p)) a G ad (up ob (16 * i + 17) o) → Q .none s') : WP pw w A (call (.ref 420) [.ref (a.z i), .int n t, v]) Q E s := by
  obtain ⟨Z', H', back⟩ := S.lend
  refine r_call [("self", .ref (a.z i)), ("i", .int n t), ("place", v)] C H' hA rfl rfl (BindsTo.of_eq rfl) (locs rfl) ?_
  intro A1 L1 s1 hA1 S1
  walk_at "c"; refine r_assignS ?_; walk_at "l"; refine r_attrN ?_; walk_at "l"; refine x_zc ⋯ ⋯ ⋯ ⋯ ⋯ ?_; intro _ _; refine r_callM ?_; walk_at "l"; refine x_m_check ⋯ ⋯ ⋯ ⋯ ⋯ ?_; refine r_cwK ⋯ ⋯ (m_Z_check _).kp ?_; refine r_args ?_; walk_at "l"; refine r_args0 ?_; walk_at "k"; refine sp_check ⋯ ⋯ ⋯ ⋯ (Rm.less ⋯) ⋯ ⋯ ?_; intro _ _; refine Y_c ⋯ ⋯ ⋯ (oq104 hi) ⋯ ⋯ ?_; intro _ _ _ _; walk_at "e"; refine r_nil ?_; dsimp only
  exact k _ _ (back _ _ _ _ _ (St.H ⋯) (St.S ⋯)) ⋯
theorem sp_step_of {d : Int} {t : Tok} (C : Cx w B) (S : St B L loc Z G ad ob us s₀ s) (R : Rel D a G ad ob) (hu : ∀ k, US k → us k) (hA : Rm A 4) (hf : D.fr = axv D.k)
   (k : ∀ v G2 s', (∀ b p, G b p → G2 b p) → IsPt G2 v (svp D.k d) → St B L loc Z G2 ad ob us s₀ s' → Q v s') : WP pw w A (call (.ref 84) [.ref a.s, .int d t]) Q E s := by
  obtain ⟨Z', H', back⟩ := S.lend
  refine r_call [("state", .ref a.s), ("distance", .int d t)] C H' hA rfl rfl (BindsTo.of_eq rfl) (locs rfl) ?_
  intro A1 L1 s1 hA1 S1
  have v1 : D.fr.1 = 0 ∨ D.fr.1 = 16384 := by rw [hf]; exact (vec_axv D.k).1
  have v2 : D.fr.2 = 0 ∨ D.fr.2 = 16384 := by rw [hf]; exact (vec_axv D.k).2
  walk_at "c"; refine r_assign (r_callM ?_); walk_at "l"; refine x_m_free_dot ⋯ ⋯ ⋯ ⋯ ?_; refine r_cwK0 ⋯ ⋯ (m_S_free_dot _).kp ?_; refine sp_free_dot ⋯ ⋯ ⋯ ⋯ (Rm.less ⋯) ⋯ ?_; intro _ _ _; walk_at "t"; walk_at "n"; refine r_ret (r_tupleE (r_args ?_)); refine r_callG ⋯ ⋯ (g_muldiv _) (k_muldiv _) ?_; refine r_args ?_; walk_at "l"; refine r_args (Mine.r_sub (r_attrN ?_)); walk_at "l"; refine x_fr ⋯ ⋯ ⋯ ⋯ ?_; intro _ _ _ _; walk_at "i"; refine x_p0 ⋯ ⋯ ?_; intro _; refine r_args ?_; walk_at "l"; refine r_args0 ?_; walk_at "k"; refine sp_muldiv ⋯ ⋯ (Rm.less ⋯) (ok_r _ (oq124 v1)) (by decide) (oq91) (oq92) ?_; intro _ _ _; refine r_args ?_; refine r_callG ⋯ ⋯ (g_muldiv _) (k_muldiv _) ?_; refine r_args ?_; walk_at "l"; refine r_args (Mine.r_sub (r_attrN ?_)); walk_at "l"; refine x_fr ⋯ ⋯ ⋯ ⋯ ?_; intro _ _ _ _; walk_at "i"; refine x_p1 ⋯ ⋯ ?_; intro _; refine r_args ?_; walk_at "l"; refine r_args0 ?_; walk_at "k"; refine sp_muldiv ⋯ ⋯ (Rm.less ⋯) (ok_r _ (oq124 v2)) (by decide) (oq91) (oq92) ?_; intro _ _ _; refine r_args0 ?_; refine r_tuple ⋯ ?_; intro _ _ _ _ _; refine nx_ret ⋯ ?_; clear Nc Qc; dsimp only
  rename_i S8 e8 f8
  obtain ⟨G5, le5, k4, S9⟩ := S8.addG' e8 (still_tup _) f8
  try refine nx_ret ⋯ ?_
  refine k _ G5 _ le5 ?_ (back _ _ _ _ _ S9.H S9.S)
  have e : svp D.k d = (mdv d D.fr.1 16384, mdv d D.fr.2 16384) := by
    rw [hf]; unfold svp axv
    by_cases q : D.k = 0
    · rw [if_pos q, if_pos q, mdv_full, mdv_none]
    · rw [if_neg q, if_neg q, mdv_full, mdv_none]
  rw [e]
  exact ⟨_, _, _, rfl, k4⟩
theorem sp_touch {t : Tok} (C : Cx w B) (S : St B L loc Z G ad ob us s₀ s) (R : Rel D a G ad ob) (hu : ∀ k, US k → us k) (hA : Rm A 1) (hi : i < 2) (hn : 0 ≤ n ∧ n < nq i) (hf : D.fr = axv D.k)
   (k : ∀ o s', St B L loc Z G ad (up ob (16 * i + 20 + n.toNat) o) us s₀ s' → Rel (D.sq i ((D.q i).st n (tch D.k true ((D.q i).t n)))) a G ad (up ob (16 * i + 20 + n.toNat) o) → Q .none s') : WP pw w A (call (.ref 77) [.ref a.s, .ref (a.z i), .int n t]) Q E s := by
  obtain ⟨Z', H', back⟩ := S.lend
  refine r_call [("state", .ref a.s), ("zone", .ref (a.z i)), ("i", .int n t)] C H' hA rfl rfl (BindsTo.of_eq rfl) (locs rfl) ?_
  intro A1 L1 s1 hA1 S1
  by_cases q : D.k = 0
  · have f1 : D.fr.1 = 16384 := by rw [hf]; unfold axv; rw [if_pos q]
    have f2 : D.fr.2 = 0 := by rw [hf]; unfold axv; rw [if_pos q]
    rw [q] at k
    walk_at "c"; refine r_if (r_isCmp (Mine.r_sub (r_attrN ?_))); walk_at "l"; refine x_fr ⋯ ⋯ ⋯ ⋯ ?_; intro _ _ _ _; walk_at "i"; refine x_p0 ⋯ ⋯ ?_; intro _; walk_at "i"; refine r_ne (r_truthy ?_); refine bne_t (oq125 f1) ?_; walk_at "c"; refine r_assignS ?_; refine r_bool ?_; refine Mine.r_sub (r_attrN ?_); walk_at "l"; refine x_zt ⋯ ⋯ ⋯ ⋯ ⋯ ?_; intro _ _; walk_at "l"; refine X_t ⋯ ⋯ ⋯ (oq104 hi) ⋯ ?_; walk_at "i"; refine Y_m ⋯ ⋯ ⋯ (oq104 hi) ⋯ (.inl rfl) ?_; intro _ _ _ _; walk_at "e"; refine r_nil ?_; walk_at "n"; refine r_if (r_isCmp (Mine.r_sub (r_attrN ?_))); walk_at "l"; refine x_fr ⋯ ⋯ ⋯ ⋯ ?_; intro _ _ _ _; walk_at "i"; refine x_p1 ⋯ ⋯ ?_; intro _; walk_at "i"; refine r_ne (r_truthy ?_); refine bne_f ⋯ ?_; refine r_nil ?_; walk_at "e"; refine r_nil ?_; dsimp only
    exact k _ _ (back _ _ _ _ _ (St.H ⋯) (St.S ⋯)) ⋯
  · have f1 : D.fr.1 = 0 := by rw [hf]; unfold axv; rw [if_neg q]
    have f2 : D.fr.2 = 16384 := by rw [hf]; unfold axv; rw [if_neg q]
    rw [show tch D.k true ((D.q i).t n) = tch 1 true ((D.q i).t n) by unfold tch; rw [if_neg q]; rfl] at k
    walk_at "c"; refine r_if (r_isCmp (Mine.r_sub (r_attrN ?_))); walk_at "l"; refine x_fr ⋯ ⋯ ⋯ ⋯ ?_; intro _ _ _ _; walk_at "i"; refine x_p0 ⋯ ⋯ ?_; intro _; walk_at "i"; refine r_ne (r_truthy ?_); refine bne_f ⋯ ?_; refine r_nil ?_; walk_at "n"; refine r_if (r_isCmp (Mine.r_sub (r_attrN ?_))); walk_at "l"; refine x_fr ⋯ ⋯ ⋯ ⋯ ?_; intro _ _ _ _; walk_at "i"; refine x_p1 ⋯ ⋯ ?_; intro _; walk_at "i"; refine r_ne (r_truthy ?_); refine bne_t (oq125 f2) ?_; walk_at "c"; refine r_assignS ?_; refine r_bool ?_; refine Mine.r_sub (r_attrN ?_); walk_at "l"; refine x_zt ⋯ ⋯ ⋯ ⋯ ⋯ ?_; intro _ _; walk_at "l"; refine X_t ⋯ ⋯ ⋯ (oq104 hi) ⋯ ?_; walk_at "i"; refine Y_m ⋯ ⋯ ⋯ (oq104 hi) ⋯ (.inr rfl) ?_; intro _ _ _ _; walk_at "e"; refine r_nil ?_; walk_at "e"; refine r_nil ?_; dsimp only
    exact k _ _ (back _ _ _ _ _ (St.H ⋯) (St.S ⋯)) ⋯
end
section
variable {ad : Nat → Addr} {ob : Nat → Obj} {a : Adr} {i : Nat} {n : Int} {u : Tok} {v : Value}
theorem x_unpT {e1 e2 : Expr} {k : Nat} {Q : Unit → Shared → Prop} (S : St B L loc Z G ad ob us s₀ s) (hh : A.handled = none) (hp : IsPt G v p)
    (h : ∀ t1 t2 s', St B L loc Z G ad ob us s₀ s' → WP pw w A (assignInOrder ((assignEach [e1, e2] env).map (·.2)) [.int p.1 t1, .int p.2 t2]) Q E s')
    (hstar : (assignEach [e1, e2] env).findIdx? (·.1) = none := by rfl) (hn : (assignEach [e1, e2] env).length = 2 := by rfl) :
    WP pw w A (assign (.Tuple [e1, e2] k pos) env v) Q E s := by
  obtain ⟨b, t1, t2, rfl, g⟩ := hp
  exact r_unpack S hh (S.H.imm _ _ g).1 (h t1 t2) hn hstar
theorem x_mkpt {x y : Int} {t1 t2 : Tok} (S : St B L loc Z G ad ob us s₀ s) (h : ∀ b G2 s', (∀ c o, G c o → G2 c o) → IsPt G2 (.ref b) (x, y) → St B L loc Z G2 ad ob us s₀ s' → Q (.ref b) s') : WP pw w A (newTuple [.int x t1, .int y t2]) Q E s := by
  refine r_tuple S fun b s' S' e f => ?_
  obtain ⟨G2, le, g, S2⟩ := S'.addG' e (still_tup _) f
  exact h b G2 s' le ⟨_, _, _, rfl, g⟩ S2
end
section
variable {ad : Nat → Addr} {ob : Nat → Obj} {a : Adr} {i : Nat} {n : Int} {u : Tok} {v : Value}
inductive Dn (B : Heap) (L : Addr) (loc : List (Str × Value)) (Z G : Addr → Obj → Prop) (ad : Nat → Addr) (ob : Nat → Obj) (us : Nat → Prop) (s₀ : Shared) (a : Adr) (D' : Dt) (s' : Shared) : Prop
  | mk (G' : Addr → Obj → Prop) (ad' : Nat → Addr) (ob' : Nat → Obj) (l : ∀ b o, G b o → G' b o) (k : Kp us ad ob ad' ob') (S : St B L loc Z G' ad' ob' us s₀ s') (R : Rel D' a G' ad' ob')
theorem Dn.intro {G' : Addr → Obj → Prop} {ad' : Nat → Addr} {ob' : Nat → Obj} {s' : Shared} (l : ∀ b o, G b o → G' b o) (k : Kp us ad ob ad' ob') (S : St B L loc Z G' ad' ob' us s₀ s') (R : Rel D' a G' ad' ob') : Dn B L loc Z G ad ob us s₀ a D' s' := ⟨_, _, _, l, k, S, R⟩
theorem up_up {α : Type} (f : Nat → α) (k : Nat) (v v' : α) : up (up f k v) k v' = up f k v' := funext fun j => by unfold up; split <;> rfl
theorem sq_sq (D : Dt) (i : Nat) (z z' : ZD) : (D.sq i z).sq i z' = D.sq i z' := by unfold Dt.sq; rw [show ({ D with q := up D.q i z } : Dt).q = up D.q i z from rfl, up_up]
theorem sq_q (D : Dt) (i : Nat) (z : ZD) : (D.sq i z).q i = z := up_same ..
theorem sp_shifted {t : Tok} (C : Cx w B) (S : St B L loc Z G ad ob us s₀ s) (R : Rel D a G ad ob) (hu : ∀ k, US k → us k) (hA : Rm A 3) (hi : i < 2) (hn : 0 ≤ n ∧ n < nq i) (hf : D.fr = axv D.k) (d : Int) (hs : IsPt G v (svp D.k d))
   (k : ∀ s', Dn B L loc Z G ad ob us s₀ a (D.sq i ((D.q i).mv D.k n d)) s' → Q .none s') : WP pw w A (call (.ref 91) [.ref a.s, .ref (a.z i), .int n t, v, .bool true]) Q E s := by
  obtain ⟨Z', H', back⟩ := S.lend
  refine r_call [("state", .ref a.s), ("zone", .ref (a.z i)), ("i", .int n t), ("step", v), ("is_touching", .bool true)] C H' hA rfl rfl (BindsTo.of_eq rfl) (locs rfl) ?_
  intro A1 L1 s1 hA1 S1
  have hq : i < 4 := oq104 hi
  have h6 := nq_le i
  by_cases q : D.k = 0
  · have f1 : D.fr.1 = 16384 := by rw [hf]; unfold axv; rw [if_pos q]
    have f2 : D.fr.2 = 0 := by rw [hf]; unfold axv; rw [if_pos q]
    walk_at "c"; refine r_assignT (Mine.r_sub (r_attrN ?_)); walk_at "l"; refine x_zc ⋯ ⋯ ⋯ ⋯ ⋯ ?_; intro _ _; refine r_callM ?_; walk_at "l"; refine x_m_check ⋯ ⋯ ⋯ ⋯ ⋯ ?_; refine r_cwK ⋯ ⋯ (m_Z_check _).kp ?_; refine r_args ?_; walk_at "l"; refine r_args0 ?_; walk_at "k"; refine sp_check ⋯ ⋯ ⋯ ⋯ (Rm.less ⋯) ⋯ ⋯ ?_; intro _ _; refine X_c ⋯ ⋯ ⋯ ⋯ ⋯ ?_; intro _ _; refine x_unpT ⋯ (Rm.h ⋯) ⋯ ?_; intro _ _ _ _; refine r_inOrder (r_asName ?_); walk_at "t"; refine r_inOrder (r_asName ?_); walk_at "t"; refine r_inOrder0 ?_; walk_at "n"; refine r_if (r_isCmp (Mine.r_sub (r_attrN ?_))); walk_at "l"; refine x_fr ⋯ ⋯ ⋯ ⋯ ?_; intro _ _ _ _; walk_at "i"; refine x_p0 ⋯ ⋯ ?_; intro _; walk_at "i"; refine r_ne (r_truthy ?_); refine bne_t (oq125 f1) ?_; walk_at "c"; refine r_assign (r_bin ?_); walk_at "l"; refine Mine.r_sub ?_; walk_at "l"; walk_at "i"; refine x_p0 ⋯ ⋯ ?_; intro _; refine n_add ?_; walk_at "d"; walk_at "t"; walk_at "e"; refine r_nil ?_; walk_at "n"; refine r_if (r_isCmp (Mine.r_sub (r_attrN ?_))); walk_at "l"; refine x_fr ⋯ ⋯ ⋯ ⋯ ?_; intro _ _ _ _; walk_at "i"; refine x_p1 ⋯ ⋯ ?_; intro _; walk_at "i"; refine r_ne (r_truthy ?_); refine bne_f ⋯ ?_; refine r_nil ?_; walk_at "n"; refine r_expr (r_callM ?_); walk_at "l"; refine x_m_put ⋯ ⋯ ⋯ ⋯ ⋯ ?_; refine r_cwK ⋯ ⋯ (m_Z_put _).kp ?_; refine r_args ?_; walk_at "l"; refine r_args (r_tupleE (r_args ?_)); walk_at "l"; refine r_args ?_; walk_at "l"; refine r_args0 ?_
    refine x_mkpt ⋯ ?_
    intro b G2 s2 le hp2 S2
    have R2 := R.mono le
    have e1 : ((D.q i).c n).1 + (svp D.k d).1 = (mvp D.k d ((D.q i).c n)).1 := by unfold mvp svp; rw [if_pos q, if_pos q]
    have e2 : ((D.q i).c n).2 = (mvp D.k d ((D.q i).c n)).2 := by unfold mvp; rw [if_pos q]
    rw [e1, e2] at hp2
    refine r_args0 ?_; walk_at "k"; refine sp_put ⋯ ⋯ ⋯ ⋯ (Rm.less ⋯) ⋯ ⋯ ⋯ ?_; intro _ _ _ _; walk_at "n"; refine r_if (r_isPlain ?_); walk_at "l"; refine r_truthy ?_; refine itt ?_; walk_at "c"; refine r_expr ?_; refine r_callG ⋯ ⋯ (g_touch _) (k_touch _) ?_; refine r_args ?_; walk_at "l"; refine r_args ?_; walk_at "l"; refine r_args ?_; walk_at "l"; refine r_args0 ?_; walk_at "k"
    rename_i o3 s3 S3 R3 _ _
    refine sp_touch C S3 R3 hu (Rm.less hA1) hi hn hf fun o4 s5 S5 R5 => ?_
    walk_at "e"; refine r_nil ?_; walk_at "e"; refine r_nil ?_; dsimp only
    rw [sq_q, sq_sq] at R5
    try refine nx_ret ⋯ ?_
    exact k _ (Dn.intro le (Kp.trans (Kp.ob (oq152 hi)) (Kp.ob (oq153 hi hn h6))) (back _ _ _ _ _ S5.H S5.S) R5)
  · have f1 : D.fr.1 = 0 := by rw [hf]; unfold axv; rw [if_neg q]
    have f2 : D.fr.2 = 16384 := by rw [hf]; unfold axv; rw [if_neg q]
    walk_at "c"; refine r_assignT (Mine.r_sub (r_attrN ?_)); walk_at "l"; refine x_zc ⋯ ⋯ ⋯ ⋯ ⋯ ?_; intro _ _; refine r_callM ?_; walk_at "l"; refine x_m_check ⋯ ⋯ ⋯ ⋯ ⋯ ?_; refine r_cwK ⋯ ⋯ (m_Z_check _).kp ?_; refine r_args ?_; walk_at "l"; refine r_args0 ?_; walk_at "k"; refine sp_check ⋯ ⋯ ⋯ ⋯ (Rm.less ⋯) ⋯ ⋯ ?_; intro _ _; refine X_c ⋯ ⋯ ⋯ ⋯ ⋯ ?_; intro _ _; refine x_unpT ⋯ (Rm.h ⋯) ⋯ ?_; intro _ _ _ _; refine r_inOrder (r_asName ?_); walk_at "t"; refine r_inOrder (r_asName ?_); walk_at "t"; refine r_inOrder0 ?_; walk_at "n"; refine r_if (r_isCmp (Mine.r_sub (r_attrN ?_))); walk_at "l"; refine x_fr ⋯ ⋯ ⋯ ⋯ ?_; intro _ _ _ _; walk_at "i"; refine x_p0 ⋯ ⋯ ?_; intro _; walk_at "i"; refine r_ne (r_truthy ?_); refine bne_f ⋯ ?_; refine r_nil ?_; walk_at "n"; refine r_if (r_isCmp (Mine.r_sub (r_attrN ?_))); walk_at "l"; refine x_fr ⋯ ⋯ ⋯ ⋯ ?_; intro _ _ _ _; walk_at "i"; refine x_p1 ⋯ ⋯ ?_; intro _; walk_at "i"; refine r_ne (r_truthy ?_); refine bne_t (oq125 f2) ?_; walk_at "c"; refine r_assign (r_bin ?_); walk_at "l"; refine Mine.r_sub ?_; walk_at "l"; walk_at "i"; refine x_p1 ⋯ ⋯ ?_; intro _; refine n_add ?_; walk_at "d"; walk_at "t"; walk_at "e"; refine r_nil ?_; walk_at "n"; refine r_expr (r_callM ?_); walk_at "l"; refine x_m_put ⋯ ⋯ ⋯ ⋯ ⋯ ?_; refine r_cwK ⋯ ⋯ (m_Z_put _).kp ?_; refine r_args ?_; walk_at "l"; refine r_args (r_tupleE (r_args ?_)); walk_at "l"; refine r_args ?_; walk_at "l"; refine r_args0 ?_
    refine x_mkpt ⋯ ?_
    intro b G2 s2 le hp2 S2
    have R2 := R.mono le
    have e1 : ((D.q i).c n).2 + (svp D.k d).2 = (mvp D.k d ((D.q i).c n)).2 := by unfold mvp svp; rw [if_neg q, if_neg q]
    have e2 : ((D.q i).c n).1 = (mvp D.k d ((D.q i).c n)).1 := by unfold mvp; rw [if_neg q]
    rw [e1, e2] at hp2
    refine r_args0 ?_; walk_at "k"; refine sp_put ⋯ ⋯ ⋯ ⋯ (Rm.less ⋯) ⋯ ⋯ ⋯ ?_; intro _ _ _ _; walk_at "n"; refine r_if (r_isPlain ?_); walk_at "l"; refine r_truthy ?_; refine itt ?_; walk_at "c"; refine r_expr ?_; refine r_callG ⋯ ⋯ (g_touch _) (k_touch _) ?_; refine r_args ?_; walk_at "l"; refine r_args ?_; walk_at "l"; refine r_args ?_; walk_at "l"; refine r_args0 ?_; walk_at "k"
    rename_i o3 s3 S3 R3 _ _
    refine sp_touch C S3 R3 hu (Rm.less hA1) hi hn hf fun o4 s5 S5 R5 => ?_
    walk_at "e"; refine r_nil ?_; walk_at "e"; refine r_nil ?_; dsimp only
    rw [sq_q, sq_sq] at R5
    try refine nx_ret ⋯ ?_
    exact k _ (Dn.intro le (Kp.trans (Kp.ob (oq152 hi)) (Kp.ob (oq153 hi hn h6))) (back _ _ _ _ _ S5.H S5.S) R5)
theorem sp_move_point {t t2 : Tok} {d : Int} (C : Cx w B) (S : St B L loc Z G ad ob us s₀ s) (R : Rel D a G ad ob) (hu : ∀ k, US k → us k) (hA : Rm A 5) (hi : i < 2) (hn : 0 ≤ n ∧ n < nq i) (hf : D.fr = axv D.k)
   (k : ∀ s', Dn B L loc Z G ad ob us s₀ a (D.sq i ((D.q i).mv D.k n d)) s' → Q .none s') : WP pw w A (call (.ref 98) [.ref a.w, .ref (a.z i), .int n t, .int d t2]) Q E s := by
  obtain ⟨Z', H', back⟩ := S.lend
  refine r_call [("work", .ref a.w), ("zone", .ref (a.z i)), ("i", .int n t), ("distance", .int d t2)] C H' hA rfl rfl (BindsTo.of_eq rfl) (locs rfl) ?_
  intro A1 L1 s1 hA1 S1
  walk_at "c"; refine r_expr ?_; refine r_callG ⋯ ⋯ (g_shifted _) (k_shifted _) ?_; refine r_args (r_attrN ?_); walk_at "l"; refine x_wst ⋯ ⋯ ⋯ ⋯ ?_; intro _ _; refine r_args ?_; walk_at "l"; refine r_args ?_; walk_at "l"; refine r_args ?_; refine r_callG ⋯ ⋯ (g_step_of _) (k_step_of _) ?_; refine r_args (r_attrN ?_); walk_at "l"; refine x_wst ⋯ ⋯ ⋯ ⋯ ?_; intro _ _; refine r_args ?_; walk_at "l"; refine r_args0 ?_; walk_at "k"
  refine sp_step_of C ⋯ R hu (Rm.less hA1) hf ?_
  intro v2 G2 s2 le hp2 S2
  have R2 := R.mono le
  refine r_args ?_; refine r_bool ?_; refine r_args0 ?_; walk_at "k"
  refine sp_shifted C ⋯ R2 hu (Rm.less hA1) hi hn hf d hp2 ?_
  rintro s5 ⟨G5, ad5, ob5, le5, K5, S5, R5⟩
  walk_at "e"; refine r_nil ?_; dsimp only
  exact k _ (Dn.intro (fun b o g => le5 _ _ (le _ _ g)) K5 (back _ _ _ _ _ S5.H S5.S) R5)
end
theorem Kp.up {us : Nat → Prop} {ad ad' : Nat → Addr} {ob ob' : Nat → Obj} {j : Nat} {o : Obj} (h : j < 80) (h' : Kp us ad ob ad' ob') : Kp us ad ob ad' (Mine.up ob' j o) := fun k u l => ⟨(h' k u l).1, (up_other _ _ (oq135 h l)).trans (h' k u l).2⟩
section
variable {ad : Nat → Addr} {ob : Nat → Obj} {a : Adr} {i : Nat} {n : Int} {u : Tok} {v : Value}
theorem x_nought (C : Cx w B) (S : St B L loc Z G ad ob us s₀ s) : ∃ G2, (∀ b o, G b o → G2 b o) ∧ IsPt G2 (.ref 99) (0, 0) ∧ St B L loc Z G2 ad ob us s₀ s := by
  have h : ∃ t1 t2, (KK w).lookup 99 = some (tupO [.int 0 t1, .int 0 t2]) := ⟨_, _, rfl⟩
  obtain ⟨t1, t2, h⟩ := h
  have hB := C.1 _ _ h
  obtain ⟨G2, le, g, S2⟩ := S.addG' (S.H.base _ _ hB) (still_tup _) fun k u e => (S.H.dis k u).1 _ (e ▸ S.H.bz _ _ hB)
  exact ⟨G2, le, ⟨_, _, _, rfl, g⟩, S2⟩
theorem sp_gc {c : Int} {t : Tok} (C : Cx w B) (S : St B L loc Z G ad ob us s₀ s) (R : Rel D a G ad ob) (hu : ∀ k, US k → us k) (hA : Rm A 6) (hz : D.z2 = 0 ∨ D.z2 = 1) (hN : D.nums = [n]) (hn : 0 ≤ n ∧ n < 3)
   (k : ∀ x s', (Int.fmod c 2 = 1 → x = ax D.k ((D.q D.z2.toNat).o n)) → (¬ Int.fmod c 2 = 1 → x = ax D.k ((D.q D.z2.toNat).c n)) → Dn B L loc Z G ad ob us s₀ a (D.sn [x]) s' → Q .none s') : WP pw w A (call (.ref 106) [.ref a.w, .int c t]) Q E s := by
  obtain ⟨Z', H', back⟩ := S.lend
  refine r_call [("work", .ref a.w), ("code", .int c t)] C H' hA rfl rfl (BindsTo.of_eq rfl) (locs rfl) ?_
  intro A1 L1 s1 hA1 S1
  have hzi : D.z2.toNat < 2 := oq51 hz
  have h3 := nq_ge D.z2.toNat
  have hnq : 0 ≤ n ∧ n < nq D.z2.toNat := oq54 hn h3
  have hN' : D.nums = [] ++ [n] := hN
  walk_at "c"; refine r_assign (r_callM ?_); walk_at "l"; refine x_m_zone ⋯ ⋯ ⋯ ⋯ ?_; refine r_cwK ⋯ ⋯ (m_W_zone _).kp ?_; refine r_args (r_attr (r_attrN ?_)); walk_at "l"; refine x_wst ⋯ ⋯ ⋯ ⋯ ?_; intro _ _; refine x_z2 ⋯ ⋯ ⋯ ⋯ ?_; intro _ _ _; refine r_args0 ?_; walk_at "k"; refine sp_zone ⋯ ⋯ ⋯ ⋯ (Rm.less ⋯) ⋯ ?_; intro _ _; walk_at "t"; walk_at "n"; refine r_assign (r_callM ?_); walk_at "l"; refine x_m_check ⋯ ⋯ ⋯ ⋯ ⋯ ?_; refine r_cwK ⋯ ⋯ (m_Z_check _).kp ?_; refine r_args ?_; refine r_callM (pl := pure false) ?_; refine r_attrN ?_; walk_at "l"; refine x_wsk ⋯ ⋯ ⋯ ⋯ ?_; intro _ _; refine x_m_pop ⋯ ⋯ ⋯ ⋯ ?_; refine r_cwK0 ⋯ ⋯ (m_K_pop _).kp ?_; refine sp_pop ⋯ ⋯ ⋯ ⋯ (Rm.less ⋯) ⋯ (by first | assumption | exact Nat.le_of_ble_eq_true rfl) ?_; intro _ _ _ _ _; refine r_args0 ?_; walk_at "k"; refine sp_check ⋯ ⋯ ⋯ ⋯ (Rm.less ⋯) ⋯ ⋯ ?_; intro _ _; walk_at "t"; walk_at "n"; refine r_if (r_isCmp (r_bin ?_)); walk_at "l"; walk_at "i"; refine n_mod (by decide) ?_; walk_at "d"; walk_at "i"; refine r_eq (r_truthy ?_); (refine br ?_ ?_ <;> intro _); walk_at "c"; refine r_expr ?_; refine r_callM (pl := pure false) ?_; refine r_attrN ?_; walk_at "l"; refine x_wsk ⋯ ⋯ ⋯ ⋯ ?_; intro _ _; refine x_m_push ⋯ ⋯ ⋯ ⋯ ?_; refine r_cwK ⋯ ⋯ (m_K_push _).kp ?_; refine r_args ?_; refine r_callG ⋯ ⋯ (g_dual_measured _) (k_dual_measured _) ?_; refine r_args (r_attrN ?_); walk_at "l"; refine x_wst ⋯ ⋯ ⋯ ⋯ ?_; intro _ _; refine r_args (Mine.r_sub (r_attrN ?_)); walk_at "l"; refine x_zo ⋯ ⋯ ⋯ ⋯ ⋯ ?_; intro _ _; walk_at "l"; refine X_o ⋯ ⋯ ⋯ (oq154 hzi) ⋯ ?_; intro _ _; refine r_args ?_; dsimp only; rotate_left; walk_at "c"; refine r_expr ?_; refine r_callM (pl := pure false) ?_; refine r_attrN ?_; walk_at "l"; refine x_wsk ⋯ ⋯ ⋯ ⋯ ?_; intro _ _; refine x_m_push ⋯ ⋯ ⋯ ⋯ ?_; refine r_cwK ⋯ ⋯ (m_K_push _).kp ?_; refine r_args ?_; refine r_callG ⋯ ⋯ (g_place_of _) (k_place_of _) ?_; refine r_args (r_attrN ?_); walk_at "l"; refine x_wst ⋯ ⋯ ⋯ ⋯ ?_; intro _ _; refine r_args ?_; walk_at "l"; refine r_args ?_; walk_at "l"; refine r_args0 ?_; walk_at "k"; refine sp_place_of ⋯ ⋯ ⋯ ⋯ (Rm.less ⋯) ⋯ ⋯ ?_; intro _ _ _; refine r_args0 ?_; walk_at "k"; refine sp_push ⋯ ⋯ ⋯ ⋯ (Rm.less ⋯) (by first | assumption | exact Nat.le_of_ble_eq_true rfl) ?_; intro _ _ _ _; walk_at "e"; refine r_nil ?_; walk_at "e"; refine r_nil ?_; dsimp only; rotate_left
  · rename_i q _ _ _ _ _ _ v hv
    refine r_glob C ⋯ (g_NOUGHT _) ?_
    obtain ⟨G2, le, h0, S2⟩ := x_nought C ⋯
    have R2 := Rel.mono ⋯ le
    have hv2 := hv.mono le
    refine r_args0 ?_; walk_at "k"; refine sp_dual_measured ⋯ ⋯ ⋯ ⋯ (Rm.less ⋯) ⋯ ⋯ ?_; intro _ _ _; refine r_args0 ?_; walk_at "k"; refine sp_push ⋯ ⋯ ⋯ ⋯ (Rm.less ⋯) (by first | assumption | exact Nat.le_of_ble_eq_true rfl) ?_; intro _ _ _ _; walk_at "e"; refine r_nil ?_; walk_at "e"; refine r_nil ?_; dsimp only
    rename_i o3 s3 S3 R3
    try refine nx_ret ⋯ ?_
    refine k _ _ ?_ (fun q' => absurd q q') (Dn.intro le ?_ (back _ _ _ _ _ S3.H S3.S) R3)
    · intro _; dsimp only; rw [Int.sub_zero, Int.sub_zero]; rfl
    · refine Kp.up (oq155) ?_; refine Kp.up (oq155) ?_; exact Kp.refl _ _ _
  · have q : ¬ Int.fmod c 2 = 1 := ⋯
    rename_i o3 s3 S3 R3
    try refine nx_ret ⋯ ?_
    refine k _ _ (fun q' => absurd q' q) (fun _ => rfl) (Dn.intro (fun _ _ g => g) ?_ (back _ _ _ _ _ S3.H S3.S) R3)
    refine Kp.up (oq155) ?_; refine Kp.up (oq155) ?_; exact Kp.refl _ _ _
theorem sp_scfs {m c : Int} {t : Tok} (C : Cx w B) (S : St B L loc Z G ad ob us s₀ s) (R : Rel D a G ad ob) (hu : ∀ k, US k → us k) (hA : Rm A 6) (hz : D.z2 = 0 ∨ D.z2 = 1) (hf : D.fr = axv D.k) (hN : D.nums = [n, m]) (hn : 0 ≤ n ∧ n < 3)
   (k : ∀ s', Dn B L loc Z G ad ob us s₀ a ((D.sn []).sq D.z2.toNat (if D.z2 = 0 then ((D.q D.z2.toNat).mv D.k n (m - ax D.k ((D.q D.z2.toNat).c n))).so n (((D.q D.z2.toNat).mv D.k n (m - ax D.k ((D.q D.z2.toNat).c n))).c n) else (D.q D.z2.toNat).mv D.k n (m - ax D.k ((D.q D.z2.toNat).c n)))) s' → Q .none s') : WP pw w A (call (.ref 113) [.ref a.w, .int c t]) Q E s := by
  obtain ⟨Z', H', back⟩ := S.lend
  refine r_call [("work", .ref a.w), ("code", .int c t)] C H' hA rfl rfl (BindsTo.of_eq rfl) (locs rfl) ?_
  intro A1 L1 s1 hA1 S1
  have hzi : D.z2.toNat < 2 := oq51 hz
  have h3 := nq_ge D.z2.toNat
  have hnq : 0 ≤ n ∧ n < nq D.z2.toNat := oq54 hn h3
  have h6 := nq_le D.z2.toNat
  have hN' : D.nums = [n] ++ [m] := hN
  have hN2 : [n] = [] ++ [n] := rfl
  walk_at "c"; refine r_assign (r_callM ?_); walk_at "l"; refine x_m_zone ⋯ ⋯ ⋯ ⋯ ?_; refine r_cwK ⋯ ⋯ (m_W_zone _).kp ?_; refine r_args (r_attr (r_attrN ?_)); walk_at "l"; refine x_wst ⋯ ⋯ ⋯ ⋯ ?_; intro _ _; refine x_z2 ⋯ ⋯ ⋯ ⋯ ?_; intro _ _ _; refine r_args0 ?_; walk_at "k"; refine sp_zone ⋯ ⋯ ⋯ ⋯ (Rm.less ⋯) ⋯ ?_; intro _ _; walk_at "t"; walk_at "n"; refine r_assign ?_; refine r_callM (pl := pure false) ?_; refine r_attrN ?_; walk_at "l"; refine x_wsk ⋯ ⋯ ⋯ ⋯ ?_; intro _ _; refine x_m_pop ⋯ ⋯ ⋯ ⋯ ?_; refine r_cwK0 ⋯ ⋯ (m_K_pop _).kp ?_; refine sp_pop ⋯ ⋯ ⋯ ⋯ (Rm.less ⋯) ⋯ (by first | assumption | exact Nat.le_of_ble_eq_true rfl) ?_; intro _ _ _ _ _; walk_at "t"; walk_at "n"; refine r_assign (r_callM ?_); walk_at "l"; refine x_m_check ⋯ ⋯ ⋯ ⋯ ⋯ ?_; refine r_cwK ⋯ ⋯ (m_Z_check _).kp ?_; refine r_args ?_; refine r_callM (pl := pure false) ?_; refine r_attrN ?_; walk_at "l"; refine x_wsk ⋯ ⋯ ⋯ ⋯ ?_; intro _ _; refine x_m_pop ⋯ ⋯ ⋯ ⋯ ?_; refine r_cwK0 ⋯ ⋯ (m_K_pop _).kp ?_; refine sp_pop ⋯ ⋯ ⋯ ⋯ (Rm.less ⋯) ⋯ (by first | assumption | exact Nat.le_of_ble_eq_true rfl) ?_; intro _ _ _ _ _; refine r_args0 ?_; walk_at "k"; refine sp_check ⋯ ⋯ ⋯ ⋯ (Rm.less ⋯) ⋯ ⋯ ?_; intro _ _; walk_at "t"; walk_at "n"; refine r_expr ?_; refine r_callG ⋯ ⋯ (g_move_point _) (k_move_point _) ?_; refine r_args ?_; walk_at "l"; refine r_args ?_; walk_at "l"; refine r_args ?_; walk_at "l"; refine r_args (r_bin ?_); walk_at "l"; refine r_callG ⋯ ⋯ (g_place_of _) (k_place_of _) ?_; refine r_args (r_attrN ?_); walk_at "l"; refine x_wst ⋯ ⋯ ⋯ ⋯ ?_; intro _ _; refine r_args ?_; walk_at "l"; refine r_args ?_; walk_at "l"; refine r_args0 ?_; walk_at "k"; refine sp_place_of ⋯ ⋯ ⋯ ⋯ (Rm.less ⋯) ⋯ ⋯ ?_; intro _ _ _; refine n_sub ?_; walk_at "d"; refine r_args0 ?_; walk_at "k"
  rename_i S3
  refine sp_move_point C S3 ⋯ hu (Rm.less hA1) hzi hnq (by exact hf) ?_
  rintro s4 ⟨G4, ad4, ob4, le4, K4, S4, R4⟩
  by_cases q : D.z2 = 0
  · walk_at "n"; refine r_if (r_isCmp (r_attr (r_attrN ?_))); walk_at "l"; refine x_wst ⋯ ⋯ ⋯ ⋯ ?_; intro _ _; refine x_z2 ⋯ ⋯ ⋯ ⋯ ?_; intro _ _ _; walk_at "i"; refine r_eq (r_truthy ?_); refine beq_t ⋯ ?_; walk_at "c"; refine r_assignS (Mine.r_sub (r_attrN ?_)); walk_at "l"; refine x_zc ⋯ ⋯ ⋯ ⋯ ⋯ ?_; intro _ _; walk_at "l"; refine X_c ⋯ ⋯ ⋯ (oq154 hzi) ⋯ ?_; intro _ _; refine r_attrN ?_; walk_at "l"; refine x_zo ⋯ ⋯ ⋯ ⋯ ⋯ ?_; intro _ _; walk_at "l"; refine Y_o ⋯ ⋯ ⋯ (oq154 hzi) ⋯ ⋯ ?_; intro _ _ _ _; walk_at "e"; refine r_nil ?_; walk_at "e"; refine r_nil ?_; dsimp only
    rename_i o5 s5 S5 R5
    try refine nx_ret ⋯ ?_
    refine k _ (Dn.intro le4 (Kp.up (oq156 hzi) (Kp.trans (Kp.up (oq155) (Kp.up (oq155) (Kp.refl _ _ _))) K4)) (back _ _ _ _ _ S5.H S5.S) ?_)
    rw [if_pos q]
    rw [sq_sq, sq_q] at R5
    exact R5
  · walk_at "n"; refine r_if (r_isCmp (r_attr (r_attrN ?_))); walk_at "l"; refine x_wst ⋯ ⋯ ⋯ ⋯ ?_; intro _ _; refine x_z2 ⋯ ⋯ ⋯ ⋯ ?_; intro _ _ _; walk_at "i"; refine r_eq (r_truthy ?_); refine beq_f ⋯ ?_; refine r_nil ?_; walk_at "e"; refine r_nil ?_; dsimp only
    rename_i S5
    try refine nx_ret ⋯ ?_
    refine k _ (Dn.intro le4 (Kp.trans (Kp.up (oq155) (Kp.up (oq155) (Kp.refl _ _ _))) K4) (back _ _ _ _ _ S5.H S5.S) ?_)
    rw [if_neg q]
    exact R4
theorem sp_md {m c : Int} {t : Tok} (C : Cx w B) (S : St B L loc Z G ad ob us s₀ s) (R : Rel D a G ad ob) (hu : ∀ k, US k → us k) (hA : Rm A 6) (hz0 : D.z0 = 0 ∨ D.z0 = 1) (hz1 : D.z1 = 0 ∨ D.z1 = 1) (hN : D.nums = [n, m]) (hn : 0 ≤ n ∧ n < 3) (hm : 0 ≤ m ∧ m < 3)
   (k : ∀ x s', (Int.fmod c 2 = 1 → x = ax D.k (((D.q D.z0.toNat).c n).1 - ((D.q D.z1.toNat).c m).1, ((D.q D.z0.toNat).c n).2 - ((D.q D.z1.toNat).c m).2)) → (¬ Int.fmod c 2 = 1 → x = ax D.k (((D.q D.z0.toNat).o n).1 - ((D.q D.z1.toNat).o m).1, ((D.q D.z0.toNat).o n).2 - ((D.q D.z1.toNat).o m).2)) →
     Dn B L loc Z G ad ob us s₀ a (D.sn [x]) s' → Q .none s') : WP pw w A (call (.ref 120) [.ref a.w, .int c t]) Q E s := by
  obtain ⟨Z', H', back⟩ := S.lend
  refine r_call [("work", .ref a.w), ("code", .int c t)] C H' hA rfl rfl (BindsTo.of_eq rfl) (locs rfl) ?_
  intro A1 L1 s1 hA1 S1
  have hzi0 : D.z0.toNat < 2 := oq51 hz0
  have hzi1 : D.z1.toNat < 2 := oq51 hz1
  have hqi0 : D.z0.toNat < 4 := oq154 hzi0
  have hqi1 : D.z1.toNat < 4 := oq154 hzi1
  have h30 := nq_ge D.z0.toNat
  have h31 := nq_ge D.z1.toNat
  have hnq0 : 0 ≤ n ∧ n < nq D.z0.toNat := oq54 hn h30
  have hnq1 : 0 ≤ m ∧ m < nq D.z1.toNat := oq54 hm h31
  have hN' : D.nums = [n] ++ [m] := hN
  have hN2 : [n] = [] ++ [n] := rfl
  walk_at "c"; refine r_assign (r_attrN ?_); walk_at "l"; refine x_wst ⋯ ⋯ ⋯ ⋯ ?_; intro _ _; walk_at "t"; walk_at "n"; refine r_assign2 (r_tupleE (r_args ?_)); refine r_callM (pl := pure false) ?_; refine r_attrN ?_; walk_at "l"; refine x_wsk ⋯ ⋯ ⋯ ⋯ ?_; intro _ _; refine x_m_pop ⋯ ⋯ ⋯ ⋯ ?_; refine r_cwK0 ⋯ ⋯ (m_K_pop _).kp ?_; refine sp_pop ⋯ ⋯ ⋯ ⋯ (Rm.less ⋯) ⋯ (by first | assumption | exact Nat.le_of_ble_eq_true rfl) ?_; intro _ _ _ _ _; refine r_args ?_; refine r_callM (pl := pure false) ?_; refine r_attrN ?_; walk_at "l"; refine x_wsk ⋯ ⋯ ⋯ ⋯ ?_; intro _ _; refine x_m_pop ⋯ ⋯ ⋯ ⋯ ?_; refine r_cwK0 ⋯ ⋯ (m_K_pop _).kp ?_; refine sp_pop ⋯ ⋯ ⋯ ⋯ (Rm.less ⋯) ⋯ (by first | assumption | exact Nat.le_of_ble_eq_true rfl) ?_; intro _ _ _ _ _; refine r_args0 ?_; refine r_tuple ⋯ ?_; intro _ _ _ _ _; refine r_unpackN ⋯ (Rm.h ⋯) ⋯ ?_; intro _ _; refine r_inOrder (r_bindName ?_); walk_at "t"; refine r_inOrder (r_bindName ?_); walk_at "t"; refine r_inOrder0 ?_; walk_at "n"; refine r_assign2 (r_tupleE (r_args (r_callM ?_))); walk_at "l"; refine x_m_zone ⋯ ⋯ ⋯ ⋯ ?_; refine r_cwK ⋯ ⋯ (m_W_zone _).kp ?_; refine r_args (r_attrN ?_); walk_at "l"; refine x_z0 ⋯ ⋯ ⋯ ⋯ ?_; intro _ _ _; refine r_args0 ?_; walk_at "k"; refine sp_zone ⋯ ⋯ ⋯ ⋯ (Rm.less ⋯) ⋯ ?_; intro _ _; refine r_args (r_callM ?_); walk_at "l"; refine x_m_zone ⋯ ⋯ ⋯ ⋯ ?_; refine r_cwK ⋯ ⋯ (m_W_zone _).kp ?_; refine r_args (r_attrN ?_); walk_at "l"; refine x_z1 ⋯ ⋯ ⋯ ⋯ ?_; intro _ _ _; refine r_args0 ?_; walk_at "k"; refine sp_zone ⋯ ⋯ ⋯ ⋯ (Rm.less ⋯) ⋯ ?_; intro _ _; refine r_args0 ?_; refine r_tuple ⋯ ?_; intro _ _ _ _ _; refine r_unpackN ⋯ (Rm.h ⋯) ⋯ ?_; intro _ _; refine r_inOrder (r_bindName ?_); walk_at "t"; refine r_inOrder (r_bindName ?_); walk_at "t"; refine r_inOrder0 ?_; walk_at "n"; refine r_expr (r_callM ?_); walk_at "l"; refine x_m_check ⋯ ⋯ ⋯ ⋯ ⋯ ?_; refine r_cwK ⋯ ⋯ (m_Z_check _).kp ?_; refine r_args ?_; walk_at "l"; refine r_args0 ?_; walk_at "k"; refine sp_check ⋯ ⋯ ⋯ ⋯ (Rm.less ⋯) ⋯ ⋯ ?_; intro _ _; walk_at "n"; refine r_expr (r_callM ?_); walk_at "l"; refine x_m_check ⋯ ⋯ ⋯ ⋯ ⋯ ?_; refine r_cwK ⋯ ⋯ (m_Z_check _).kp ?_; refine r_args ?_; walk_at "l"; refine r_args0 ?_; walk_at "k"; refine sp_check ⋯ ⋯ ⋯ ⋯ (Rm.less ⋯) ⋯ ⋯ ?_; intro _ _; walk_at "n"; refine r_if (r_isCmp (r_bin ?_)); walk_at "l"; walk_at "i"; refine n_mod (by decide) ?_; walk_at "d"; walk_at "i"; refine r_eq (r_truthy ?_); (refine br ?_ ?_ <;> intro _); walk_at "c"; refine r_expr ?_; refine r_callM (pl := pure false) ?_; refine r_attrN ?_; walk_at "l"; refine x_wsk ⋯ ⋯ ⋯ ⋯ ?_; intro _ _; refine x_m_push ⋯ ⋯ ⋯ ⋯ ?_; refine r_cwK ⋯ ⋯ (m_K_push _).kp ?_; refine r_args ?_; refine r_callG ⋯ ⋯ (g_measured _) (k_measured _) ?_; refine r_args ?_; walk_at "l"; refine r_args (Mine.r_sub (r_attrN ?_)); walk_at "l"; refine x_zc ⋯ ⋯ ⋯ ⋯ ⋯ ?_; intro _ _; walk_at "l"; refine X_c ⋯ ⋯ ⋯ ⋯ ⋯ ?_; intro _ _; refine r_args (Mine.r_sub (r_attrN ?_)); walk_at "l"; refine x_zc ⋯ ⋯ ⋯ ⋯ ⋯ ?_; intro _ _; walk_at "l"; refine X_c ⋯ ⋯ ⋯ ⋯ ⋯ ?_; intro _ _; refine r_args0 ?_; walk_at "k"; refine sp_measured ⋯ ⋯ ⋯ ⋯ (Rm.less ⋯) ⋯ ⋯ ?_; intro _ _ _; refine r_args0 ?_; walk_at "k"; refine sp_push ⋯ ⋯ ⋯ ⋯ (Rm.less ⋯) (by first | assumption | exact Nat.le_of_ble_eq_true rfl) ?_; intro _ _ _ _; walk_at "e"; refine r_nil ?_; walk_at "e"; refine r_nil ?_; dsimp only; rotate_left; walk_at "c"; refine r_expr ?_; refine r_callM (pl := pure false) ?_; refine r_attrN ?_; walk_at "l"; refine x_wsk ⋯ ⋯ ⋯ ⋯ ?_; intro _ _; refine x_m_push ⋯ ⋯ ⋯ ⋯ ?_; refine r_cwK ⋯ ⋯ (m_K_push _).kp ?_; refine r_args ?_; refine r_callG ⋯ ⋯ (g_dual_measured _) (k_dual_measured _) ?_; refine r_args ?_; walk_at "l"; refine r_args (Mine.r_sub (r_attrN ?_)); walk_at "l"; refine x_zo ⋯ ⋯ ⋯ ⋯ ⋯ ?_; intro _ _; walk_at "l"; refine X_o ⋯ ⋯ ⋯ ⋯ ⋯ ?_; intro _ _; refine r_args (Mine.r_sub (r_attrN ?_)); walk_at "l"; refine x_zo ⋯ ⋯ ⋯ ⋯ ⋯ ?_; intro _ _; walk_at "l"; refine X_o ⋯ ⋯ ⋯ ⋯ ⋯ ?_; intro _ _; refine r_args0 ?_; walk_at "k"; refine sp_dual_measured ⋯ ⋯ ⋯ ⋯ (Rm.less ⋯) ⋯ ⋯ ?_; intro _ _ _; refine r_args0 ?_; walk_at "k"; refine sp_push ⋯ ⋯ ⋯ ⋯ (Rm.less ⋯) (by first | assumption | exact Nat.le_of_ble_eq_true rfl) ?_; intro _ _ _ _; walk_at "e"; refine r_nil ?_; walk_at "e"; refine r_nil ?_; dsimp only; rotate_left
  · have q : Int.fmod c 2 = 1 := ⋯
    rename_i o3 s3 S3 R3
    try refine nx_ret ⋯ ?_
    refine k _ _ (fun _ => rfl) (fun q' => absurd q q') (Dn.intro (fun _ _ g => g) ?_ (back _ _ _ _ _ S3.H S3.S) R3)
    refine Kp.up (oq155) ?_; refine Kp.up (oq155) ?_; refine Kp.up (oq155) ?_; exact Kp.refl _ _ _
  · have q : ¬ Int.fmod c 2 = 1 := ⋯
    rename_i o3 s3 S3 R3
    try refine nx_ret ⋯ ?_
    refine k _ _ (fun q' => absurd q' q) (fun _ => rfl) (Dn.intro (fun _ _ g => g) ?_ (back _ _ _ _ _ S3.H S3.S) R3)
    refine Kp.up (oq155) ?_; refine Kp.up (oq155) ?_; refine Kp.up (oq155) ?_; exact Kp.refl _ _ _
theorem sp_alignpts {m c : Int} {t : Tok} (C : Cx w B) (S : St B L loc Z G ad ob us s₀ s) (R : Rel D a G ad ob) (hu : ∀ k, US k → us k) (hA : Rm A 6) (hz0 : D.z0 = 0 ∨ D.z0 = 1) (hz1 : D.z1 = 0 ∨ D.z1 = 1) (hf : D.fr = axv D.k) (hN : D.nums = [n, m]) (hn : 0 ≤ n ∧ n < 3) (hm : 0 ≤ m ∧ m < 3)
   (k : ∀ x s', x = cdv (ax D.k (((D.q D.z0.toNat).c m).1 - ((D.q D.z1.toNat).c n).1, ((D.q D.z0.toNat).c m).2 - ((D.q D.z1.toNat).c n).2)) 1 2 →
     Dn B L loc Z G ad ob us s₀ a (((D.sn []).sq D.z1.toNat ((D.q D.z1.toNat).mv D.k n x)).sq D.z0.toNat ((((D.sn []).sq D.z1.toNat ((D.q D.z1.toNat).mv D.k n x)).q D.z0.toNat).mv D.k m (0 - x))) s' → Q .none s') : WP pw w A (call (.ref 141) [.ref a.w, .int c t]) Q E s := by
  obtain ⟨Z', H', back⟩ := S.lend
  refine r_call [("work", .ref a.w), ("code", .int c t)] C H' hA rfl rfl (BindsTo.of_eq rfl) (locs rfl) ?_
  intro A1 L1 s1 hA1 S1
  have hzi0 : D.z0.toNat < 2 := oq51 hz0
  have hzi1 : D.z1.toNat < 2 := oq51 hz1
  have hqi0 : D.z0.toNat < 4 := oq154 hzi0
  have hqi1 : D.z1.toNat < 4 := oq154 hzi1
  have h30 := nq_ge D.z0.toNat
  have h31 := nq_ge D.z1.toNat
  have hnq0 : 0 ≤ m ∧ m < nq D.z0.toNat := oq54 hm h30
  have hnq1 : 0 ≤ n ∧ n < nq D.z1.toNat := oq54 hn h31
  have hN' : D.nums = [n] ++ [m] := hN
  have hN2 : [n] = [] ++ [n] := rfl
  walk_at "c"; refine r_assign (r_attrN ?_); walk_at "l"; refine x_wst ⋯ ⋯ ⋯ ⋯ ?_; intro _ _; walk_at "t"; walk_at "n"; refine r_assign2 (r_tupleE (r_args ?_)); refine r_callM (pl := pure false) ?_; refine r_attrN ?_; walk_at "l"; refine x_wsk ⋯ ⋯ ⋯ ⋯ ?_; intro _ _; refine x_m_pop ⋯ ⋯ ⋯ ⋯ ?_; refine r_cwK0 ⋯ ⋯ (m_K_pop _).kp ?_; refine sp_pop ⋯ ⋯ ⋯ ⋯ (Rm.less ⋯) ⋯ (by first | assumption | exact Nat.le_of_ble_eq_true rfl) ?_; intro _ _ _ _ _; refine r_args ?_; refine r_callM (pl := pure false) ?_; refine r_attrN ?_; walk_at "l"; refine x_wsk ⋯ ⋯ ⋯ ⋯ ?_; intro _ _; refine x_m_pop ⋯ ⋯ ⋯ ⋯ ?_; refine r_cwK0 ⋯ ⋯ (m_K_pop _).kp ?_; refine sp_pop ⋯ ⋯ ⋯ ⋯ (Rm.less ⋯) ⋯ (by first | assumption | exact Nat.le_of_ble_eq_true rfl) ?_; intro _ _ _ _ _; refine r_args0 ?_; refine r_tuple ⋯ ?_; intro _ _ _ _ _; refine r_unpackN ⋯ (Rm.h ⋯) ⋯ ?_; intro _ _; refine r_inOrder (r_bindName ?_); walk_at "t"; refine r_inOrder (r_bindName ?_); walk_at "t"; refine r_inOrder0 ?_; walk_at "n"; refine r_assign2 (r_tupleE (r_args (r_callM ?_))); walk_at "l"; refine x_m_zone ⋯ ⋯ ⋯ ⋯ ?_; refine r_cwK ⋯ ⋯ (m_W_zone _).kp ?_; refine r_args (r_attrN ?_); walk_at "l"; refine x_z0 ⋯ ⋯ ⋯ ⋯ ?_; intro _ _ _; refine r_args0 ?_; walk_at "k"; refine sp_zone ⋯ ⋯ ⋯ ⋯ (Rm.less ⋯) ⋯ ?_; intro _ _; refine r_args (r_callM ?_); walk_at "l"; refine x_m_zone ⋯ ⋯ ⋯ ⋯ ?_; refine r_cwK ⋯ ⋯ (m_W_zone _).kp ?_; refine r_args (r_attrN ?_); walk_at "l"; refine x_z1 ⋯ ⋯ ⋯ ⋯ ?_; intro _ _ _; refine r_args0 ?_; walk_at "k"; refine sp_zone ⋯ ⋯ ⋯ ⋯ (Rm.less ⋯) ⋯ ?_; intro _ _; refine r_args0 ?_; refine r_tuple ⋯ ?_; intro _ _ _ _ _; refine r_unpackN ⋯ (Rm.h ⋯) ⋯ ?_; intro _ _; refine r_inOrder (r_bindName ?_); walk_at "t"; refine r_inOrder (r_bindName ?_); walk_at "t"; refine r_inOrder0 ?_; walk_at "n"; refine r_assign ?_; refine r_callG ⋯ ⋯ (g_measured _) (k_measured _) ?_; refine r_args ?_; walk_at "l"; refine r_args (Mine.r_sub (r_attrN ?_)); walk_at "l"; refine x_zc ⋯ ⋯ ⋯ ⋯ ⋯ ?_; intro _ _; refine r_callM ?_; walk_at "l"; refine x_m_check ⋯ ⋯ ⋯ ⋯ ⋯ ?_; refine r_cwK ⋯ ⋯ (m_Z_check _).kp ?_; refine r_args ?_; walk_at "l"; refine r_args0 ?_; walk_at "k"; refine sp_check ⋯ ⋯ ⋯ ⋯ (Rm.less ⋯) ⋯ ⋯ ?_; intro _ _; refine X_c ⋯ ⋯ ⋯ ⋯ ⋯ ?_; intro _ _; refine r_args (Mine.r_sub (r_attrN ?_)); walk_at "l"; refine x_zc ⋯ ⋯ ⋯ ⋯ ⋯ ?_; intro _ _; refine r_callM ?_; walk_at "l"; refine x_m_check ⋯ ⋯ ⋯ ⋯ ⋯ ?_; refine r_cwK ⋯ ⋯ (m_Z_check _).kp ?_; refine r_args ?_; walk_at "l"; refine r_args0 ?_; walk_at "k"; refine sp_check ⋯ ⋯ ⋯ ⋯ (Rm.less ⋯) ⋯ ⋯ ?_; intro _ _; refine X_c ⋯ ⋯ ⋯ ⋯ ⋯ ?_; intro _ _; refine r_args0 ?_; walk_at "k"; refine sp_measured ⋯ ⋯ ⋯ ⋯ (Rm.less ⋯) ⋯ ⋯ ?_; intro _ _ _; walk_at "t"; walk_at "n"; refine r_assign ?_; refine r_callG ⋯ ⋯ (g_cut_div _) (k_cut_div _) ?_; refine r_args ?_; walk_at "l"; refine r_args ?_; walk_at "i"; refine r_args ?_; walk_at "i"; refine r_args0 ?_; walk_at "k"; refine sp_cut_div ⋯ ⋯ (Rm.less ⋯) (ok_r _ (by decide)) (by decide) (oq157) (oq158) ?_; intro _ _ _; walk_at "t"; walk_at "n"; refine r_expr ?_; refine r_callG ⋯ ⋯ (g_move_point _) (k_move_point _) ?_; refine r_args ?_; walk_at "l"; refine r_args ?_; walk_at "l"; refine r_args ?_; walk_at "l"; refine r_args ?_; walk_at "l"; refine r_args0 ?_; walk_at "k"
  refine sp_move_point (i := D.z1.toNat) C ⋯ ⋯ hu (Rm.less hA1) hzi1 hnq1 (by exact hf) ?_
  rintro s4 ⟨G4, ad4, ob4, le4, K4, S4, R4⟩
  walk_at "n"; refine r_expr ?_; refine r_callG ⋯ ⋯ (g_move_point _) (k_move_point _) ?_; refine r_args ?_; walk_at "l"; refine r_args ?_; walk_at "l"; refine r_args ?_; walk_at "l"; refine r_args (r_bin ?_); walk_at "i"; walk_at "l"; refine n_sub ?_; walk_at "d"; refine r_args0 ?_; walk_at "k"
  refine sp_move_point (i := D.z0.toNat) C ⋯ R4 hu (Rm.less hA1) hzi0 hnq0 (by exact hf) ?_
  rintro s5 ⟨G5, ad5, ob5, le5, K5, S5, R5⟩
  walk_at "e"; refine r_nil ?_; dsimp only
  exact k _ _ rfl (Dn.intro (fun _ _ g => le5 _ _ (le4 _ _ g)) (Kp.trans (Kp.trans (Kp.up (oq155) (Kp.up (oq155) (Kp.refl _ _ _))) K4) K5) (back _ _ _ _ _ S5.H S5.S) R5)
theorem sp_utp {c : Int} {t : Tok} (C : Cx w B) (S : St B L loc Z G ad ob us s₀ s) (R : Rel D a G ad ob) (hu : ∀ k, US k → us k) (hA : Rm A 6) (hz0 : D.z0 = 0 ∨ D.z0 = 1) (f : Int) (hf : D.fr = axv f) (hN : D.nums = [n]) (hn : 0 ≤ n ∧ n < 3)
   (k : ∀ s', Dn B L loc Z G ad ob us s₀ a ((D.sn []).sq D.z0.toNat ((D.q D.z0.toNat).st n (tch f false ((D.q D.z0.toNat).t n)))) s' → Q .none s') : WP pw w A (call (.ref 148) [.ref a.w, .int c t]) Q E s := by
  obtain ⟨Z', H', back⟩ := S.lend
  refine r_call [("work", .ref a.w), ("code", .int c t)] C H' hA rfl rfl (BindsTo.of_eq rfl) (locs rfl) ?_
  intro A1 L1 s1 hA1 S1
  have hzi0 : D.z0.toNat < 2 := oq51 hz0
  have hqi0 : D.z0.toNat < 4 := oq154 hzi0
  have h30 := nq_ge D.z0.toNat
  have h6 := nq_le D.z0.toNat
  have hnq0 : 0 ≤ n ∧ n < nq D.z0.toNat := oq54 hn h30
  have hN' : D.nums = [] ++ [n] := hN
  by_cases q : f = 0
  · have f1 : ¬ D.fr.1 = 0 := by rw [hf]; unfold axv; rw [if_pos q]; decide
    have f2 : D.fr.2 = 0 := by rw [hf]; unfold axv; rw [if_pos q]
    rw [q] at k
    walk_at "c"; refine r_assign (r_callM ?_); walk_at "l"; refine x_m_zone ⋯ ⋯ ⋯ ⋯ ?_; refine r_cwK ⋯ ⋯ (m_W_zone _).kp ?_; refine r_args (r_attr (r_attrN ?_)); walk_at "l"; refine x_wst ⋯ ⋯ ⋯ ⋯ ?_; intro _ _; refine x_z0 ⋯ ⋯ ⋯ ⋯ ?_; intro _ _ _; refine r_args0 ?_; walk_at "k"; refine sp_zone ⋯ ⋯ ⋯ ⋯ (Rm.less ⋯) ⋯ ?_; intro _ _; walk_at "t"; walk_at "n"; refine r_assign (r_callM ?_); walk_at "l"; refine x_m_check ⋯ ⋯ ⋯ ⋯ ⋯ ?_; refine r_cwK ⋯ ⋯ (m_Z_check _).kp ?_; refine r_args ?_; refine r_callM (pl := pure false) ?_; refine r_attrN ?_; walk_at "l"; refine x_wsk ⋯ ⋯ ⋯ ⋯ ?_; intro _ _; refine x_m_pop ⋯ ⋯ ⋯ ⋯ ?_; refine r_cwK0 ⋯ ⋯ (m_K_pop _).kp ?_; refine sp_pop ⋯ ⋯ ⋯ ⋯ (Rm.less ⋯) ⋯ (by first | assumption | exact Nat.le_of_ble_eq_true rfl) ?_; intro _ _ _ _ _; refine r_args0 ?_; walk_at "k"; refine sp_check ⋯ ⋯ ⋯ ⋯ (Rm.less ⋯) ⋯ ⋯ ?_; intro _ _; walk_at "t"; walk_at "n"; refine r_if (r_isCmp (Mine.r_sub (r_attr (r_attrN ?_)))); walk_at "l"; refine x_wst ⋯ ⋯ ⋯ ⋯ ?_; intro _ _; refine x_fr ⋯ ⋯ ⋯ ⋯ ?_; intro _ _ _ _; walk_at "i"; refine x_p0 ⋯ ⋯ ?_; intro _; walk_at "i"; refine r_ne (r_truthy ?_); refine bne_t ⋯ ?_; walk_at "c"; refine r_assignS ?_; refine r_bool ?_; refine Mine.r_sub (r_attrN ?_); walk_at "l"; refine x_zt ⋯ ⋯ ⋯ ⋯ ⋯ ?_; intro _ _; walk_at "l"; refine X_t ⋯ ⋯ ⋯ ⋯ ⋯ ?_; walk_at "i"; refine Y_m ⋯ ⋯ ⋯ ⋯ ⋯ (.inl rfl) ?_; intro _ _ _ _; walk_at "e"; refine r_nil ?_; walk_at "n"; refine r_if (r_isCmp (Mine.r_sub (r_attr (r_attrN ?_)))); walk_at "l"; refine x_wst ⋯ ⋯ ⋯ ⋯ ?_; intro _ _; refine x_fr ⋯ ⋯ ⋯ ⋯ ?_; intro _ _ _ _; walk_at "i"; refine x_p1 ⋯ ⋯ ?_; intro _; walk_at "i"; refine r_ne (r_truthy ?_); refine bne_f ⋯ ?_; refine r_nil ?_; walk_at "e"; refine r_nil ?_; dsimp only
    refine k _ (Dn.intro (G' := G) (ad' := ad) (fun _ _ g => g) ?_ (back _ _ _ _ _ (St.H ⋯) (St.S ⋯)) ⋯)
    refine Kp.up (oq159 hn hzi0) ?_; refine Kp.up (oq155) ?_; exact Kp.refl _ _ _
  · have f1 : D.fr.1 = 0 := by rw [hf]; unfold axv; rw [if_neg q]
    have f2 : ¬ D.fr.2 = 0 := by rw [hf]; unfold axv; rw [if_neg q]; decide
    rw [show tch f false ((D.q D.z0.toNat).t n) = tch 1 false ((D.q D.z0.toNat).t n) by unfold tch; rw [if_neg q]; rfl] at k
    walk_at "c"; refine r_assign (r_callM ?_); walk_at "l"; refine x_m_zone ⋯ ⋯ ⋯ ⋯ ?_; refine r_cwK ⋯ ⋯ (m_W_zone _).kp ?_; refine r_args (r_attr (r_attrN ?_)); walk_at "l"; refine x_wst ⋯ ⋯ ⋯ ⋯ ?_; intro _ _; refine x_z0 ⋯ ⋯ ⋯ ⋯ ?_; intro _ _ _; refine r_args0 ?_; walk_at "k"; refine sp_zone ⋯ ⋯ ⋯ ⋯ (Rm.less ⋯) ⋯ ?_; intro _ _; walk_at "t"; walk_at "n"; refine r_assign (r_callM ?_); walk_at "l"; refine x_m_check ⋯ ⋯ ⋯ ⋯ ⋯ ?_; refine r_cwK ⋯ ⋯ (m_Z_check _).kp ?_; refine r_args ?_; refine r_callM (pl := pure false) ?_; refine r_attrN ?_; walk_at "l"; refine x_wsk ⋯ ⋯ ⋯ ⋯ ?_; intro _ _; refine x_m_pop ⋯ ⋯ ⋯ ⋯ ?_; refine r_cwK0 ⋯ ⋯ (m_K_pop _).kp ?_; refine sp_pop ⋯ ⋯ ⋯ ⋯ (Rm.less ⋯) ⋯ (by first | assumption | exact Nat.le_of_ble_eq_true rfl) ?_; intro _ _ _ _ _; refine r_args0 ?_; walk_at "k"; refine sp_check ⋯ ⋯ ⋯ ⋯ (Rm.less ⋯) ⋯ ⋯ ?_; intro _ _; walk_at "t"; walk_at "n"; refine r_if (r_isCmp (Mine.r_sub (r_attr (r_attrN ?_)))); walk_at "l"; refine x_wst ⋯ ⋯ ⋯ ⋯ ?_; intro _ _; refine x_fr ⋯ ⋯ ⋯ ⋯ ?_; intro _ _ _ _; walk_at "i"; refine x_p0 ⋯ ⋯ ?_; intro _; walk_at "i"; refine r_ne (r_truthy ?_); refine bne_f ⋯ ?_; refine r_nil ?_; walk_at "n"; refine r_if (r_isCmp (Mine.r_sub (r_attr (r_attrN ?_)))); walk_at "l"; refine x_wst ⋯ ⋯ ⋯ ⋯ ?_; intro _ _; refine x_fr ⋯ ⋯ ⋯ ⋯ ?_; intro _ _ _ _; walk_at "i"; refine x_p1 ⋯ ⋯ ?_; intro _; walk_at "i"; refine r_ne (r_truthy ?_); refine bne_t ⋯ ?_; walk_at "c"; refine r_assignS ?_; refine r_bool ?_; refine Mine.r_sub (r_attrN ?_); walk_at "l"; refine x_zt ⋯ ⋯ ⋯ ⋯ ⋯ ?_; intro _ _; walk_at "l"; refine X_t ⋯ ⋯ ⋯ ⋯ ⋯ ?_; walk_at "i"; refine Y_m ⋯ ⋯ ⋯ ⋯ ⋯ (.inr rfl) ?_; intro _ _ _ _; walk_at "e"; refine r_nil ?_; walk_at "e"; refine r_nil ?_; dsimp only
    refine k _ (Dn.intro (G' := G) (ad' := ad) (fun _ _ g => g) ?_ (back _ _ _ _ _ (St.H ⋯) (St.S ⋯)) ⋯)
    refine Kp.up (oq159 hn hzi0) ?_; refine Kp.up (oq155) ?_; exact Kp.refl _ _ _
end
section
variable {ad : Nat → Addr} {ob : Nat → Obj} {l : Addr} {v : Value} {i : Int} {u : Tok}
theorem x_mklist (S : St B L loc Z G ad ob us s₀ s) (h : ∀ b G2 s', (∀ c o, G c o → G2 c o) → G2 b (lstO vs) → St B L loc Z G2 ad ob us s₀ s' → Q (.ref b) s') (hsz : vs.length ≤ 1000 := by exact Nat.le_of_ble_eq_true rfl) : WP pw w A (newList vs) Q E s := by
  refine r_list S (fun b s' S' e f => ?_) hsz
  obtain ⟨G2, le, g, S2⟩ := S'.addG' e (still_lst _) f.k
  exact h b G2 s' le g S2
theorem r_listAdd (S : St B L loc Z G ad ob us s₀ s) (hl : s.heap.IsList l vs.toArray) (hb : s.heap.IsList b ws.toArray) (hsz : vs.length + ws.length ≤ 1000)
    (h : ∀ a s', St B L loc Z G ad ob us s₀ s' → s'.heap.get? a = some (lstO (vs ++ ws)) → New Z G ad us L a → Q (.ref a) s') : WP pw w A (binaryOp .Add (.ref l) (.ref b)) Q E s := by
  delta WP
  obtain ⟨⟨cls, dd, data, sl⟩, ho, hc, n, hd⟩ := id hl
  obtain ⟨⟨cls2, dd2, data2, sl2⟩, ho2, hc2, n2, hd2⟩ := id hb
  simp only at hc hd hc2 hd2
  subst hc hd hc2 hd2
  have e : vs.toArray ++ ws.toArray = (vs ++ ws).toArray := by simp
  refine concat_meets ⟨_, ho, rfl⟩ ⟨_, ho2, rfl⟩ noFill_list_add seq_list_add PySem.F.slot_list_add PySem.F.entry_list_add (PySem.F.args_list_add_2 _ _) (list_addW l b vs.toArray ws.toArray n n2 dd dd2 sl sl2 (by simp only [List.size_toArray]; rw [sizeLine_eq]; exact oq574 hsz)) ⟨ho, ho2, ?_⟩
  rw [e]
  refine h _ _ (S.push _) (Heap.get?_push_size _ rfl) ⟨S.fresh, fun o z => ?_, fun o z => ?_, ?_⟩
  · exact Nat.lt_irrefl _ (Heap.lt_size (S.H.sil _ o z))
  · exact Nat.lt_irrefl _ (Heap.lt_size (S.H.imm _ o z).1)
  · obtain ⟨m, F, _⟩ := S.F
    obtain ⟨oL, _, _, hL, _⟩ := F.ns
    exact Nat.ne_of_gt (Heap.lt_size hL)
theorem x_gl {j : Nat} (S : St B L loc Z G ad ob us s₀ s) (g : G b (lstO vs)) (hx : vs[i.toNat]? = some v) (h : Q v s) (h0 : 0 ≤ i := by decide) (hi : i < 2 ^ 62 := by decide)
    (hs : subscripted slice false (.ref b) (.int i u) = operate [.ref b, .int i u] (getItem (.ref b) (.int i u)) := by with_unfolding_all rfl) : WP pw w A (subscriptTail value slice (.ref b) (.int i u)) Q E s :=
  r_gitem S g (IsL.lst _) h0 hi hx h hs
structure Hold (Z G G2 : Addr → Obj → Prop) (ad : Nat → Addr) (us : Nat → Prop) (L : Addr) (b : Addr) (o : Obj) : Prop where
  e : ∀ c p, G2 c p ↔ (G c p ∨ (c = b ∧ p = o))
  n : New Z G ad us L b
theorem Hold.le {G2 : Addr → Obj → Prop} {o : Obj} (h : Hold Z G G2 ad us L b o) : ∀ c p, G c p → G2 c p := fun c p g => (h.e c p).mpr (.inl g)
theorem Hold.get {G2 : Addr → Obj → Prop} {o : Obj} (h : Hold Z G G2 ad us L b o) (S : St B L loc Z G2 ad ob us s₀ s) : s.heap.get? b = some o := (S.H.imm b o ((h.e b o).mpr (.inr ⟨rfl, rfl⟩))).1
theorem Hold.back {G2 : Addr → Obj → Prop} {o : Obj} (h : Hold Z G G2 ad us L b o) (S : St B L loc Z G2 ad ob us s₀ s) : St B L loc Z G ad ob us s₀ s := S.lessG h.le
theorem Hold.of {o : Obj} (n : New Z G ad us L b) : Hold Z G (fun c p => G c p ∨ (c = b ∧ p = o)) ad us L b o := ⟨fun _ _ => Iff.rfl, n⟩
theorem x_hold (S : St B L loc Z G ad ob us s₀ s) (h : ∀ b G2 s', (∀ c o, G c o → G2 c o) → Hold Z G G2 ad us L b (lstO vs) → St B L loc Z G2 ad ob us s₀ s' → Q (.ref b) s') (hsz : vs.length ≤ 1000 := by exact Nat.le_of_ble_eq_true rfl) : WP pw w A (newList vs) Q E s := by
  refine r_list S (fun b s' S' e f => ?_) hsz
  exact h b _ s' (fun _ _ g => .inl g) (Hold.of f) (S'.addG e (still_lst _) f.k)
theorem gIsL (S : St B L loc Z G ad ob us s₀ s) (g : G b (lstO vs)) : s.heap.IsList b vs.toArray := IsL.at (S.H.imm _ _ g).1 (IsL.lst _)
theorem r_range2 {lo hi : Int} {t u : Tok} (S : St B L loc Z G ad ob us s₀ s) (h : ∀ r t u v s', St B L loc Z G ad ob us s₀ s' → IsRange s'.heap r lo hi 1 t u v → Q (.ref r) s') : WP pw w A (call (.type "range") [.int lo t, .int hi u]) Q E s := by
  delta WP
  exact call_range_2 (h _ _ _ _ _ ((S.push _).toks _) (IsRange.new ..))
theorem r_range1 {hi : Int} {u : Tok} (S : St B L loc Z G ad ob us s₀ s) (h : ∀ r t u v s', St B L loc Z G ad ob us s₀ s' → IsRange s'.heap r 0 hi 1 t u v → Q (.ref r) s') : WP pw w A (call (.type "range") [.int hi u]) Q E s := by
  delta WP
  exact call_range_1 (h _ _ _ _ _ ((S.push _).toks _) (IsRange.new ..))
end
section
variable {ad : Nat → Addr} {ob : Nat → Obj} {a : Adr} {i : Nat} {n : Int} {u : Tok} {v : Value}
theorem sp_isect {x1 x2 x3 x4 c : Int} {t : Tok} (C : Cx w B) (S : St B L loc Z G ad ob us s₀ s) (R : Rel D a G ad ob) (hu : ∀ k, US k → us k) (hA : Rm A 6) (hz0 : D.z0 = 0 ∨ D.z0 = 1) (hz1 : D.z1 = 0 ∨ D.z1 = 1) (hz2 : D.z2 = 0 ∨ D.z2 = 1)
   (hN : D.nums = [n, x1, x2, x3, x4]) (hn : 0 ≤ n ∧ n < 3) (h1 : 0 ≤ x1 ∧ x1 < 3) (h2 : 0 ≤ x2 ∧ x2 < 3) (h3 : 0 ≤ x3 ∧ x3 < 3) (h4 : 0 ≤ x4 ∧ x4 < 3) (hb : ∀ i, i < 2 → ∀ n, 0 ≤ n ∧ n < 3 → Bp ((D.q i).c n))
   (k : ∀ s', Dn B L loc Z G ad ob us s₀ a ((D.sn []).sq D.z2.toNat (((D.q D.z2.toNat).sc n (crossP ((D.q D.z1.toNat).c x1) ((D.q D.z1.toNat).c x2) ((D.q D.z0.toNat).c x3) ((D.q D.z0.toNat).c x4))).st n (true, true))) s' → Q .none s') : WP pw w A (call (.ref 134) [.ref a.w, .int c t]) Q E s := by
  obtain ⟨Z', H', back⟩ := S.lend
  refine r_call [("work", .ref a.w), ("code", .int c t)] C H' hA rfl rfl (BindsTo.of_eq rfl) (locs rfl) ?_
  intro A1 L1 s1 hA1 S1
  have hzi0 : D.z0.toNat < 2 := oq51 hz0
  have hzi1 : D.z1.toNat < 2 := oq51 hz1
  have hzi2 : D.z2.toNat < 2 := oq51 hz2
  have hqi0 : D.z0.toNat < 4 := oq154 hzi0
  have hqi1 : D.z1.toNat < 4 := oq154 hzi1
  have hqi2 : D.z2.toNat < 4 := oq154 hzi2
  have h30 := nq_ge D.z0.toNat
  have h31 := nq_ge D.z1.toNat
  have h32 := nq_ge D.z2.toNat
  have h6 := nq_le D.z2.toNat
  have e1 : 0 ≤ n ∧ n < nq D.z2.toNat := oq54 hn h32
  have e2 : 0 ≤ x1 ∧ x1 < nq D.z1.toNat := oq54 h1 h31
  have e3 : 0 ≤ x2 ∧ x2 < nq D.z1.toNat := oq54 h2 h31
  have e4 : 0 ≤ x3 ∧ x3 < nq D.z0.toNat := oq54 h3 h30
  have e5 : 0 ≤ x4 ∧ x4 < nq D.z0.toNat := oq54 h4 h30
  have hN1 : D.nums = [n, x1, x2, x3] ++ [x4] := hN
  have hN2 : [n, x1, x2, x3] = [n, x1, x2] ++ [x3] := rfl
  have hN3 : [n, x1, x2] = [n, x1] ++ [x2] := rfl
  have hN4 : [n, x1] = [n] ++ [x1] := rfl
  have hN5 : [n] = [] ++ [n] := rfl
  walk_at "c"; refine r_assign (r_attrN ?_); walk_at "l"; refine x_wst ⋯ ⋯ ⋯ ⋯ ?_; intro _ _; walk_at "t"; walk_at "n"; refine r_assignT (r_tupleE (r_args ?_)); refine r_callM (pl := pure false) ?_; refine r_attrN ?_; walk_at "l"; refine x_wsk ⋯ ⋯ ⋯ ⋯ ?_; intro _ _; refine x_m_pop ⋯ ⋯ ⋯ ⋯ ?_; refine r_cwK0 ⋯ ⋯ (m_K_pop _).kp ?_; refine sp_pop ⋯ ⋯ ⋯ ⋯ (Rm.less ⋯) ⋯ (by first | assumption | exact Nat.le_of_ble_eq_true rfl) ?_; intro _ _ _ _ _; refine r_args ?_; refine r_callM (pl := pure false) ?_; refine r_attrN ?_; walk_at "l"; refine x_wsk ⋯ ⋯ ⋯ ⋯ ?_; intro _ _; refine x_m_pop ⋯ ⋯ ⋯ ⋯ ?_; refine r_cwK0 ⋯ ⋯ (m_K_pop _).kp ?_; refine sp_pop ⋯ ⋯ ⋯ ⋯ (Rm.less ⋯) ⋯ (by first | assumption | exact Nat.le_of_ble_eq_true rfl) ?_; intro _ _ _ _ _; refine r_args ?_; refine r_callM (pl := pure false) ?_; refine r_attrN ?_; walk_at "l"; refine x_wsk ⋯ ⋯ ⋯ ⋯ ?_; intro _ _; refine x_m_pop ⋯ ⋯ ⋯ ⋯ ?_; refine r_cwK0 ⋯ ⋯ (m_K_pop _).kp ?_; refine sp_pop ⋯ ⋯ ⋯ ⋯ (Rm.less ⋯) ⋯ (by first | assumption | exact Nat.le_of_ble_eq_true rfl) ?_; intro _ _ _ _ _; refine r_args ?_; refine r_callM (pl := pure false) ?_; refine r_attrN ?_; walk_at "l"; refine x_wsk ⋯ ⋯ ⋯ ⋯ ?_; intro _ _; refine x_m_pop ⋯ ⋯ ⋯ ⋯ ?_; refine r_cwK0 ⋯ ⋯ (m_K_pop _).kp ?_; refine sp_pop ⋯ ⋯ ⋯ ⋯ (Rm.less ⋯) ⋯ (by first | assumption | exact Nat.le_of_ble_eq_true rfl) ?_; intro _ _ _ _ _; refine r_args0 ?_; refine r_tuple ⋯ ?_; intro _ _ _ _ _; refine r_unpack ⋯ (Rm.h ⋯) ⋯ ?_; intro _ _; refine r_inOrder (r_asName ?_); walk_at "t"; refine r_inOrder (r_asName ?_); walk_at "t"; refine r_inOrder (r_asName ?_); walk_at "t"; refine r_inOrder (r_asName ?_); walk_at "t"; refine r_inOrder0 ?_; walk_at "n"; refine r_assign (r_callM ?_); walk_at "l"; refine x_m_zone ⋯ ⋯ ⋯ ⋯ ?_; refine r_cwK ⋯ ⋯ (m_W_zone _).kp ?_; refine r_args (r_attrN ?_); walk_at "l"; refine x_z2 ⋯ ⋯ ⋯ ⋯ ?_; intro _ _ _; refine r_args0 ?_; walk_at "k"; refine sp_zone ⋯ ⋯ ⋯ ⋯ (Rm.less ⋯) ⋯ ?_; intro _ _; walk_at "t"; walk_at "n"; refine r_assign (r_callM ?_); walk_at "l"; refine x_m_check ⋯ ⋯ ⋯ ⋯ ⋯ ?_; refine r_cwK ⋯ ⋯ (m_Z_check _).kp ?_; refine r_args ?_; refine r_callM (pl := pure false) ?_; refine r_attrN ?_; walk_at "l"; refine x_wsk ⋯ ⋯ ⋯ ⋯ ?_; intro _ _; refine x_m_pop ⋯ ⋯ ⋯ ⋯ ?_; refine r_cwK0 ⋯ ⋯ (m_K_pop _).kp ?_; refine sp_pop ⋯ ⋯ ⋯ ⋯ (Rm.less ⋯) ⋯ (by first | assumption | exact Nat.le_of_ble_eq_true rfl) ?_; intro _ _ _ _ _; refine r_args0 ?_; walk_at "k"; refine sp_check ⋯ ⋯ ⋯ ⋯ (Rm.less ⋯) ⋯ ⋯ ?_; intro _ _; walk_at "t"; walk_at "n"; refine r_assign2 (r_tupleE (r_args (r_callM ?_))); walk_at "l"; refine x_m_zone ⋯ ⋯ ⋯ ⋯ ?_; refine r_cwK ⋯ ⋯ (m_W_zone _).kp ?_; refine r_args (r_attrN ?_); walk_at "l"; refine x_z1 ⋯ ⋯ ⋯ ⋯ ?_; intro _ _ _; refine r_args0 ?_; walk_at "k"; refine sp_zone ⋯ ⋯ ⋯ ⋯ (Rm.less ⋯) ⋯ ?_; intro _ _; refine r_args (r_callM ?_); walk_at "l"; refine x_m_zone ⋯ ⋯ ⋯ ⋯ ?_; refine r_cwK ⋯ ⋯ (m_W_zone _).kp ?_; refine r_args (r_attrN ?_); walk_at "l"; refine x_z0 ⋯ ⋯ ⋯ ⋯ ?_; intro _ _ _; refine r_args0 ?_; walk_at "k"; refine sp_zone ⋯ ⋯ ⋯ ⋯ (Rm.less ⋯) ⋯ ?_; intro _ _; refine r_args0 ?_; refine r_tuple ⋯ ?_; intro _ _ _ _ _; refine r_unpackN ⋯ (Rm.h ⋯) ⋯ ?_; intro _ _; refine r_inOrder (r_bindName ?_); walk_at "t"; refine r_inOrder (r_bindName ?_); walk_at "t"; refine r_inOrder0 ?_; walk_at "n"; refine r_assign (r_listE (r_args (Mine.r_sub (r_attrN ?_)))); walk_at "l"; refine x_zc ⋯ ⋯ ⋯ ⋯ ⋯ ?_; intro _ _; refine r_callM ?_; walk_at "l"; refine x_m_check ⋯ ⋯ ⋯ ⋯ ⋯ ?_; refine r_cwK ⋯ ⋯ (m_Z_check _).kp ?_; refine r_args ?_; walk_at "l"; refine r_args0 ?_; walk_at "k"; refine sp_check ⋯ ⋯ ⋯ ⋯ (Rm.less ⋯) ⋯ ⋯ ?_; intro _ _; refine X_c ⋯ ⋯ ⋯ ⋯ ⋯ ?_; intro _ _; refine r_args (Mine.r_sub (r_attrN ?_)); walk_at "l"; refine x_zc ⋯ ⋯ ⋯ ⋯ ⋯ ?_; intro _ _; refine r_callM ?_; walk_at "l"; refine x_m_check ⋯ ⋯ ⋯ ⋯ ⋯ ?_; refine r_cwK ⋯ ⋯ (m_Z_check _).kp ?_; refine r_args ?_; walk_at "l"; refine r_args0 ?_; walk_at "k"; refine sp_check ⋯ ⋯ ⋯ ⋯ (Rm.less ⋯) ⋯ ⋯ ?_; intro _ _; refine X_c ⋯ ⋯ ⋯ ⋯ ⋯ ?_; intro _ _; refine r_args0 ?_
  refine x_mklist ⋯ ?_
  intro b1 G1 s2 le1 g1 S2
  have R1 := Rel.mono ⋯ le1
  have P1 : IsPt G1 _ ((D.q D.z1.toNat).c x1) := IsPt.mono le1 ⋯
  have P2 : IsPt G1 _ ((D.q D.z1.toNat).c x2) := IsPt.mono le1 ⋯
  walk_at "t"; walk_at "n"; refine r_assign (r_bin ?_); walk_at "l"; refine r_listE (r_args (Mine.r_sub (r_attrN ?_))); walk_at "l"; refine x_zc ⋯ ⋯ ⋯ ⋯ ⋯ ?_; intro _ _; refine r_callM ?_; walk_at "l"; refine x_m_check ⋯ ⋯ ⋯ ⋯ ⋯ ?_; refine r_cwK ⋯ ⋯ (m_Z_check _).kp ?_; refine r_args ?_; walk_at "l"; refine r_args0 ?_; walk_at "k"; refine sp_check ⋯ ⋯ ⋯ ⋯ (Rm.less ⋯) ⋯ ⋯ ?_; intro _ _; refine X_c ⋯ ⋯ ⋯ ⋯ ⋯ ?_; intro _ _; refine r_args (Mine.r_sub (r_attrN ?_)); walk_at "l"; refine x_zc ⋯ ⋯ ⋯ ⋯ ⋯ ?_; intro _ _; refine r_callM ?_; walk_at "l"; refine x_m_check ⋯ ⋯ ⋯ ⋯ ⋯ ?_; refine r_cwK ⋯ ⋯ (m_Z_check _).kp ?_; refine r_args ?_; walk_at "l"; refine r_args0 ?_; walk_at "k"; refine sp_check ⋯ ⋯ ⋯ ⋯ (Rm.less ⋯) ⋯ ⋯ ?_; intro _ _; refine X_c ⋯ ⋯ ⋯ ⋯ ⋯ ?_; intro _ _; refine r_args0 ?_
  refine x_mklist ⋯ ?_
  intro b2 G2 s3 le2 g2 S3
  have R2 := Rel.mono R1 le2
  have P3 := P1.mono le2
  have P4 := P2.mono le2
  have P5 : IsPt G2 _ ((D.q D.z0.toNat).c x3) := IsPt.mono le2 ⋯
  have P6 : IsPt G2 _ ((D.q D.z0.toNat).c x4) := IsPt.mono le2 ⋯
  replace g1 := le2 _ _ g1
  refine r_listAdd S3 (gIsL S3 g1) (gIsL S3 g2) (Nat.le_of_ble_eq_true rfl) ?_
  intro b3 s4 S4 hb3 N3
  obtain ⟨G3, le3, g3, S5⟩ := S4.addG' hb3 (still_lst _) N3.k
  have R3 := R2.mono le3
  have P7 := P3.mono le3
  have P8 := P4.mono le3
  have P9 := P5.mono le3
  have P10 := P6.mono le3
  clear S4 S3 g1 g2 P3 P4 P5 P6 P1 P2
  walk_at "t"; walk_at "n"; refine r_expr (r_callM ?_); walk_at "l"; refine x_m_put ⋯ ⋯ ⋯ ⋯ ⋯ ?_; refine r_cwK ⋯ ⋯ (m_Z_put _).kp ?_; refine r_args ?_; walk_at "l"; refine r_args ?_; refine r_callG ⋯ ⋯ (g_crossing _) (k_crossing _) ?_; refine r_args (Mine.r_sub ?_); walk_at "l"; walk_at "i"; refine x_gl (j := 0) ⋯ ⋯ rfl ?_; refine r_args (Mine.r_sub ?_); walk_at "l"; walk_at "i"; refine x_gl (j := 0) ⋯ ⋯ rfl ?_; refine r_args (Mine.r_sub ?_); walk_at "l"; walk_at "i"; refine x_gl (j := 0) ⋯ ⋯ rfl ?_; refine r_args (Mine.r_sub ?_); walk_at "l"; walk_at "i"; refine x_gl (j := 0) ⋯ ⋯ rfl ?_; refine r_args0 ?_; walk_at "k"
  refine sp_crossing C ⋯ (Rm.less ⋯) P7 P8 P9 P10 (hb _ hzi1 _ h1) (hb _ hzi1 _ h2) (hb _ hzi0 _ h3) (hb _ hzi0 _ h4) ?_
  intro G4 v s6 le4 hv S6
  have R4 := R3.mono le4
  refine r_args0 ?_; walk_at "k"; refine sp_put ⋯ ⋯ ⋯ ⋯ (Rm.less ⋯) ⋯ ⋯ ⋯ ?_; intro _ _ _ _; walk_at "n"; refine r_assignS (r_listE (r_args ?_)); refine r_bool ?_; refine r_args ?_; refine r_bool ?_; refine r_args0 ?_
  refine x_hold ⋯ ?_
  intro b7 G7 s8 le7 N7 S8
  rename_i o4 s7 S7 R7
  have R8 := R7.mono le7
  refine r_attrN ?_; walk_at "l"; refine x_zt ⋯ ⋯ ⋯ ⋯ ⋯ ?_; intro _ _; walk_at "l"
  rename_i s9 S9
  refine Y_t (p := (true, true)) (N7.back S9) R7 hu hqi2 e1 (N7.get S9) N7.n ?_
  intro ad5 ob5 s10 K10 S10 R10
  walk_at "e"; refine r_nil ?_; dsimp only
  rw [sq_sq, sq_q] at R10
  try refine nx_ret ⋯ ?_
  refine k _ (Dn.intro (fun _ _ g => le4 _ _ (le3 _ _ (le2 _ _ (le1 _ _ g)))) (Kp.trans ?_ K10) (back _ _ _ _ _ S10.H S10.S) ?_)
  · refine Kp.up (show 16 * D.z2.toNat + 17 < 80 by exact oq575 hzi2) ?_
    refine Kp.up (oq155) ?_; refine Kp.up (oq155) ?_; refine Kp.up (oq155) ?_; refine Kp.up (oq155) ?_; refine Kp.up (oq155) ?_; exact Kp.refl _ _ _
  · exact R10
noncomputable def Kn : List (Str × Value) → List (Str × Value) → Prop
  | [], _ => True
  | (x, v) :: r, loc => loc.lookup x = some v ∧ Kn r loc
theorem Kn.sub {need loc : List (Str × Value)} (h : Kn need loc) : ∀ p ∈ need, loc.lookup p.1 = some p.2 := by
  induction need with
  | nil => intro p hp; cases hp
  | cons q r ih =>
    intro p hp
    obtain ⟨x, v⟩ := q
    cases hp with
    | head => exact h.1
    | tail _ hp => exact ih h.2 p hp
theorem Kn.skip {need loc : List (Str × Value)} {x : Str} {v : Value} (h : Kn need loc) (hn : (need.all fun p => !(p.1 == x)) = true) : Kn need ((x, v) :: loc) := by
  induction need with
  | nil => trivial
  | cons q r ih =>
    obtain ⟨y, u⟩ := q
    rw [List.all_cons, Bool.and_eq_true] at hn
    refine ⟨?_, ih h.2 hn.2⟩
    rw [List.lookup_cons]
    have : (y == x) = false := by simpa using hn.1
    rw [this]; exact h.1
theorem Kn.cons {need loc : List (Str × Value)} {x : Str} {v : Value} (h : Kn need loc) (hn : (need.all fun p => !(p.1 == x)) = true) : Kn ((x, v) :: need) ((x, v) :: loc) := ⟨List.lookup_cons_self, h.skip hn⟩
noncomputable def flips (z : ZD) (l : List Int) : ZD := l.foldl (fun z n => z.sv n (!z.v n)) z
theorem flips_snoc (z : ZD) (l : List Int) (x : Int) : flips z (l ++ [x]) = (flips z l).sv x (!(flips z l).v x) := by unfold flips; rw [List.foldl_append]; rfl
theorem sq_sn (D : Dt) (i : Nat) (z : ZD) (ns : List Int) : (D.sq i z).sn ns = (D.sn ns).sq i z := rfl
theorem sq_self (D : Dt) (i : Nat) : D.sq i (D.q i) = D := by unfold Dt.sq; rw [up_self]
theorem nq_one : nq 1 = 6 := rfl
theorem sp_flippt {c : Int} {t : Tok} {base some : List Int} (C : Cx w B) (S : St B L loc Z G ad ob us s₀ s) (R : Rel D a G ad ob) (hu : ∀ k, US k → us k) (hA : Rm A 6) (hκ : ¬ us 82)
   (hN : D.nums = base ++ some) (hlen : base.length + some.length < 60) (hl : D.loop = some.length) (hs : ∀ n ∈ some, 0 ≤ n ∧ n < 6)
   (k : ∀ s', Dn B L loc Z G ad ob us s₀ a (((D.sl 1).sn base).sq 1 (flips (D.q 1) some.reverse)) s' → Q .none s') : WP pw w A (call (.ref 155) [.ref a.w, .int c t]) Q E s := by
  obtain ⟨Z', H', back⟩ := S.lend
  refine r_call [("work", .ref a.w), ("code", .int c t)] C H' hA rfl rfl (BindsTo.of_eq rfl) (locs rfl) ?_
  intro A1 L1 s1 hA1 S1
  have h01 : (1 : Int) = 0 ∨ (1 : Int) = 1 := .inr rfl
  walk_at "c"; refine r_assign (Mine.r_sub (r_attrN ?_)); walk_at "l"; refine x_wzs ⋯ ⋯ ⋯ ⋯ ?_; intro _ _; walk_at "i"; refine x_zs ⋯ ⋯ ⋯ ?_; walk_at "t"; walk_at "n"
  rename_i s2 S2
  let J : Inv := fun i loc' G' ad' ob' => Kn [("work", .ref a.w), ("zone", .ref (a.z 1))] loc' ∧ (∀ b o, G b o → G' b o) ∧ Kp us ad ob ad' ob' ∧ Rel (((D.sl 1).sn (base ++ (some.reverse.drop i).reverse)).sq 1 (flips (D.q 1) (some.reverse.take i))) a G' ad' ob'
  refine r_forRange (B := B) (Z := Z') (s₀ := s) 82 J hκ ?_ (Rm.h hA1) ?_
  · rintro i loc' G' ad' ob' b o ⟨hl, hg, hk, hR⟩
    refine ⟨hl, hg, fun k u l => ?_, hR.upX (oq441)⟩
    have : k ≠ 82 := fun e => hκ (e ▸ u)
    rw [up_other _ _ this, up_other _ _ this]
    exact hk k u l
  refine r_callT ⋯ ⋯ (b_range _) bb_range ?_; refine r_args (r_callM ?_); walk_at "l"; refine x_m_next_loop ⋯ ⋯ ⋯ ⋯ ?_; refine r_cwK0 ⋯ ⋯ (m_W_next_loop _).kp ?_; dsimp only
  refine sp_next_loop C ⋯ R hu (Rm.less hA1) ?_
  intro t2 o3 s3 S3 R3
  refine r_args0 ?_
  refine r_range1 ⋯ ?_
  intro r t4 t5 t6 s4 S4 hr
  rw [hl] at hr
  refine ⟨r, 0, some.length, t4, t5, t6, _, G, ad, _, rfl, hr, ⟨by decide, by decide, by exact oq189, by exact oq576 hlen⟩, S4, ⟨⟨rfl, rfl, trivial⟩, fun _ _ g => g, ?_, ?_⟩, ?_, ?_⟩
  · refine Kp.up (oq162) ?_; exact Kp.refl _ _ _
  · have e : (D.sl 1).sq 1 (D.q 1) = D.sl 1 := by
      unfold Dt.sq; rw [show (D.sl 1).q = D.q from rfl, up_self]; rfl
    have e2 : ((D.sl 1).sn (base ++ (some.reverse.drop 0).reverse)).sq 1 (flips (D.q 1) (some.reverse.take 0)) = D.sl 1 := by
      rw [List.drop_zero, List.reverse_reverse, ← hN, List.take_zero]
      exact e
    rw [e2]
    exact R3
  · rintro i loc' G' ad' ob' t7 s7 hi ⟨hkn, hg, hk, hR⟩ S7
    replace hi : i < some.length := by simpa using hi
    have S8 := S7.sub (Kn.cons hkn rfl).sub
    clear S7
    obtain ⟨x, hx⟩ : ∃ x, some.reverse[i]? = Option.some x := ⟨_, List.getElem?_eq_getElem (by rw [List.length_reverse]; exact hi)⟩
    have hx6 : 0 ≤ x ∧ x < 6 := hs x (by have := List.mem_of_getElem? hx; simpa using this)
    have hd : some.reverse.drop i = x :: some.reverse.drop (i + 1) := by
      obtain ⟨h1, h2⟩ := List.getElem?_eq_some_iff.mp hx
      rw [← h2]; exact List.drop_eq_getElem_cons h1
    have ht : some.reverse.take (i + 1) = some.reverse.take i ++ [x] := by rw [List.take_add_one, hx]; rfl
    have hn2 : base ++ (some.reverse.drop i).reverse = (base ++ (some.reverse.drop (i + 1)).reverse) ++ [x] := by rw [hd, List.reverse_cons, List.append_assoc]
    have hu' : ∀ k, US k → (us k ∨ k = 82) := fun k u => .inl (hu k u)
    have hz2 : (1 : Nat) < 2 := by decide
    have hz4 : (1 : Nat) < 4 := by decide
    have hnq : 0 ≤ x ∧ x < nq 1 := hx6
    walk_at "c"; refine r_assign (r_callM ?_); walk_at "l"; refine x_m_check ⋯ ⋯ ⋯ ⋯ ⋯ ?_; refine r_cwK ⋯ ⋯ (m_Z_check _).kp ?_; refine r_args ?_; refine r_callM (pl := pure false) ?_; refine r_attrN ?_; walk_at "l"; refine x_wsk ⋯ ⋯ ⋯ ⋯ ?_; intro _ _; refine x_m_pop ⋯ ⋯ ⋯ ⋯ ?_; refine r_cwK0 ⋯ ⋯ (m_K_pop _).kp ?_; dsimp only
    refine sp_pop (ns := base ++ (some.reverse.drop (i + 1)).reverse) (n := x) C ⋯ hR hu' (Rm.less hA1) hn2 ?_ ?_
    · have := List.length_drop (i := i + 1) (l := some.reverse)
      rw [List.length_append, List.length_reverse, this, List.length_reverse]
      exact oq577 hlen
    intro t9 o9 s9 S9 R9
    refine r_args0 ?_; walk_at "k"; refine sp_check ⋯ ⋯ ⋯ ⋯ (Rm.less ⋯) ⋯ ⋯ ?_; intro _ _; walk_at "t"; walk_at "n"; refine r_assignS (r_unary (Mine.r_sub (r_attrN ?_))); walk_at "l"; refine x_zn ⋯ ⋯ ⋯ ⋯ ⋯ ?_; intro _ _; walk_at "l"; refine X_n ⋯ ⋯ ⋯ ⋯ ⋯ ?_; refine r_not (r_truthy (r_attrN ?_)); walk_at "l"; refine x_zn ⋯ ⋯ ⋯ ⋯ ⋯ ?_; intro _ _; walk_at "l"; refine Y_n ⋯ ⋯ ⋯ ⋯ ⋯ ?_; intro _ _ _ _; walk_at "e"; refine r_nil ?_
    rename_i o10 s10 S10 R10
    rw [sq_sn, sq_q, sq_sq, ← flips_snoc, ← ht] at R10
    refine ⟨rfl, _, G', ad', _, S10, ⟨⟨rfl, rfl, trivial⟩, hg, Kp.up (by decide) (Kp.up (by decide) hk), R10⟩, rfl, ?_⟩
    rw [up_other _ _ (by decide), up_other _ _ (by decide)]
  · rintro loc' G' ad' ob' s7 ⟨_, hg, hk, hR⟩ S7
    walk_at "e"; refine r_nil ?_; dsimp only
    refine k _ (Dn.intro hg hk (back _ _ _ _ _ S7.H S7.S) ?_)
    rw [show ((some.length : Int) - 0).toNat = some.length by exact oq578, List.drop_of_length_le (by rw [List.length_reverse]; exact Nat.le_refl _), List.take_of_length_le (by rw [List.length_reverse]; exact Nat.le_refl _), List.reverse_nil, List.append_nil] at hR
    exact hR
noncomputable def fill (z : ZD) (b : Bool) (lo : Int) : Nat → ZD
  | 0 => z
  | n + 1 => (fill z b lo n).sv (lo + n) b
theorem sp_flip_row {c : Int} {t : Tok} {lo hi : Int} (C : Cx w B) (S : St B L loc Z G ad ob us s₀ s) (R : Rel D a G ad ob) (hu : ∀ k, US k → us k) (hA : Rm A 6) (hκ : ¬ us 82)
   (hN : D.nums = [lo, hi]) (h1 : 0 ≤ lo ∧ lo < 6) (h2 : 0 ≤ hi ∧ hi < 6)
   (k : ∀ s', Dn B L loc Z G ad ob us s₀ a ((D.sn []).sq 1 (fill (D.q 1) (c == 129) lo (hi + 1 - lo).toNat)) s' → Q .none s') : WP pw w A (call (.ref 162) [.ref a.w, .int c t]) Q E s := by
  obtain ⟨Z', H', back⟩ := S.lend
  refine r_call [("work", .ref a.w), ("code", .int c t)] C H' hA rfl rfl (BindsTo.of_eq rfl) (locs rfl) ?_
  intro A1 L1 s1 hA1 S1
  have h01 : (1 : Int) = 0 ∨ (1 : Int) = 1 := .inr rfl
  have hN1 : D.nums = [lo] ++ [hi] := hN
  have hN2 : [lo] = [] ++ [lo] := rfl
  have hz2 : Int.toNat 1 < 2 := by decide
  have hz4 : Int.toNat 1 < 4 := by decide
  have e1 : 0 ≤ lo ∧ lo < nq (Int.toNat 1) := h1
  have e2 : 0 ≤ hi ∧ hi < nq (Int.toNat 1) := h2
  walk_at "c"; refine r_assign (Mine.r_sub (r_attrN ?_)); walk_at "l"; refine x_wzs ⋯ ⋯ ⋯ ⋯ ?_; intro _ _; walk_at "i"; refine x_zs ⋯ ⋯ ⋯ ?_; walk_at "t"; walk_at "n"; refine r_assign (r_callM ?_); walk_at "l"; refine x_m_check ⋯ ⋯ ⋯ ⋯ ⋯ ?_; refine r_cwK ⋯ ⋯ (m_Z_check _).kp ?_; refine r_args ?_; refine r_callM (pl := pure false) ?_; refine r_attrN ?_; walk_at "l"; refine x_wsk ⋯ ⋯ ⋯ ⋯ ?_; intro _ _; refine x_m_pop ⋯ ⋯ ⋯ ⋯ ?_; refine r_cwK0 ⋯ ⋯ (m_K_pop _).kp ?_; refine sp_pop ⋯ ⋯ ⋯ ⋯ (Rm.less ⋯) ⋯ (by first | assumption | exact Nat.le_of_ble_eq_true rfl) ?_; intro _ _ _ _ _; refine r_args0 ?_; walk_at "k"; refine sp_check ⋯ ⋯ ⋯ ⋯ (Rm.less ⋯) ⋯ ⋯ ?_; intro _ _; walk_at "t"; walk_at "n"; refine r_assign (r_callM ?_); walk_at "l"; refine x_m_check ⋯ ⋯ ⋯ ⋯ ⋯ ?_; refine r_cwK ⋯ ⋯ (m_Z_check _).kp ?_; refine r_args ?_; refine r_callM (pl := pure false) ?_; refine r_attrN ?_; walk_at "l"; refine x_wsk ⋯ ⋯ ⋯ ⋯ ?_; intro _ _; refine x_m_pop ⋯ ⋯ ⋯ ⋯ ?_; refine r_cwK0 ⋯ ⋯ (m_K_pop _).kp ?_; refine sp_pop ⋯ ⋯ ⋯ ⋯ (Rm.less ⋯) ⋯ (by first | assumption | exact Nat.le_of_ble_eq_true rfl) ?_; intro _ _ _ _ _; refine r_args0 ?_; walk_at "k"; refine sp_check ⋯ ⋯ ⋯ ⋯ (Rm.less ⋯) ⋯ ⋯ ?_; intro _ _; walk_at "t"; walk_at "n"
  let J : Inv := fun i loc' G' ad' ob' => Kn [("code", .int c t), ("zone", .ref (a.z 1))] loc' ∧ (∀ b o, G b o → G' b o) ∧ Kp us ad ob ad' ob' ∧ Rel ((D.sn []).sq 1 (fill (D.q 1) (c == 129) lo i)) a G' ad' ob'
  refine r_forRange (B := B) (Z := Z') (s₀ := s) 82 J hκ ?_ (Rm.h hA1) ?_
  · rintro i loc' G' ad' ob' b o ⟨hl, hg, hk, hR⟩
    refine ⟨hl, hg, fun k u l => ?_, hR.upX (oq441)⟩
    have : k ≠ 82 := fun e => hκ (e ▸ u)
    rw [up_other _ _ this, up_other _ _ this]
    exact hk k u l
  refine r_callT ⋯ ⋯ (b_range _) bb_range ?_; refine r_args ?_; walk_at "l"; refine r_args (r_bin ?_); walk_at "l"; walk_at "i"; refine n_add ?_; walk_at "d"; refine r_args0 ?_; dsimp only
  refine r_range2 ⋯ ?_
  intro r t4 t5 t6 s4 S4 hr
  refine ⟨r, lo, hi + 1, t4, t5, t6, _, G, ad, _, rfl, hr, ⟨by exact oq551 h1, by exact oq552 h1, by exact oq553 h2, by exact oq554 h2⟩, S4, ⟨⟨rfl, rfl, trivial⟩, fun _ _ g => g, ?_, ?_⟩, ?_, ?_⟩
  · refine Kp.up (oq155) ?_; refine Kp.up (oq155) ?_; exact Kp.refl _ _ _
  · show Rel ((D.sn []).sq 1 (D.q 1)) a G ad _
    rw [show (D.sn []).sq 1 (D.q 1) = D.sn [] from sq_self (D.sn []) 1]
    assumption
  · rintro i loc' G' ad' ob' t7 s7 hi' ⟨hkn, hg, hk, hR⟩ S7
    have S8 := S7.sub (Kn.cons hkn rfl).sub
    clear S7
    have hu' : ∀ k, US k → (us k ∨ k = 82) := fun k u => .inl (hu k u)
    have hz2 : (1 : Nat) < 2 := by decide
    have hz4 : (1 : Nat) < 4 := by decide
    have hnq : 0 ≤ lo + (i : Int) ∧ lo + (i : Int) < nq 1 := by rw [nq_one]; exact oq555 h1 h2 hi'
    walk_at "c"; refine r_assignS (r_cmp ?_); walk_at "l"; walk_at "i"; refine r_eq (r_attrN ?_); walk_at "l"; refine x_zn ⋯ ⋯ ⋯ ⋯ ⋯ ?_; intro _ _; walk_at "l"; refine Y_n ⋯ ⋯ ⋯ ⋯ ⋯ ?_; intro _ _ _ _; walk_at "e"; refine r_nil ?_
    rename_i o10 s10 S10 R10
    rw [sq_q, sq_sq] at R10
    refine ⟨rfl, _, G', ad', _, S10, ⟨⟨rfl, rfl, trivial⟩, hg, Kp.up (by decide) hk, R10⟩, rfl, ?_⟩
    rw [up_other _ _ (by decide)]
  · rintro loc' G' ad' ob' s7 ⟨_, hg, hk, hR⟩ S7
    walk_at "e"; refine r_nil ?_; dsimp only
    exact k _ (Dn.intro hg hk (back _ _ _ _ _ S7.H S7.S) hR)
end
noncomputable def SrcOk (o : Obj) : Prop := ∃ x y t0 t1, IsL o [.int x t0, .int y t1]
section
variable {ad : Nat → Addr} {ob : Nat → Obj} {a : Adr} {i : Nat} {n : Int} {u : Tok} {v : Value}
theorem fmod_b {x t : Int} (h : 0 < t) : 0 ≤ Int.fmod x t ∧ Int.fmod x t < t := ⟨Int.fmod_nonneg_of_pos x h, Int.fmod_lt_of_pos x h⟩
theorem sp_take {top : Int} {t : Tok} (C : Cx w B) (S : St B L loc Z G ad ob us s₀ s) (hu3 : us 3) (hs : SrcOk (ob 3)) (hA : Rm A 1) (ht : 0 < top ∧ top < 100)
   (k : ∀ r t o s', 0 ≤ r ∧ r < top → SrcOk o → St B L loc Z G ad (up ob 3 o) us s₀ s' → Q (.int r t) s') : WP pw w A (call (.ref 441) [.ref (ad 3), .int top t]) Q E s := by
  obtain ⟨Z', H', back⟩ := S.lend
  refine r_call [("source", .ref (ad 3)), ("top", .int top t)] C H' hA rfl rfl (BindsTo.of_eq rfl) (locs rfl) ?_
  intro A1 L1 s1 hA1 S1
  obtain ⟨x, y, t0, t1, hl⟩ := hs
  have hm : IntMulOk y 39373 := IntMulOk.of_right (by decide)
  walk_at "c"; refine r_if (r_isCmp (Mine.r_sub ?_)); walk_at "l"; walk_at "i"; refine r_litem ⋯ ⋯ ⋯ (by decide) (by decide) rfl ?_; walk_at "i"; refine r_gt (r_truthy ?_); (refine br ?_ ?_ <;> intro _); walk_at "c"; refine r_assign (r_bin ?_); refine r_callT ⋯ ⋯ (b_int _) bb_int ?_; refine r_args (Mine.r_sub ?_); walk_at "l"; walk_at "i"; refine r_litem ⋯ ⋯ ⋯ (by decide) (by decide) rfl ?_; refine r_args0 ?_; refine r_intint ?_; walk_at "l"; refine n_mod (oq579 ht) ?_; walk_at "d"; walk_at "t"; walk_at "n"; refine r_assignS (r_bin (Mine.r_sub ?_)); walk_at "l"; walk_at "i"; refine r_litem ⋯ ⋯ ⋯ (by decide) (by decide) rfl ?_; walk_at "l"; refine n_div (oq579 ht) (np_small (oq580 ht) (oq581 ht)) ?_; walk_at "d"; walk_at "l"; walk_at "i"; rotate_left; refine r_nil ?_; walk_at "n"; refine r_assignS (r_bin ?_); refine r_callT ⋯ ⋯ (b_int _) bb_int ?_; refine r_args (r_bin (r_bin (Mine.r_sub ?_))); walk_at "l"; walk_at "i"; refine r_litem ⋯ ⋯ ⋯ (by decide) (by decide) rfl ?_; walk_at "i"; refine n_mul (ok_r _ (by decide)) ?_; walk_at "d"; walk_at "i"; refine n_add ?_; walk_at "d"; refine r_args0 ?_; refine r_intint ?_; walk_at "i"; refine n_mod (by decide) ?_; walk_at "d"; walk_at "l"; walk_at "i"; rotate_left
  · refine r_setitem ⋯ hu3 hl (by decide) (by show (0 : Int) < ((2 : Nat) : Int); decide) (by show (2 : Nat) < _; decide) ?_
    intro o s3 ho S3
    walk_at "n"; refine r_ret ?_; walk_at "l"; refine nx_ret ⋯ ?_; clear Nc Qc; refine nx_ret ⋯ ?_; clear Nc Qc; dsimp only
    exact k _ _ o _ (fmod_b ht.1) ⟨_, _, _, _, ho⟩ (back _ _ _ _ _ (St.H ⋯) (St.S ⋯))
  · refine r_setitem ⋯ hu3 hl (by decide) (by show (1 : Int) < ((2 : Nat) : Int); decide) (by show (2 : Nat) < _; decide) ?_
    intro o s3 ho S3
    replace ho : IsL (up ob 3 o 3) [.int x t0, .int _ _] := ho
    walk_at "n"; refine r_ret (r_bin (r_bin ?_)); refine r_callT ⋯ ⋯ (b_int _) bb_int ?_; refine r_args (Mine.r_sub ?_); walk_at "l"; walk_at "i"; refine r_litem ⋯ ⋯ ⋯ (by decide) (by decide) rfl ?_; refine r_args0 ?_; refine r_intint ?_; walk_at "i"; refine n_div (by decide) (np_small (oq582) (oq583)) ?_; walk_at "d"; walk_at "l"; refine n_mod (oq579 ht) ?_; walk_at "d"; refine nx_ret ⋯ ?_; clear Nc Qc; dsimp only
    exact k _ _ o _ (fmod_b ht.1) ⟨_, _, _, _, ho⟩ (back _ _ _ _ _ (St.H ⋯) (St.S ⋯))
end
section
variable {ad : Nat → Addr} {ob : Nat → Obj}
structure Zp5 (h : Heap) (z TI TO i1 i2 l1 l2 : Addr) (i : Nat) (a b : Value) : Prop where
  z : IsZip h z TI TO .none
  ti : IsPair h TI (.ref i1) (.ref i2)
  to : IsPair h TO a b
  h1 : h.IsListIter i1 l1 i
  h2 : h.IsListIter i2 l2 i
theorem isPair_eq {h : Heap} {T : Addr} {a b : Value} (e : IsPair h T a b) : h.get? T = some (tupO [a, b]) := e
theorem r_forZip {elts : List Expr} {x1 : Nat} {px : Pos} {iter : Expr} {body : List Stmt} {Q : Flow → Shared → Prop} (J : Nat → List (Str × Value) → Prop) (hh : A.handled = none)
    (h : WP pw w A (eval iter env) (fun xv s₁ => ∃ z TI TO i1 i2 l1 l2 o1 o2 vs ws loc, xv = .ref z ∧ ZipApart z TI TO i1 i2 l1 l2 ∧ Zp5 s₁.heap z TI TO i1 i2 l1 l2 0 .none .none ∧ (G l1 o1 ∧ IsL o1 vs) ∧ (G l2 o2 ∧ IsL o2 ws) ∧ vs.length = ws.length ∧
      St B L loc Z G ad ob us s₀ s₁ ∧ J 0 loc ∧ (New Z G ad us L z ∧ New Z G ad us L TI ∧ New Z G ad us L TO ∧ New Z G ad us L i1 ∧ New Z G ad us L i2) ∧
      (∀ i loc v w' T G2 s₂, vs[i]? = some v → ws[i]? = some w' → J i loc → (∀ a o, G a o → G2 a o) → St B L loc Z G2 ad ob us s₀ s₂ → s₂.heap.get? T = some (tupO [v, w']) →
        WP pw w A (assign (.Tuple elts x1 px) env (.ref T)) (fun _ s₃ => WP pw w A (execs body env) (fun f s₄ => f = .next ∧ ∃ loc', St B L loc' Z G2 ad ob us s₀ s₄ ∧ J (i + 1) loc') (fun _ _ => False) s₃) (fun _ _ => False) s₂) ∧
      (∀ loc s₂, J vs.length loc → St B L loc Z G ad ob us s₀ s₂ → Q .next s₂)) E s)
    (hs : ∀ x, foldedSetIterable iter env x = pure x := by intro _; rfl) : WP pw w A (exec (.For (.Tuple elts x1 px) iter body [] pos) env) Q E s := by
  delta WP
  refine wpAny_For (wpAny_mono h.out (fun xv s₁ h₁ => ?_) fun _ _ e => e) hs
  obtain ⟨z, TI, TO, i1, i2, l1, l2, o1, o2, vs, ws, loc, rfl, D, P, ⟨g1, hl1⟩, ⟨g2, hl2⟩, hlen, S, hJ0, ⟨n1, n2, n3, n4, n5⟩, turn, fin⟩ := h₁
  refine wpAny_pyIter_zip P.z ?_
  have hP : ∀ a, (a = z ∨ a = TO ∨ a = i1 ∨ a = i2) → New Z G ad us L a := by
    rintro a (rfl | rfl | rfl | rfl) <;> assumption
  refine codeAny_forLoop_any (fun n s' => ∃ i loc a b, n = vs.length + 1 - i ∧ i ≤ vs.length ∧ St B L loc Z G ad ob us s₀ s' ∧ J i loc ∧ Zp5 s'.heap z TI TO i1 i2 l1 l2 i a b) ?_ (vs.length + 1) ⟨0, loc, _, _, rfl, Nat.zero_le _, S, hJ0, P⟩
  rintro n s' ⟨i, loc, a, b, rfl, hi, S, hj, P⟩
  have hL1 := IsL.at (S.H.imm _ _ g1).1 hl1
  have hL2 := IsL.at (S.H.imm _ _ g2).1 hl2
  cases hv : vs[i]? with
  | some v =>
    have hlt : i < vs.length := (List.getElem?_eq_some_iff.mp hv).1
    obtain ⟨v2, hv2⟩ : ∃ v2, ws[i]? = some v2 := ⟨_, List.getElem?_eq_getElem (hlen ▸ hlt)⟩
    refine wpAny_pyNext_zip_item D P.z P.ti P.to P.h1 P.h2 hL1 hL2 (by simpa using hv) (by simpa using hv2) fun h' a1 a2 a3 a4 a5 a6 hk => ?_
    have S1 := S.shake (P := fun a => a = z ∨ a = TO ∨ a = i1 ∨ a = i2) hP (h' := h') (fun c o hc e => hk c o (fun q => hc (.inl q)) (fun q => hc (.inr (.inl q))) (fun q => hc (.inr (.inr (.inl q)))) (fun q => hc (.inr (.inr (.inr q)))) e) s'.toks
    have hti := hk _ _ D.TIz D.TITO D.TIi1 D.TIi2 P.ti
    have hTz : s'.heap.objs.size ≠ z := Nat.ne_of_gt (Heap.lt_size P.z)
    refine wpAny_letOwnedTupleGo_zip a1 fun h'' hz'' hs'' => ?_
    have S2 := S1.shake (P := fun a => a = z) (fun a e => e ▸ n1) (h' := h'') (fun c o hc e => hs''.extBut _ _ hc e) s'.toks
    have b1 : IsPair h'' TI (.ref i1) (.ref i2) := hs''.extBut _ _ D.TIz hti
    have b2 : IsPair h'' TO v v2 := hs''.extBut _ _ D.TOz a2
    obtain ⟨c3, b3, d3⟩ := a3.extBut hs''.extBut D.i1z
    obtain ⟨c4, b4, d4⟩ := a4.extBut hs''.extBut D.i2z
    have hT : IsPair h'' s'.heap.objs.size v v2 := hs''.extBut _ _ hTz a5
    have st3 : Still c3 := fun es n e => by rw [d3.2] at e; cases e
    have st4 : Still c4 := fun es n e => by rw [d4.2] at e; cases e
    have stz : Still ({ cls := .type "zip", dict := none, data := .fields #[.none, .bool false, .bool false, .ref TI, .ref TO], slots := #[] } : Obj) := fun es n e => by cases e
    have S3 := ((((S2.addG hz'' stz n1.k).addG b1 (still_tup _) n2.k).addG b2 (still_tup _) n3.k).addG b3 st3 n4.k).addG b4 st4 n5.k
    refine wpAny_mono (turn i loc v v2 s'.heap.objs.size _ _ hv hv2 hj (fun a o g => .inl (.inl (.inl (.inl (.inl g))))) S3 (isPair_eq hT)).out (fun _ s₂ hq => wpAny_mono hq.out (fun f s₃ hf => ?_) fun _ _ y => y.elim) fun _ _ y => y.elim
    obtain ⟨rfl, loc', S4, hj'⟩ := hf
    refine ⟨vs.length + 1 - (i + 1), by exact oq40 hlt, i + 1, loc', v, v2, rfl, hlt, S4.lessG (fun a o g => .inl (.inl (.inl (.inl (.inl g))))), hj', ⟨?_, ?_, ?_, ?_, ?_⟩⟩
    · exact (S4.H.imm _ _ (.inl (.inl (.inl (.inl (.inr ⟨rfl, rfl⟩)))))).1
    · exact (S4.H.imm _ _ (.inl (.inl (.inl (.inr ⟨rfl, rfl⟩))))).1
    · exact (S4.H.imm _ _ (.inl (.inl (.inr ⟨rfl, rfl⟩)))).1
    · exact ⟨c3, (S4.H.imm _ _ (.inl (.inr ⟨rfl, rfl⟩))).1, d3⟩
    · exact ⟨c4, (S4.H.imm _ _ (.inr ⟨rfl, rfl⟩)).1, d4⟩
  | none =>
    have hge : vs.length ≤ i := by simpa using hv
    obtain rfl : i = vs.length := oq99 hi hge
    refine wpAny_pyNext_zip_end hh D P.z P.ti P.to P.h1 P.h2 hL1 hL2 (.inl (by simp)) fun h' hk => wpAny_execs_nil ?_
    exact fin loc _ hj (S.shake (P := fun a => a = z ∨ a = TO ∨ a = i1 ∨ a = i2) hP (h' := h') (fun c o hc e => hk c o (fun q => hc (.inl q)) (fun q => hc (.inr (.inl q))) (fun q => hc (.inr (.inr (.inl q)))) (fun q => hc (.inr (.inr (.inr q)))) e) s'.toks)
theorem r_zip {l1 l2 : Addr} {vs ws : List Value} {o1 o2 : Obj} {Q : Value → Shared → Prop} (S : St B L loc Z G ad ob us s₀ s) (g1 : G l1 o1 ∧ IsL o1 vs) (g2 : G l2 o2 ∧ IsL o2 ws)
    (h : ∀ z TI TO i1 i2 s', ZipApart z TI TO i1 i2 l1 l2 → Zp5 s'.heap z TI TO i1 i2 l1 l2 0 .none .none → St B L loc Z G ad ob us s₀ s' → (New Z G ad us L z ∧ New Z G ad us L TI ∧ New Z G ad us L TO ∧ New Z G ad us L i1 ∧ New Z G ad us L i2) → Q (.ref z) s') :
    WP pw w A (call (.type "zip") [.ref l1, .ref l2]) Q E s := by
  delta WP
  have e1 := (S.H.imm _ _ g1.1).1
  have e2 := (S.H.imm _ _ g2.1).1
  refine call_zip_2 (IsL.at e1 g1.2) (IsL.at e2 g2.2) fun h' hz hTI hTO hit1 hit2 hsz hk => ?_
  exact h _ _ _ _ _ _ (zipApart_new (Heap.lt_size e1) (Heap.lt_size e2)) ⟨hz, hTI, hTO, hit1, hit2⟩ (S.ext hk _) ⟨S.newAt (Nat.le_add_right ..), S.newAt (Nat.le_add_right ..), S.newAt (Nat.le_add_right ..), S.newAt (Nat.le_refl _), S.newAt (Nat.le_add_right ..)⟩
end
open PySem.SeqAt in
section
variable {ad : Nat → Addr} {ob : Nat → Obj} {l : Addr} {v : Value}
theorem all_true (n : Nat) : (List.range n).all (fun _ => true) = true := by rw [List.all_eq_true]; intro _ _; rfl
theorem eqLists (hl : s.heap.IsList l vs.toArray) (hb : s.heap.IsList b ws.toArray) (hlen : vs.length = ws.length) (hu : A.units < cLine) (ne : l ≠ b)
    (he : ∀ (j : Nat) v w, vs[j]? = some v → ws[j]? = some w → EqAt A.in1 s v w true) : EqAt A s (.ref l) (.ref b) true := by
  refine EqAt.of_refs ne ?_
  have := RcAt.lists (A := A) (e := fun _ => true) hl hb (by simpa using hlen) hu fun j h1 h2 => by
    simp at h1 h2
    exact he j _ _ (by simp [h1]) (by simp [h2])
  rwa [all_true] at this
theorem eqPt (S : St B L loc Z G ad ob us s₀ s) (h1 : IsPt G v p) (h2 : IsPt G v' p) (hu : A.units < cLine) : EqAt A s v v' true := by
  obtain ⟨a1, t1, t2, rfl, g1⟩ := h1
  obtain ⟨a2, t3, t4, rfl, g2⟩ := h2
  by_cases q : a1 = a2
  · subst q; exact EqAt.same _
  · refine EqAt.of_refs q ?_
    have := RcAt.tuples (A := A) (e := fun _ => true) (isTup_of (S.H.imm _ _ g1).1) (isTup_of (S.H.imm _ _ g2).1) hu fun j h1 h2 => by
      simp at h1
      have : j = 0 ∨ j = 1 := oq49 h1
      rcases this with rfl | rfl
      · have := EqAt.int_int (A := A.in1) (s := s) p.1 t1 p.1 t3; rw [beq_self_eq_true] at this; exact this
      · have := EqAt.int_int (A := A.in1) (s := s) p.2 t2 p.2 t4; rw [beq_self_eq_true] at this; exact this
    rw [all_true] at this
    exact this
theorem eqPts {ps : List (Int × Int)} (S : St B L loc Z G ad ob us s₀ s) (hl : s.heap.IsList l vs.toArray) (hb : s.heap.IsList b ws.toArray) (h1 : All2 (IsPt G) vs ps) (h2 : All2 (IsPt G) ws ps) (hu : A.units + 1 < cLine) (ne : l ≠ b) : EqAt A s (.ref l) (.ref b) true := by
  refine eqLists hl hb (h1.length.trans h2.length.symm) (oq450 hu) ne fun j v w e1 e2 => ?_
  have hj : j < ps.length := by rw [← h1.length]; exact (List.getElem?_eq_some_iff.mp e1).1
  obtain ⟨v1, f1, g1⟩ := h1.get (List.getElem?_eq_getElem hj)
  obtain ⟨v2, f2, g2⟩ := h2.get (List.getElem?_eq_getElem hj)
  rw [e1] at f1; rw [e2] at f2
  cases f1; cases f2
  exact eqPt S g1 g2 hu
theorem eqBools {bs : List Bool} (hl : s.heap.IsList l (bs.map Value.bool).toArray) (hb : s.heap.IsList b (bs.map Value.bool).toArray) (hu : A.units < cLine) (ne : l ≠ b) : EqAt A s (.ref l) (.ref b) true := by
  refine eqLists hl hb rfl hu ne fun j v w e1 e2 => ?_
  rw [e1] at e2; cases e2
  exact EqAt.same _
theorem eqInts {ns : List Int} (hl : s.heap.IsList l vs.toArray) (hb : s.heap.IsList b ws.toArray) (h1 : All2 IsI vs ns) (h2 : All2 IsI ws ns) (hu : A.units < cLine) : RcAt A s (.ref l) (.ref b) true := by
  have := RcAt.lists (A := A) (e := fun _ => true) hl hb (by simpa using h1.length.trans h2.length.symm) hu fun j i1 i2 => by
    simp at i1 i2
    have hj : j < ns.length := by rw [← h1.length]; exact i1
    obtain ⟨v1, f1, t1, e1⟩ := h1.get (List.getElem?_eq_getElem hj)
    obtain ⟨v2, f2, t2, e2⟩ := h2.get (List.getElem?_eq_getElem hj)
    have g1 : vs.toArray[j] = .int ns[j] t1 := by
      have := List.getElem?_eq_some_iff.mp f1
      obtain ⟨_, e⟩ := this
      rw [← e1, ← e]; simp
    have g2 : ws.toArray[j] = .int ns[j] t2 := by
      have := List.getElem?_eq_some_iff.mp f2
      obtain ⟨_, e⟩ := this
      rw [← e2, ← e]; simp
    rw [g1, g2]
    have := EqAt.int_int (A := A.in1) (s := s) ns[j] t1 ns[j] t2; rw [beq_self_eq_true] at this; exact this
  rwa [all_true] at this
theorem eqQuad {D : Dt} {a : Adr} {x : Addr} {i : Nat} (S : St B L loc Z G ad ob us s₀ s) (R : Rel D a G ad ob) (hu : ∀ k, US k → us k) (hi : i < 2) (he : D.q i = D.q (i + 2)) (hA : A.units + 3 < cLine)
    (hx : s.heap.IsList x [.ref (ad (16 * i + 16)), .ref (ad (16 * i + 17)), .ref (ad (16 * i + 18)), .ref (ad (16 * i + 19))].toArray) : RcNeAt A s (.ref x) (.ref (a.r i)) false := by
  obtain ⟨o, g, il⟩ := R.gr i hi
  have hr := IsL.at (S.H.imm _ _ g).1 il
  have q1 := R.q i (oq104 hi)
  have q2 := R.q (i + 2) (oq451 hi)
  rw [← he] at q2
  have h6 := nq_le i
  have hn : nq (i + 2) = nq i := by unfold nq; rw [Nat.add_mod_right]
  rw [hn] at q2
  have U1 : ∀ c, c < 4 + nq i → us (16 * i + 16 + c) := fun c hc => hu _ (us_q (oq104 hi) hc)
  have U2 : ∀ c, c < 4 + nq i → us (16 * (i + 2) + 16 + c) := fun c hc => hu _ (us_q (oq451 hi) (by rw [hn]; exact hc))
  have ne : ∀ c c', c < 4 + nq i → c' < 4 + nq i → ad (16 * i + 16 + c) ≠ ad (16 * (i + 2) + 16 + c') := fun c c' h1 h2 e => by
    have := S.H.inj _ _ (U1 c h1) (U2 c' h2) e
    exact (oq452 h6 h1 this).elim
  have lst : ∀ {k : Nat} {vs : List Value}, us k → IsL (ob k) vs → s.heap.IsList (ad k) vs.toArray := fun u l => IsL.at (S.H.own _ u) l
  obtain ⟨v1, a1, b1⟩ := q1.o
  obtain ⟨v2, a2, b2⟩ := q2.o
  obtain ⟨v3, a3, b3⟩ := q1.c
  obtain ⟨v4, a4, b4⟩ := q2.c
  obtain ⟨v5, a5, b5, c5⟩ := q1.t
  obtain ⟨v6, a6, b6, c6⟩ := q2.t
  have e0 : EqAt A.in1 s (.ref (ad (16 * i + 16))) (.ref (ad (16 * (i + 2) + 16))) true := eqPts S (lst (U1 0 (oq453)) a1) (lst (U2 0 (oq453)) a2) b1 b2 (by show A.units + 1 + 1 < _; exact oq454 hA) (ne 0 0 (oq453) (oq453))
  have e1 : EqAt A.in1 s (.ref (ad (16 * i + 17))) (.ref (ad (16 * (i + 2) + 17))) true := eqPts S (lst (U1 1 (oq105)) a3) (lst (U2 1 (oq105)) a4) b3 b4 (by show A.units + 1 + 1 < _; exact oq454 hA) (ne 1 1 (oq105) (oq105))
  have e3 : EqAt A.in1 s (.ref (ad (16 * i + 19))) (.ref (ad (16 * (i + 2) + 19))) true := eqBools (lst (U1 3 (oq455)) q1.v) (lst (U2 3 (oq455)) q2.v) (by show A.units + 1 < _; exact oq456 hA) (ne 3 3 (oq455) (oq455))
  have e2 : EqAt A.in1 s (.ref (ad (16 * i + 18))) (.ref (ad (16 * (i + 2) + 18))) true := by
    refine eqLists (lst (U1 2 (oq457)) a5) (lst (U2 2 (oq457)) a6) (b5.trans b6.symm) (by show A.units + 1 < _; exact oq456 hA) (ne 2 2 (oq457) (oq457)) fun j v w f1 f2 => ?_
    have hj : j < nq i := by rw [← b5]; exact (List.getElem?_eq_some_iff.mp f1).1
    rw [c5 j hj] at f1; rw [c6 j hj] at f2
    cases f1; cases f2
    obtain ⟨p, hp⟩ : ∃ p, (D.q i).tou[j]? = some p := ⟨_, List.getElem?_eq_getElem (by rw [q1.lt]; exact hj)⟩
    exact eqBools (bs := [p.1, p.2]) (lst (by have := U1 (4 + j) (oq458 hj); rwa [← Nat.add_assoc] at this) (q1.m j p hp)) (lst (by have := U2 (4 + j) (oq458 hj); rwa [← Nat.add_assoc] at this) (q2.m j p hp)) (by show A.units + 1 + 1 < _; exact oq454 hA) (by have := ne (4 + j) (4 + j) (oq458 hj) (oq458 hj); rwa [← Nat.add_assoc, ← Nat.add_assoc] at this)
  have := RcNeAt.lists (A := A) (e := fun _ => true) hx hr rfl (oq459 hA) fun j h1 h2 => by
    have h1' : j < 4 := h1
    have : j = 0 ∨ j = 1 ∨ j = 2 ∨ j = 3 := oq36 h1'
    rcases this with rfl | rfl | rfl | rfl
    · exact e0
    · exact e1
    · exact e2
    · exact e3
  rw [all_true] at this
  exact this
end
section
variable {ad : Nat → Addr} {ob : Nat → Obj} {a : Adr} {i : Nat} {n : Int} {u : Tok} {v : Value}
theorem sp_told {due : Addr} {ds : List Value} (C : Cx w B) (S : St B L loc Z G ad ob us s₀ s) (R : Rel D a G ad ob) (hu : ∀ k, US k → us k) (hA : Rm A 3) (h0 : D.q 0 = D.q 2) (h1 : D.q 1 = D.q 3) (gd : G due (lstO ds)) (hd : All2 IsI ds D.nums)
   (k : ∀ s', St B L loc Z G ad ob us s₀ s' → Q (.bool true) s') : WP pw w A (call (.ref 467) [.ref a.w, .ref a.rs, .ref due]) Q E s := by
  obtain ⟨Z', H', back⟩ := S.lend
  refine r_call [("work", .ref a.w), ("rows", .ref a.rs), ("due", .ref due)] C H' hA rfl rfl (BindsTo.of_eq rfl) (locs rfl) ?_
  intro A1 L1 s1 hA1 S1
  walk_at "c"
  obtain ⟨oz, gz, lz⟩ := R.gzs
  obtain ⟨orr, gr, lr⟩ := R.grs
  refine r_forZip (L := L1) (B := B) (Z := Z') (G := G) (ad := ad) (ob := ob) (us := us) (s₀ := s) (fun _ loc => Kn [("work", .ref a.w), ("rows", .ref a.rs), ("due", .ref due)] loc) (Rm.h hA1) ?_
  refine r_callT ⋯ ⋯ (b_zip _) bb_zip ?_; refine r_args (r_attrN ?_); walk_at "l"; refine x_wzs ⋯ ⋯ ⋯ ⋯ ?_; intro _ _; refine r_args ?_; walk_at "l"; refine r_args0 ?_
  refine r_zip ⋯ ⟨gz, lz⟩ ⟨gr, lr⟩ ?_
  intro z TI TO i1 i2 s2 hap hz S2 hnew
  refine ⟨z, TI, TO, i1, i2, _, _, _, _, _, _, _, rfl, hap, hz, ⟨gz, lz⟩, ⟨gr, lr⟩, rfl, S2, ⟨rfl, rfl, rfl, trivial⟩, hnew, ?_, ?_⟩
  · intro i loc' v w' T G2 s3 e1 e2 hk le S3 hT
    have hi : i < 2 := (List.getElem?_eq_some_iff.mp e1).1
    obtain rfl : v = .ref (a.z i) := by
      have : i = 0 ∨ i = 1 := oq49 hi
      rcases this with rfl | rfl <;> (cases e1; rfl)
    obtain rfl : w' = .ref (a.r i) := by
      have : i = 0 ∨ i = 1 := oq49 hi
      rcases this with rfl | rfl <;> (cases e2; rfl)
    have S4 := S3.sub hk.sub
    have R4 := R.mono le
    clear S3
    refine r_unpack ⋯ (Rm.h ⋯) ⋯ ?_; intro _ _; refine r_inOrder (r_asName ?_); walk_at "t"; refine r_inOrder (r_asName ?_); walk_at "t"; refine r_inOrder0 ?_; walk_at "c"; refine r_if (r_isCmp (r_listE (r_args (r_attrN ?_)))); walk_at "l"; refine x_zo ⋯ ⋯ ⋯ ⋯ ⋯ ?_; intro _ _; refine r_args (r_attrN ?_); walk_at "l"; refine x_zc ⋯ ⋯ ⋯ ⋯ ⋯ ?_; intro _ _; refine r_args (r_attrN ?_); walk_at "l"; refine x_zt ⋯ ⋯ ⋯ ⋯ ⋯ ?_; intro _ _; refine r_args (r_attrN ?_); walk_at "l"; refine x_zn ⋯ ⋯ ⋯ ⋯ ⋯ ?_; intro _ _; refine r_args0 ?_
    refine x_hold ⋯ ?_
    intro b G3 s5 le3 N3 S6
    have R6 := R4.mono le3
    walk_at "l"
    refine .of (eqQuad S6 R6 hu hi ?_ ?_ (IsL.at (N3.get S6) (IsL.lst _)) pw w _ _ ?_)
    · have : i = 0 ∨ i = 1 := oq49 hi
      rcases this with rfl | rfl <;> assumption
    · have := hA1.2.1; exact oq151 this
    have S8 := N3.back S6
    clear S6
    refine r_truthy ?_; refine itf ?_; refine r_nil ?_; walk_at "e"; refine r_nil ?_
    exact ⟨rfl, _, S8, rfl, rfl, rfl, trivial⟩
  · intro loc' s3 hk S3
    have S4 := S3.sub hk.sub
    clear S3
    obtain ⟨vs, d, e2, hv⟩ := R.nm
    walk_at "n"; refine r_ret (r_cmp (r_attr (r_attrN ?_))); walk_at "l"; refine x_wsk ⋯ ⋯ ⋯ ⋯ ?_; intro _ _; refine x_nums ⋯ ⋯ ⋯ ⋯ ?_; intro _ _; walk_at "l"
    rename_i s5 S5
    have hL := S5.H.own 2 (hu 2 us_l)
    rw [e2] at hL
    refine .of (eqInts ⟨_, hL, rfl, _, rfl⟩ (gIsL S5 gd) hv hd hA1.u pw w _ _ ?_)
    try refine nx_ret ⋯ ?_
    exact k _ (back _ _ _ _ _ S5.H S5.S)
end
section
variable {ad : Nat → Addr} {ob : Nat → Obj} {a : Adr} {i : Nat} {n : Int} {u : Tok} {v : Value}
theorem x_r0 (S : St B L loc Z G ad ob us s₀ s) (R : Rel D a G ad ob) (hi : i < 2) (h : Q (.ref (ad (16 * (i + 2) + 16))) s) (hs : subscripted slice false (.ref (a.r i)) (.int 0 u) = operate [.ref (a.r i), .int 0 u] (getItem (.ref (a.r i)) (.int 0 u)) := by with_unfolding_all rfl) : WP pw w A (subscriptTail value slice (.ref (a.r i)) (.int 0 u)) Q E s := x_r S R hi (by decide) h hs
theorem x_r1 (S : St B L loc Z G ad ob us s₀ s) (R : Rel D a G ad ob) (hi : i < 2) (h : Q (.ref (ad (16 * (i + 2) + 17))) s) (hs : subscripted slice false (.ref (a.r i)) (.int 1 u) = operate [.ref (a.r i), .int 1 u] (getItem (.ref (a.r i)) (.int 1 u)) := by with_unfolding_all rfl) : WP pw w A (subscriptTail value slice (.ref (a.r i)) (.int 1 u)) Q E s := x_r S R hi (by decide) h hs
theorem x_r2 (S : St B L loc Z G ad ob us s₀ s) (R : Rel D a G ad ob) (hi : i < 2) (h : Q (.ref (ad (16 * (i + 2) + 18))) s) (hs : subscripted slice false (.ref (a.r i)) (.int 2 u) = operate [.ref (a.r i), .int 2 u] (getItem (.ref (a.r i)) (.int 2 u)) := by with_unfolding_all rfl) : WP pw w A (subscriptTail value slice (.ref (a.r i)) (.int 2 u)) Q E s := x_r S R hi (by decide) h hs
theorem x_r3 (S : St B L loc Z G ad ob us s₀ s) (R : Rel D a G ad ob) (hi : i < 2) (h : Q (.ref (ad (16 * (i + 2) + 19))) s) (hs : subscripted slice false (.ref (a.r i)) (.int 3 u) = operate [.ref (a.r i), .int 3 u] (getItem (.ref (a.r i)) (.int 3 u)) := by with_unfolding_all rfl) : WP pw w A (subscriptTail value slice (.ref (a.r i)) (.int 3 u)) Q E s := x_r S R hi (by decide) h hs
theorem sp_takeR {top : Int} {t : Tok} (C : Cx w B) (S : St B L loc Z G ad ob us s₀ s) (R : Rel D a G ad ob) (hu : ∀ k, US k → us k) (hA : Rm A 1) (ht : 0 < top ∧ top < 100)
   (k : ∀ r t x y o s', 0 ≤ r ∧ r < top → St B L loc Z G ad (up ob 3 o) us s₀ s' → Rel (D.sr x y) a G ad (up ob 3 o) → Q (.int r t) s') : WP pw w A (call (.ref 441) [.ref a.src, .int top t]) Q E s := by
  have e := R.src
  obtain ⟨t0, t1, hl⟩ := R.sr
  rw [← e]
  refine sp_take C S (hu 3 us_l) ⟨_, _, _, _, hl⟩ hA ht ?_
  rintro r t2 o s' hr ⟨x, y, t3, t4, ho⟩ S'
  try refine nx_ret ⋯ ?_
  exact k r t2 x y o s' hr S' (R.uSrc ho)
end
section
variable {ad : Nat → Addr} {ob : Nat → Obj} {a : Adr} {i : Nat} {n : Int} {u : Tok} {v : Value}
theorem sp_moved {num x step : Int} {t1 t2 t3 t4 : Tok} (C : Cx w B) (S : St B L loc Z G ad ob us s₀ s) (R : Rel D a G ad ob) (hu : ∀ k, US k → us k) (hA : Rm A 1) (hm : num = 0 ∨ num = 1) (hn : 0 ≤ n ∧ n < 3) (hk : x = 0 ∨ x = 1)
   (k : ∀ s', Dn B L loc Z G ad ob us s₀ a (D.sq (num.toNat + 2) ((D.q (num.toNat + 2)).mv x n step)) s' → Q .none s') : WP pw w A (call (.ref 488) [.ref a.rs, .int num t1, .int n t2, .int x t3, .int step t4]) Q E s := by
  obtain ⟨Z', H', back⟩ := S.lend
  refine r_call [("rows", .ref a.rs), ("number", .int num t1), ("i", .int n t2), ("axis", .int x t3), ("step", .int step t4)] C H' hA rfl rfl (BindsTo.of_eq rfl) (locs rfl) ?_
  intro A1 L1 s1 hA1 S1
  have hi2 : num.toNat < 2 := oq51 hm
  have hi4 : num.toNat + 2 < 4 := oq52 hi2
  have h3 := nq_ge (num.toNat + 2)
  have h6 := nq_le (num.toNat + 2)
  have hnq : 0 ≤ n ∧ n < nq (num.toNat + 2) := oq54 hn h3
  by_cases q : x = 0
  · walk_at "c"; refine r_assignT (Mine.r_sub (Mine.r_sub (Mine.r_sub ?_))); walk_at "l"; walk_at "l"; refine x_rs ⋯ ⋯ ⋯ ?_; walk_at "i"; refine x_r1 ⋯ ⋯ ⋯ ?_; walk_at "l"; refine X_c ⋯ ⋯ ⋯ ⋯ ⋯ ?_; intro _ _; refine x_unpT ⋯ (Rm.h ⋯) ⋯ ?_; intro _ _ _ _; refine r_inOrder (r_asName ?_); walk_at "t"; refine r_inOrder (r_asName ?_); walk_at "t"; refine r_inOrder0 ?_; walk_at "n"; refine r_assignS (r_ifexp (r_isCmp ?_)); walk_at "l"; walk_at "i"; refine r_eq (r_truthy ?_); refine beq_t ⋯ ?_; refine r_tupleE (r_args (r_bin ?_)); walk_at "l"; walk_at "l"; refine n_add ?_; walk_at "d"; refine r_args ?_; walk_at "l"; refine r_args0 ?_
    refine x_mkpt ⋯ ?_
    intro b G2 s2 le hp2 S2
    have R2 := R.mono le
    replace hp2 : IsPt G2 (.ref b) (mvp x step ((D.q (num.toNat + 2)).c n)) := by unfold mvp; rw [if_pos q]; exact hp2
    refine Mine.r_sub (Mine.r_sub ?_); walk_at "l"; walk_at "l"; refine x_rs ⋯ ⋯ ⋯ ?_; walk_at "i"; refine x_r1 ⋯ ⋯ ⋯ ?_; walk_at "l"; refine Y_c ⋯ ⋯ ⋯ ⋯ ⋯ ⋯ ?_; intro _ _ _ _; walk_at "n"; refine r_assignS ?_; refine r_bool ?_; refine Mine.r_sub (Mine.r_sub (Mine.r_sub ?_)); walk_at "l"; walk_at "l"; refine x_rs ⋯ ⋯ ⋯ ?_; walk_at "i"; refine x_r2 ⋯ ⋯ ⋯ ?_; walk_at "l"; refine X_t ⋯ ⋯ ⋯ ⋯ ⋯ ?_; walk_at "l"; refine Y_m ⋯ ⋯ ⋯ ⋯ ⋯ ⋯ ?_; intro _ _ _ _; walk_at "e"; refine r_nil ?_; dsimp only
    rename_i o3 s3 S3 R3
    rw [sq_q, sq_sq] at R3
    try refine nx_ret ⋯ ?_
    refine k _ (Dn.intro le ?_ (back _ _ _ _ _ S3.H S3.S) R3)
    refine Kp.up (oq161 hn hi2) ?_; refine Kp.up (oq150 hi2) ?_; exact Kp.refl _ _ _
  · walk_at "c"; refine r_assignT (Mine.r_sub (Mine.r_sub (Mine.r_sub ?_))); walk_at "l"; walk_at "l"; refine x_rs ⋯ ⋯ ⋯ ?_; walk_at "i"; refine x_r1 ⋯ ⋯ ⋯ ?_; walk_at "l"; refine X_c ⋯ ⋯ ⋯ ⋯ ⋯ ?_; intro _ _; refine x_unpT ⋯ (Rm.h ⋯) ⋯ ?_; intro _ _ _ _; refine r_inOrder (r_asName ?_); walk_at "t"; refine r_inOrder (r_asName ?_); walk_at "t"; refine r_inOrder0 ?_; walk_at "n"; refine r_assignS (r_ifexp (r_isCmp ?_)); walk_at "l"; walk_at "i"; refine r_eq (r_truthy ?_); refine beq_f ⋯ ?_; refine r_tupleE (r_args ?_); walk_at "l"; refine r_args (r_bin ?_); walk_at "l"; walk_at "l"; refine n_add ?_; walk_at "d"; refine r_args0 ?_
    refine x_mkpt ⋯ ?_
    intro b G2 s2 le hp2 S2
    have R2 := R.mono le
    replace hp2 : IsPt G2 (.ref b) (mvp x step ((D.q (num.toNat + 2)).c n)) := by unfold mvp; rw [if_neg q]; exact hp2
    refine Mine.r_sub (Mine.r_sub ?_); walk_at "l"; walk_at "l"; refine x_rs ⋯ ⋯ ⋯ ?_; walk_at "i"; refine x_r1 ⋯ ⋯ ⋯ ?_; walk_at "l"; refine Y_c ⋯ ⋯ ⋯ ⋯ ⋯ ⋯ ?_; intro _ _ _ _; walk_at "n"; refine r_assignS ?_; refine r_bool ?_; refine Mine.r_sub (Mine.r_sub (Mine.r_sub ?_)); walk_at "l"; walk_at "l"; refine x_rs ⋯ ⋯ ⋯ ?_; walk_at "i"; refine x_r2 ⋯ ⋯ ⋯ ?_; walk_at "l"; refine X_t ⋯ ⋯ ⋯ ⋯ ⋯ ?_; walk_at "l"; refine Y_m ⋯ ⋯ ⋯ ⋯ ⋯ ⋯ ?_; intro _ _ _ _; walk_at "e"; refine r_nil ?_; dsimp only
    rename_i o3 s3 S3 R3
    rw [sq_q, sq_sq] at R3
    try refine nx_ret ⋯ ?_
    refine k _ (Dn.intro le ?_ (back _ _ _ _ _ S3.H S3.S) R3)
    refine Kp.up (oq161 hn hi2) ?_; refine Kp.up (oq150 hi2) ?_; exact Kp.refl _ _ _
end
structure Ok (D : Dt) : Prop where
  e0 : D.q 0 = D.q 2
  e1 : D.q 1 = D.q 3
  f : D.fr = axv D.k
  k : D.k = 0 ∨ D.k = 1
  z0 : D.z0 = 0 ∨ D.z0 = 1
  z1 : D.z1 = 0 ∨ D.z1 = 1
  z2 : D.z2 = 0 ∨ D.z2 = 1
  l : D.loop = 1
noncomputable def In (M : Int) (p : Int × Int) : Prop := (-M ≤ p.1 ∧ p.1 ≤ M) ∧ (-M ≤ p.2 ∧ p.2 ≤ M)
noncomputable def Bd (M : Int) (D : Dt) : Prop := ∀ i, i < 2 → ∀ n, In M ((D.q i).c n)
inductive Due (B : Heap) (L : Addr) (loc : List (Str × Value)) (Z G : Addr → Obj → Prop) (ad : Nat → Addr) (ob : Nat → Obj) (us : Nat → Prop) (s₀ : Shared) (a : Adr) (D' : Dt) (v : Value) (s' : Shared) : Prop
  | mk (G' : Addr → Obj → Prop) (ad' : Nat → Addr) (ob' : Nat → Obj) (b : Addr) (ds : List Value) (l : ∀ b o, G b o → G' b o) (k : Kp us ad ob ad' ob') (S : St B L loc Z G' ad' ob' us s₀ s') (R : Rel D' a G' ad' ob') (e : v = .ref b) (g : G' b (lstO ds)) (n : All2 IsI ds D'.nums)
theorem c_sc (z : ZD) (n n' : Int) (p : Int × Int) : (z.sc n p).c n' = p ∨ (z.sc n p).c n' = z.c n' := by
  show (z.cur.set n.toNat p).getD n'.toNat (0, 0) = p ∨ (z.cur.set n.toNat p).getD n'.toNat (0, 0) = z.cur.getD n'.toNat (0, 0)
  rw [List.getD_eq_getElem?_getD, List.getD_eq_getElem?_getD, List.getElem?_set]
  split
  · split
    · exact .inl rfl
    · rename_i h1 h2
      right
      rw [List.getElem?_eq_none (oq63 h1 h2)]
  · exact .inr rfl
theorem In.mono {M M' : Int} {p : Int × Int} (h : In M p) (l : M ≤ M') : In M' p := by unfold In at *; exact oq64 h l
theorem In.mv {z : ZD} {M : Int} {k n d : Int} (h : ∀ n, In M (z.c n)) (hd : In M (mvp k d (z.c n))) (n' : Int) : In M ((z.mv k n d).c n') := by
  show In M ((z.sc n (mvp k d (z.c n))).c n')
  rcases c_sc z n n' (mvp k d (z.c n)) with e | e <;> rw [e]
  · exact hd
  · exact h n'
theorem Ok.qi {D : Dt} {i : Nat} (h : Ok D) (hi : i < 2) : D.q (i + 2) = D.q i := by
  have : i = 0 ∨ i = 1 := oq49 hi
  rcases this with rfl | rfl
  · exact h.e0.symm
  · exact h.e1.symm
section
variable {ad : Nat → Addr} {ob : Nat → Obj} {a : Adr} {i : Nat} {n : Int} {u : Tok} {v : Value}
theorem x_pk (S : St B L loc Z G ad ob us s₀ s) (hp : IsPt G v p) (hn : n = 0 ∨ n = 1) (h : ∀ t, Q (.int (ax n p) t) s) (hs : ∀ a i, subscripted slice false (.ref a) (.int i u) = operate [.ref a, .int i u] (getItem (.ref a) (.int i u)) := by intro _ _; with_unfolding_all rfl) : WP pw w A (subscriptTail value slice v (.int n u)) Q E s := by
  rcases hn with rfl | rfl
  · exact x_p0 S hp (fun t => h t) fun a => hs a 0
  · exact x_p1 S hp (fun t => h t) fun a => hs a 1
theorem Y_nums {Q : Unit → Shared → Prop} {b : Addr} {vs : List Value} (ns : List Int) (C : Cx w B) (N : Hold Z G G2 ad us L b (lstO vs)) (S : St B L loc Z G2 ad ob us s₀ s) (R : Rel D a G ad ob) (hu : ∀ k, US k → us k) (hv : All2 IsI vs ns)
    (h : ∀ ad' ob' s', Kp us ad ob ad' ob' → St B L loc Z G ad' ob' us s₀ s' → Rel (D.sn ns) a G ad' ob' → Q () s') : WP pw w A (setAttr (.ref a.k) "numbers" (.ref b)) Q E s := by
  refine y_nums (ns := ns) (d := 0) C (N.back S) R hu (N.get S) N.n hv fun o s' S' R' => h _ _ s' ?_ S' R'
  exact fun k u l => ⟨up_other _ _ (oq65 l), by rw [up_other _ _ (oq65 l), up_other _ _ (oq66 l)]⟩
theorem sp_one {l : Addr} {vs : List Value} (C : Cx w B) (S : St B L loc Z G ad ob us s₀ s) (R : Rel D a G ad ob) (hu : ∀ k, US k → us k) (hA : Rm A 2) (g : G l (lstO vs)) (hl : 0 < vs.length ∧ vs.length < 100)
   (k : ∀ (r : Nat) v x y o s', vs[r]? = some v → St B L loc Z G ad (up ob 3 o) us s₀ s' → Rel (D.sr x y) a G ad (up ob 3 o) → Q v s') : WP pw w A (call (.ref 448) [.ref a.src, .ref l]) Q E s := by
  obtain ⟨Z', H', back⟩ := S.lend
  refine r_call [("source", .ref a.src), ("things", .ref l)] C H' hA rfl rfl (BindsTo.of_eq rfl) (locs rfl) ?_
  intro A1 L1 s1 hA1 S1
  walk_at "c"; refine r_ret (Mine.r_sub ?_); walk_at "l"; refine r_callG ⋯ ⋯ (g_law_take _) (k_law_take _) ?_; refine r_args ?_; walk_at "l"; refine r_args ?_; refine r_callB ⋯ ⋯ (b_len _) bb_len ?_; refine r_args ?_; walk_at "l"; refine r_args0 ?_
  refine r_lenG ⋯ g (IsL.lst _) (oq67 hl) ?_
  intro t s2 S2
  refine r_args0 ?_; walk_at "k"
  refine sp_takeR C ⋯ R hu (Rm.less hA1) (oq68 hl) ?_
  intro r t x y o s3 hr S3 R3
  skip
  obtain ⟨v, hv⟩ : ∃ v, vs[r.toNat]? = some v := ⟨_, List.getElem?_eq_getElem (oq69 hr)⟩
  refine r_gitem ⋯ g (IsL.lst _) hr.1 (oq70 hl hr) hv ?_
  try refine nx_ret ⋯ ?_
  exact k _ _ x y o _ hv (back _ _ _ _ _ S3.H S3.S) R3
end
structure Gt (D D' : Dt) (ns : List Int) (q : Nat → ZD) : Prop where
  k : D'.k = D.k
  f : D'.fr = D.fr
  z0 : D'.z0 = D.z0
  z1 : D'.z1 = D.z1
  z2 : D'.z2 = D.z2
  l : D'.loop = D.loop
  q : D'.q = q
  n : D'.nums = ns
theorem Gt.trans {D D1 D2 : Dt} {ns ns' : List Int} {q q' : Nat → ZD} (g : Gt D D1 ns q) (h : Gt D1 D2 ns' q') : Gt D D2 ns' q' := ⟨h.k.trans g.k, h.f.trans g.f, h.z0.trans g.z0, h.z1.trans g.z1, h.z2.trans g.z2, h.l.trans g.l, h.q, h.n⟩
theorem Ok.gt {D D' : Dt} {ns : List Int} {q : Nat → ZD} (O : Ok D) (g : Gt D D' ns q) (h0 : q 0 = q 2) (h1 : q 1 = q 3) : Ok D' :=
  ⟨by rw [g.q]; exact h0, by rw [g.q]; exact h1, by rw [g.f, g.k]; exact O.f, g.k ▸ O.k, g.z0 ▸ O.z0, g.z1 ▸ O.z1, g.z2 ▸ O.z2, g.l.trans O.l⟩
theorem Ok.same {D D' : Dt} {ns : List Int} (O : Ok D) (g : Gt D D' ns D.q) : Ok D' := O.gt g O.e0 O.e1
theorem Bd.gt {D D' : Dt} {ns : List Int} {q : Nat → ZD} {M : Int} (g : Gt D D' ns q) (h : ∀ i, i < 2 → ∀ n, In M ((q i).c n)) : Bd M D' := by
  intro i hi n
  rw [g.q]; exact h i hi n
noncomputable def tw (q : Nat → ZD) (i : Nat) (z : ZD) : Nat → ZD := up (up q i z) (i + 2) z
theorem tw_ok {q : Nat → ZD} {i : Nat} {z : ZD} (hi : i < 2) (h0 : q 0 = q 2) (h1 : q 1 = q 3) : tw q i z 0 = tw q i z 2 ∧ tw q i z 1 = tw q i z 3 := by
  have : i = 0 ∨ i = 1 := oq49 hi
  rcases this with rfl | rfl
  · exact ⟨rfl, h1⟩
  · exact ⟨h0, rfl⟩
theorem tw_at {q : Nat → ZD} {i : Nat} {z : ZD} (hi : i < 2) (j : Nat) (hj : j < 2) : tw q i z j = if j = i then z else q j := by
  unfold tw up
  rw [if_neg (oq50 hj)]
theorem tw_bd {q : Nat → ZD} {i : Nat} {z : ZD} {M M' : Int} (hi : i < 2) (h : ∀ i, i < 2 → ∀ n, In M ((q i).c n)) (hM : M ≤ M') (hz : ∀ n, In M' (z.c n)) : ∀ j, j < 2 → ∀ n, In M' ((tw q i z j).c n) := by
  intro j hj n
  rw [tw_at hi j hj]
  split
  · exact hz n
  · exact (h j hj n).mono hM
section
variable {ad : Nat → Addr} {ob : Nat → Obj} {a : Adr} {i : Nat} {n : Int} {u : Tok} {v : Value}
theorem take_ {top : Int} {t : Tok} (C : Cx w B) (S : St B L loc Z G ad ob us s₀ s) (R : Rel D a G ad ob) (hu : ∀ k, US k → us k) (hA : Rm A 1) (ht : 0 < top ∧ top < 100)
   (k : ∀ r t D' o s', 0 ≤ r ∧ r < top → Gt D D' D.nums D.q → St B L loc Z G ad (up ob 3 o) us s₀ s' → Rel D' a G ad (up ob 3 o) → Q (.int r t) s') : WP pw w A (call (.ref 441) [.ref a.src, .int top t]) Q E s :=
  sp_takeR C S R hu hA ht fun r t x y o s' hr S' R' => k r t _ o s' hr (by exact ⟨rfl, rfl, rfl, rfl, rfl, rfl, rfl, rfl⟩) S' R'
theorem one_ {l : Addr} {vs : List Value} (C : Cx w B) (S : St B L loc Z G ad ob us s₀ s) (R : Rel D a G ad ob) (hu : ∀ k, US k → us k) (hA : Rm A 2) (g : G l (lstO vs)) (hl : 0 < vs.length ∧ vs.length < 100)
   (k : ∀ (r : Nat) v D' o s', vs[r]? = some v → Gt D D' D.nums D.q → St B L loc Z G ad (up ob 3 o) us s₀ s' → Rel D' a G ad (up ob 3 o) → Q v s') : WP pw w A (call (.ref 448) [.ref a.src, .ref l]) Q E s :=
  sp_one C S R hu hA g hl fun r v x y o s' hv S' R' => k r v _ o s' hv (by exact ⟨rfl, rfl, rfl, rfl, rfl, rfl, rfl, rfl⟩) S' R'
theorem nums_ {G2 : Addr → Obj → Prop} {Q : Unit → Shared → Prop} {b : Addr} {vs : List Value} (ns : List Int) (C : Cx w B) (N : Hold Z G G2 ad us L b (lstO vs)) (S : St B L loc Z G2 ad ob us s₀ s) (R : Rel D a G ad ob) (hu : ∀ k, US k → us k) (hv : All2 IsI vs ns)
    (h : ∀ D' ad' ob' s', Gt D D' ns D.q → Kp us ad ob ad' ob' → St B L loc Z G ad' ob' us s₀ s' → Rel D' a G ad' ob' → Q () s') : WP pw w A (setAttr (.ref a.k) "numbers" (.ref b)) Q E s :=
  Y_nums ns C N S R hu hv fun ad' ob' s' K' S' R' => h _ ad' ob' s' (by exact ⟨rfl, rfl, rfl, rfl, rfl, rfl, rfl, rfl⟩) K' S' R'
theorem moved_ {num x step : Int} {t1 t2 t3 t4 : Tok} (C : Cx w B) (S : St B L loc Z G ad ob us s₀ s) (R : Rel D a G ad ob) (hu : ∀ k, US k → us k) (hA : Rm A 1) (hm : num = 0 ∨ num = 1) (hn : 0 ≤ n ∧ n < 3) (hk : x = 0 ∨ x = 1)
   (k : ∀ D' s', Gt D D' D.nums (up D.q (num.toNat + 2) ((D.q (num.toNat + 2)).mv x n step)) → Dn B L loc Z G ad ob us s₀ a D' s' → Q .none s') : WP pw w A (call (.ref 488) [.ref a.rs, .int num t1, .int n t2, .int x t3, .int step t4]) Q E s :=
  sp_moved C S R hu hA hm hn hk fun s' d => k _ s' (by exact ⟨rfl, rfl, rfl, rfl, rfl, rfl, rfl, rfl⟩) d
theorem scfs_ {m c : Int} {t : Tok} (C : Cx w B) (S : St B L loc Z G ad ob us s₀ s) (R : Rel D a G ad ob) (hu : ∀ k, US k → us k) (hA : Rm A 6) (hz : D.z2 = 0 ∨ D.z2 = 1) (hf : D.fr = axv D.k) (hN : D.nums = [n, m]) (hn : 0 ≤ n ∧ n < 3)
   (k : ∀ D' s', Gt D D' [] (up D.q D.z2.toNat (if D.z2 = 0 then ((D.q D.z2.toNat).mv D.k n (m - ax D.k ((D.q D.z2.toNat).c n))).so n (((D.q D.z2.toNat).mv D.k n (m - ax D.k ((D.q D.z2.toNat).c n))).c n) else (D.q D.z2.toNat).mv D.k n (m - ax D.k ((D.q D.z2.toNat).c n)))) → Dn B L loc Z G ad ob us s₀ a D' s' → Q .none s') : WP pw w A (call (.ref 113) [.ref a.w, .int c t]) Q E s :=
  sp_scfs C S R hu hA hz hf hN hn fun s' d => k _ s' (by exact ⟨rfl, rfl, rfl, rfl, rfl, rfl, rfl, rfl⟩) d
theorem sp_law_scfs {M : Int} {t : Tok} (C : Cx w B) (S : St B L loc Z G ad ob us s₀ s) (R : Rel D a G ad ob) (hu : ∀ k, US k → us k) (hA : Rm A 8) (O : Ok D) (hB : Bd M D) (hM : 512 ≤ M)
   (k : ∀ v D' s', D'.k = D.k → Ok D' → Bd (64 * M) D' → Due B L loc Z G ad ob us s₀ a D' v s' → Q v s') : WP pw w A (call (.ref 526) [.ref a.src, .ref a.w, .ref a.rs, .ref a.s, .int D.k t]) Q E s := by
  obtain ⟨Z', H', back⟩ := S.lend
  refine r_call [("source", .ref a.src), ("work", .ref a.w), ("rows", .ref a.rs), ("state", .ref a.s), ("axis", .int D.k t)] C H' hA rfl rfl (BindsTo.of_eq rfl) (locs rfl) ?_
  intro A1 L1 s1 hA1 S1
  have hz2 := O.z2
  have hzi : D.z2.toNat < 2 := oq51 hz2
  have hz4 : D.z2.toNat + 2 < 4 := oq52 hzi
  have hk := O.k
  walk_at "c"; refine r_assign2 (r_tupleE (r_args ?_)); refine r_callG ⋯ ⋯ (g_law_take _) (k_law_take _) ?_; refine r_args ?_; walk_at "l"; refine r_args ?_; walk_at "i"; refine r_args0 ?_; walk_at "k"
  refine take_ C ⋯ R hu (Rm.less hA1) (by decide) ?_
  intro n t2 D1 o1 s1' hn g1 S1' R1'
  refine r_args ?_; refine r_callG ⋯ ⋯ (g_law_one _) (k_law_one _) ?_; refine r_args ?_; walk_at "l"; refine r_args (r_listE (r_args ?_)); walk_at "i"; refine r_args ?_; walk_at "i"; refine r_args (r_unary ?_); walk_at "i"; refine n_neg ?_; walk_at "d"; refine r_args ?_; walk_at "i"; refine r_args0 ?_
  refine x_mklist ⋯ ?_
  intro b1 G1 s2 le1 gl S2
  have R1 := R1'.mono le1
  refine r_args0 ?_; walk_at "k"
  refine one_ C ⋯ R1 hu (Rm.less hA1) gl (by exact ⟨Nat.le_of_ble_eq_true rfl, Nat.le_of_ble_eq_true rfl⟩) ?_
  intro r v D3 o3 s3 hv g3 S3 R3
  obtain ⟨m, t3, rfl, hm⟩ : ∃ m t3, v = .int m t3 ∧ (-512 ≤ m ∧ m ≤ 512) := by
    match r, hv with
    | 0, hv => cases hv; exact ⟨_, _, rfl, by decide⟩
    | 1, hv => cases hv; exact ⟨_, _, rfl, by decide⟩
    | 2, hv => cases hv; exact ⟨_, _, rfl, by decide⟩
    | 3, hv => cases hv; exact ⟨_, _, rfl, by decide⟩
    | r + 4, hv => cases hv
  clear hv
  replace g3 : Gt D D3 D.nums D.q := by
    have := g1.trans g3; rwa [g1.q, g1.n] at this
  refine r_args0 ?_; refine r_tuple ⋯ ?_; intro _ _ _ _ _; refine r_unpackN ⋯ (Rm.h ⋯) ⋯ ?_; intro _ _; refine r_inOrder (r_bindName ?_); walk_at "t"; refine r_inOrder (r_bindName ?_); walk_at "t"; refine r_inOrder0 ?_; walk_at "n"; refine r_assignA (r_listE (r_args ?_)); walk_at "l"; refine r_args ?_; walk_at "l"; refine r_args0 ?_
  refine x_hold ⋯ ?_
  intro b2 G2 s4 le2 N2 S4
  have R4 := R3.mono le2
  refine r_attrN ?_; walk_at "l"; refine x_wsk ⋯ ⋯ ⋯ ⋯ ?_; intro _ _
  refine nums_ [n, m] C N2 ⋯ R3 hu (.cons ⟨_, rfl⟩ (.cons ⟨_, rfl⟩ .nil)) ?_
  intro D5 ad5 ob5 s5 g5 K5 S5 R5
  replace g5 := g3.trans g5
  rw [g3.q] at g5
  clear R4 S4
  walk_at "n"; refine r_expr ?_; refine r_callG ⋯ ⋯ (g_do_scfs _) (k_do_scfs _) ?_; refine r_args ?_; walk_at "l"; refine r_args ?_; walk_at "i"; refine r_args0 ?_; walk_at "k"
  have e5 := g5.z2
  refine scfs_ C ⋯ R5 hu (Rm.less hA1) (by rw [e5]; exact hz2) (by rw [g5.f, g5.k]; exact O.f) g5.n hn ?_
  rw [g5.z2, g5.q, g5.k]
  rintro D6 s6 g6 ⟨G6, ad6, ob6, le6, K6, S6, R6⟩
  replace g6 := g5.trans g6
  have hq6 : D6.q (D.z2.toNat + 2) = D.q D.z2.toNat := by rw [g6.q, up_other _ _ (oq53)]; exact O.qi hzi
  have e6 := g6.z2
  have hnq := nq_ge (D.z2.toNat + 2)
  have hnq2 : 0 ≤ n ∧ n < nq (D.z2.toNat + 2) := oq54 hn hnq
  have hnq6 : 0 ≤ n ∧ n < nq (D6.z2.toNat + 2) := by rw [e6]; exact hnq2
  walk_at "n"; refine r_expr ?_; refine r_callG ⋯ ⋯ (g_law_moved _) (k_law_moved _) ?_; refine r_args ?_; walk_at "l"; refine r_args (r_attrN ?_); walk_at "l"; refine x_z2 ⋯ ⋯ ⋯ ⋯ ?_; intro _ _ _; refine r_args ?_; walk_at "l"; refine r_args ?_; walk_at "l"; refine r_args (r_bin ?_); walk_at "l"; refine Mine.r_sub (Mine.r_sub (Mine.r_sub (Mine.r_sub ?_))); walk_at "l"; refine r_attrN ?_; walk_at "l"; refine x_z2 ⋯ ⋯ ⋯ ⋯ ?_; intro _ _ _; refine x_rs ⋯ ⋯ (oq55 hz2 e6) ?_; walk_at "i"; refine x_r1 ⋯ ⋯ (oq56 hzi e6) ?_; walk_at "l"; refine X_c ⋯ ⋯ ⋯ (oq57 hzi e6) ⋯ ?_; intro _ _; walk_at "l"; refine x_pk ⋯ ⋯ ⋯ ?_; intro _; refine n_sub ?_; walk_at "d"; refine r_args0 ?_; walk_at "k"
  refine moved_ (num := D6.z2) (n := n) (x := D.k) C ⋯ R6 hu (Rm.less hA1) (by rw [e6]; exact hz2) hn hk ?_
  rw [e6, hq6]
  rintro D7 s7 g7 ⟨G7, ad7, ob7, le7, K7, S7, R7⟩
  replace g7 := g6.trans g7
  rw [g6.q, g6.n] at g7
  have e7 := g7.z2
  have Kall : Kp us ad ob ad7 ob7 := Kp.trans (Kp.trans (Kp.trans (by refine Kp.up (oq58) ?_; refine Kp.up (oq58) ?_; exact Kp.refl _ _ _) K5) K6) K7
  have leall : ∀ b o, G b o → G7 b o := fun b o g => le7 _ _ (le6 _ _ (le1 _ _ g))
  have hmv : ∀ n', In (64 * M) (((D.q D.z2.toNat).mv D.k n (m - ax D.k ((D.q D.z2.toNat).c n))).c n') := by
    refine In.mv (fun n' => (hB _ hzi n').mono (oq59 hM)) ?_
    have := hB _ hzi n
    unfold mvp ax
    split <;> (unfold In at *; dsimp only; omega)
  by_cases q : D.z2 = 0
  · have q7 : D7.z2 = 0 := e7.trans q
    rw [if_pos q] at g7
    have h0 : D.z2.toNat = 0 := by rw [q]; rfl
    rw [h0] at g7 hmv
    have hnq3 : 0 ≤ n ∧ n < nq (Int.toNat 0 + 2) := by rw [h0] at hnq2; exact hnq2
    walk_at "n"; refine r_if (r_isCmp (r_attrN ?_)); walk_at "l"; refine x_z2 ⋯ ⋯ ⋯ ⋯ ?_; intro _ _ _; walk_at "i"; refine r_eq (r_truthy ?_); refine beq_t ⋯ ?_; walk_at "c"; refine r_assignS (Mine.r_sub (Mine.r_sub (Mine.r_sub ?_))); walk_at "l"; walk_at "i"; refine x_rs ⋯ ⋯ (by decide) ?_; walk_at "i"; refine x_r1 ⋯ ⋯ (oq60) ?_; walk_at "l"; refine X_c ⋯ ⋯ ⋯ (oq61) ⋯ ?_; intro _ _; refine Mine.r_sub (Mine.r_sub ?_); walk_at "l"; walk_at "i"; refine x_rs ⋯ ⋯ (by decide) ?_; walk_at "i"; refine x_r0 ⋯ ⋯ (oq60) ?_; walk_at "l"; refine Y_o ⋯ ⋯ ⋯ (oq61) ⋯ ⋯ ?_; intro _ _ _ _; walk_at "e"; refine r_nil ?_; walk_at "n"; refine r_ret (r_listE (r_args0 ?_))
    rename_i o9 s9 S9 R9
    have hD : Gt D (D7.sq (Int.toNat 0 + 2) ((D7.q (Int.toNat 0 + 2)).so n ((D7.q (Int.toNat 0 + 2)).c n))) [] (tw D.q 0 (((D.q 0).mv D.k n (m - ax D.k ((D.q 0).c n))).so n (((D.q 0).mv D.k n (m - ax D.k ((D.q 0).c n))).c n))) := by
      refine ⟨g7.k, g7.f, g7.z0, g7.z1, g7.z2, g7.l, ?_, g7.n⟩
      show up D7.q 2 ((D7.q 2).so n ((D7.q 2).c n)) = _
      rw [g7.q, show (0 + 2 : Nat) = 2 from rfl, up_same, up_up]
      rfl
    refine x_mklist ⋯ ?_
    intro b8 G8 s8 le8 g8 S8
    refine nx_ret ⋯ ?_; clear Nc Qc; dsimp only
    refine k _ _ _ hD.k (O.gt hD (tw_ok (by decide) O.e0 O.e1).1 (tw_ok (by decide) O.e0 O.e1).2) (Bd.gt hD (tw_bd (by decide) hB (oq59 hM) hmv)) ?_
    exact ⟨G8, ad7, _, b8, [], fun b o g => le8 _ _ (leall _ _ g), Kp.up (by decide) Kall, back _ _ _ _ _ S8.H S8.S, R9.mono le8, rfl, g8, by rw [hD.n]; exact .nil⟩
  · have q7 : ¬ D7.z2 = 0 := fun h => q (e7.symm.trans h)
    rw [if_neg q] at g7
    walk_at "n"; refine r_if (r_isCmp (r_attrN ?_)); walk_at "l"; refine x_z2 ⋯ ⋯ ⋯ ⋯ ?_; intro _ _ _; walk_at "i"; refine r_eq (r_truthy ?_); refine beq_f ⋯ ?_; refine r_nil ?_; walk_at "n"; refine r_ret (r_listE (r_args0 ?_))
    refine x_mklist ⋯ ?_
    intro b8 G8 s8 le8 g8 S8
    refine nx_ret ⋯ ?_; clear Nc Qc; dsimp only
    refine k _ D7 _ g7.k (O.gt g7 (tw_ok hzi O.e0 O.e1).1 (tw_ok hzi O.e0 O.e1).2) (Bd.gt g7 (tw_bd hzi hB (oq59 hM) hmv)) ?_
    exact ⟨G8, ad7, ob7, b8, [], fun b o g => le8 _ _ (leall _ _ g), Kall, back _ _ _ _ _ S8.H S8.S, R7.mono le8, rfl, g8, by rw [g7.n]; exact .nil⟩
end
theorem ax_sub (k : Int) (p q : Int × Int) : ax k (p.1 - q.1, p.2 - q.2) = ax k p - ax k q := by unfold ax; split <;> rfl
theorem cut_two (x : Int) : ctf x 2 = cdv x 1 2 := by
  unfold ctf cdv abz
  rw [Int.mul_one]
  split <;> split <;> split <;> (try omega) <;> (first | rfl | skip)
  all_goals (simp only [Int.zero_sub])
theorem cdv_two_bd {y M : Int} (h : -(2 * M) ≤ y ∧ y ≤ 2 * M) : -M ≤ cdv y 1 2 ∧ cdv y 1 2 ≤ M := by
  unfold cdv
  rw [Int.mul_one, if_neg (show ¬ (2 : Int) < 0 by decide)]
  split <;> (rw [Int.fdiv_eq_ediv_of_nonneg _ (by decide)]; omega)
theorem In.ax {M : Int} {p : Int × Int} (h : In M p) (k : Int) : -M ≤ ax k p ∧ ax k p ≤ M := by
  unfold Mine.ax; unfold In at h; split <;> omega
theorem In.mvp {M d : Int} {p : Int × Int} (h : In M p) {N : Int} (hd : -N ≤ d ∧ d ≤ N) (k : Int) : In (M + N) (mvp k d p) := by
  unfold Mine.mvp; unfold In at *; split <;> (dsimp only; omega)
section
variable {ad : Nat → Addr} {ob : Nat → Obj} {a : Adr} {i : Nat} {n : Int} {u : Tok} {v : Value}
theorem gc_ {c : Int} {t : Tok} (C : Cx w B) (S : St B L loc Z G ad ob us s₀ s) (R : Rel D a G ad ob) (hu : ∀ k, US k → us k) (hA : Rm A 6) (hz : D.z2 = 0 ∨ D.z2 = 1) (hN : D.nums = [n]) (hn : 0 ≤ n ∧ n < 3)
   (k : ∀ x D' s', (Int.fmod c 2 = 1 → x = ax D.k ((D.q D.z2.toNat).o n)) → (¬ Int.fmod c 2 = 1 → x = ax D.k ((D.q D.z2.toNat).c n)) → Gt D D' [x] D.q → Dn B L loc Z G ad ob us s₀ a D' s' → Q .none s') : WP pw w A (call (.ref 106) [.ref a.w, .int c t]) Q E s :=
  sp_gc C S R hu hA hz hN hn fun x s' h1 h2 d => k x _ s' h1 h2 (by exact ⟨rfl, rfl, rfl, rfl, rfl, rfl, rfl, rfl⟩) d
theorem md_ {c : Int} {t : Tok} (C : Cx w B) (S : St B L loc Z G ad ob us s₀ s) (R : Rel D a G ad ob) (hu : ∀ k, US k → us k) (hA : Rm A 6) (hz0 : D.z0 = 0 ∨ D.z0 = 1) (hz1 : D.z1 = 0 ∨ D.z1 = 1) (hN : D.nums = [n, m]) (hn : 0 ≤ n ∧ n < 3) (hm : 0 ≤ m ∧ m < 3)
   (k : ∀ x D' s', (Int.fmod c 2 = 1 → x = ax D.k ((D.q D.z0.toNat).c n) - ax D.k ((D.q D.z1.toNat).c m)) → (¬ Int.fmod c 2 = 1 → x = ax D.k ((D.q D.z0.toNat).o n) - ax D.k ((D.q D.z1.toNat).o m)) →
     Gt D D' [x] D.q → Dn B L loc Z G ad ob us s₀ a D' s' → Q .none s') : WP pw w A (call (.ref 120) [.ref a.w, .int c t]) Q E s :=
  sp_md C S R hu hA hz0 hz1 hN hn hm fun x s' h1 h2 d => k x _ s' (fun h => by rw [h1 h, ax_sub]) (fun h => by rw [h2 h, ax_sub]) (by exact ⟨rfl, rfl, rfl, rfl, rfl, rfl, rfl, rfl⟩) d
theorem align_ {c : Int} {t : Tok} (C : Cx w B) (S : St B L loc Z G ad ob us s₀ s) (R : Rel D a G ad ob) (hu : ∀ k, US k → us k) (hA : Rm A 6) (hz0 : D.z0 = 0 ∨ D.z0 = 1) (hz1 : D.z1 = 0 ∨ D.z1 = 1) (hf : D.fr = axv D.k) (hN : D.nums = [n, m]) (hn : 0 ≤ n ∧ n < 3) (hm : 0 ≤ m ∧ m < 3)
   (k : ∀ x D' s', x = cdv (ax D.k ((D.q D.z0.toNat).c m) - ax D.k ((D.q D.z1.toNat).c n)) 1 2 →
     Gt D D' [] (up (up D.q D.z1.toNat ((D.q D.z1.toNat).mv D.k n x)) D.z0.toNat ((up D.q D.z1.toNat ((D.q D.z1.toNat).mv D.k n x) D.z0.toNat).mv D.k m (0 - x))) → Dn B L loc Z G ad ob us s₀ a D' s' → Q .none s') : WP pw w A (call (.ref 141) [.ref a.w, .int c t]) Q E s :=
  sp_alignpts C S R hu hA hz0 hz1 hf hN hn hm fun x s' h d => k x _ s' (by rw [h, ax_sub]) (by exact ⟨rfl, rfl, rfl, rfl, rfl, rfl, rfl, rfl⟩) d
theorem sp_law_measures {M : Int} {t : Tok} (C : Cx w B) (S : St B L loc Z G ad ob us s₀ s) (R : Rel D a G ad ob) (hu : ∀ k, US k → us k) (hA : Rm A 8) (O : Ok D) (hB : Bd M D) (hM : 512 ≤ M)
   (k : ∀ v D' s', D'.k = D.k → Ok D' → Bd (64 * M) D' → Due B L loc Z G ad ob us s₀ a D' v s' → Q v s') : WP pw w A (call (.ref 533) [.ref a.src, .ref a.w, .ref a.rs, .ref a.s, .int D.k t]) Q E s := by
  obtain ⟨Z', H', back⟩ := S.lend
  refine r_call [("source", .ref a.src), ("work", .ref a.w), ("rows", .ref a.rs), ("state", .ref a.s), ("axis", .int D.k t)] C H' hA rfl rfl (BindsTo.of_eq rfl) (locs rfl) ?_
  intro A1 L1 s1 hA1 S1
  have hk := O.k
  walk_at "c"; refine r_assign3 (r_tupleE (r_args ?_)); refine r_callG ⋯ ⋯ (g_law_take _) (k_law_take _) ?_; refine r_args ?_; walk_at "l"; refine r_args ?_; walk_at "i"; refine r_args0 ?_; walk_at "k"
  refine take_ C ⋯ R hu (Rm.less hA1) (by decide) ?_
  intro n t2 D1 o1 s2 hn g1 S2 R2
  refine r_args ?_; refine r_callG ⋯ ⋯ (g_law_take _) (k_law_take _) ?_; refine r_args ?_; walk_at "l"; refine r_args ?_; walk_at "i"; refine r_args0 ?_; walk_at "k"
  refine take_ C ⋯ R2 hu (Rm.less hA1) (by decide) ?_
  intro m t3 D2 o2 s3 hm g2 S3 R3
  refine r_args ?_; refine r_callG ⋯ ⋯ (g_law_take _) (k_law_take _) ?_; refine r_args ?_; walk_at "l"; refine r_args ?_; walk_at "i"; refine r_args0 ?_; walk_at "k"
  refine take_ C ⋯ R3 hu (Rm.less hA1) (by decide) ?_
  intro b t4 D3 o3 s4 hb g3 S4 R4
  refine r_args0 ?_; refine r_tuple ⋯ ?_; intro _ _ _ _ _; refine r_unpackN ⋯ (Rm.h ⋯) ⋯ ?_; intro _ _; refine r_inOrder (r_bindName ?_); walk_at "t"; refine r_inOrder (r_bindName ?_); walk_at "t"; refine r_inOrder (r_bindName ?_); walk_at "t"; refine r_inOrder0 ?_; walk_at "n"; refine r_if (r_isCmp ?_); refine r_callG ⋯ ⋯ (g_law_take _) (k_law_take _) ?_; refine r_args ?_; walk_at "l"; refine r_args ?_; walk_at "i"; refine r_args0 ?_; walk_at "k"
  refine take_ C ⋯ R4 hu (Rm.less hA1) (by decide) ?_
  intro b2 t5 D4 o4 s5 hb2 g4 S5 R5
  clear R2 R3 R4
  replace g4 : Gt D D4 D.nums D.q := by
    have h2 := g1.trans g2; rw [g1.q, g1.n] at h2
    have h3 := h2.trans g3; rw [h2.q, h2.n] at h3
    have h4 := h3.trans g4; rwa [h3.q, h3.n] at h4
  clear g1 g2 g3
  walk_at "i"; refine r_eq (r_truthy ?_); (refine br ?_ ?_ <;> intro _); walk_at "c"; refine r_assignA (r_listE (r_args ?_)); walk_at "l"; refine r_args0 ?_; rotate_left; refine r_nil ?_; walk_at "n"; refine r_assignA (r_listE (r_args ?_)); walk_at "l"; refine r_args ?_; walk_at "l"; refine r_args0 ?_; rotate_left
  · refine x_hold ⋯ ?_
    intro b6 G6 s6 le6 N6 S6
    have R6 := R5.mono le6
    refine r_attrN ?_; walk_at "l"; refine x_wsk ⋯ ⋯ ⋯ ⋯ ?_; intro _ _
    refine nums_ [n] C N6 ⋯ R5 hu (.cons ⟨_, rfl⟩ .nil) ?_
    intro D7 ad7 ob7 s7 g7 K7 S7 R7
    replace g7 := g4.trans g7
    rw [g4.q] at g7
    clear R6 S6
    walk_at "n"; refine r_expr ?_; refine r_callG ⋯ ⋯ (g_do_gc _) (k_do_gc _) ?_; refine r_args ?_; walk_at "l"; refine r_args (r_bin ?_); walk_at "i"; walk_at "l"; refine n_sub ?_; walk_at "d"; refine r_args0 ?_; walk_at "k"
    have O7 := O.same g7
    refine gc_ C ⋯ R7 hu (Rm.less hA1) O7.z2 g7.n hn ?_
    rintro x D8 s8 hx1 hx2 g8 ⟨G8, ad8, ob8, le8, K8, S8, R8⟩
    replace g8 := g7.trans g8
    rw [g7.q] at g8 hx1 hx2
    have O8 := O.same g8
    have hzi : D8.z2.toNat < 2 := by have := O8.z2; exact oq51 this
    have hz4 : D8.z2.toNat + 2 < 4 := oq52 hzi
    have h01 := O8.z2
    have hnq := nq_ge (D8.z2.toNat + 2)
    have hnq2 : 0 ≤ n ∧ n < nq (D8.z2.toNat + 2) := oq54 hn hnq
    have Kall : Kp us ad ob ad8 ob8 := Kp.trans (Kp.trans (by refine Kp.up (oq58) ?_; refine Kp.up (oq58) ?_; refine Kp.up (oq58) ?_; refine Kp.up (oq58) ?_; exact Kp.refl _ _ _) K7) K8
    rcases (by exact oq331 hb : b = 0 ∨ b = 1) with rfl | rfl
    · walk_at "n"; refine r_ret (r_listE (r_args (Mine.r_sub (Mine.r_sub (Mine.r_sub (Mine.r_sub ?_)))))); walk_at "l"; refine r_attrN ?_; walk_at "l"; refine x_z2 ⋯ ⋯ ⋯ ⋯ ?_; intro _ _ _; refine x_rs ⋯ ⋯ ⋯ ?_; walk_at "l"; refine x_r0 ⋯ ⋯ ⋯ ?_; walk_at "l"; refine X_o ⋯ ⋯ ⋯ ⋯ ⋯ ?_; intro _ _; walk_at "l"; refine x_pk ⋯ ⋯ ⋯ ?_; intro _; refine r_args0 ?_
      refine x_mklist ⋯ ?_
      intro b9 G9 s9 le9 gl9 S9
      refine nx_ret ⋯ ?_; clear Nc Qc; refine nx_ret ⋯ ?_; clear Nc Qc; dsimp only
      refine k _ D8 _ g8.k O8 (Bd.gt g8 fun i hi n => (hB i hi n).mono (oq59 hM)) ?_
      refine ⟨G9, ad8, ob8, b9, _, fun b o g => le9 _ _ (le8 _ _ g), Kall, back _ _ _ _ _ S9.H S9.S, R8.mono le9, rfl, gl9, ?_⟩
      rw [g8.n, hx1 (by decide), g7.k, g7.z2, g8.q, g8.z2, O.qi (by have := O.z2; exact oq51 this)]
      exact .cons ⟨_, rfl⟩ .nil
    · walk_at "n"; refine r_ret (r_listE (r_args (Mine.r_sub (Mine.r_sub (Mine.r_sub (Mine.r_sub ?_)))))); walk_at "l"; refine r_attrN ?_; walk_at "l"; refine x_z2 ⋯ ⋯ ⋯ ⋯ ?_; intro _ _ _; refine x_rs ⋯ ⋯ ⋯ ?_; walk_at "l"; refine x_r1 ⋯ ⋯ ⋯ ?_; walk_at "l"; refine X_c ⋯ ⋯ ⋯ ⋯ ⋯ ?_; intro _ _; walk_at "l"; refine x_pk ⋯ ⋯ ⋯ ?_; intro _; refine r_args0 ?_
      refine x_mklist ⋯ ?_
      intro b9 G9 s9 le9 gl9 S9
      refine nx_ret ⋯ ?_; clear Nc Qc; refine nx_ret ⋯ ?_; clear Nc Qc; dsimp only
      refine k _ D8 _ g8.k O8 (Bd.gt g8 fun i hi n => (hB i hi n).mono (oq59 hM)) ?_
      refine ⟨G9, ad8, ob8, b9, _, fun b o g => le9 _ _ (le8 _ _ g), Kall, back _ _ _ _ _ S9.H S9.S, R8.mono le9, rfl, gl9, ?_⟩
      rw [g8.n, hx2 (by decide), g7.k, g7.z2, g8.q, g8.z2, O.qi (by have := O.z2; exact oq51 this)]
      exact .cons ⟨_, rfl⟩ .nil
  · refine x_hold ⋯ ?_
    intro b6 G6 s6 le6 N6 S6
    have R6 := R5.mono le6
    refine r_attrN ?_; walk_at "l"; refine x_wsk ⋯ ⋯ ⋯ ⋯ ?_; intro _ _
    refine nums_ [n, m] C N6 ⋯ R5 hu (.cons ⟨_, rfl⟩ (.cons ⟨_, rfl⟩ .nil)) ?_
    intro D7 ad7 ob7 s7 g7 K7 S7 R7
    replace g7 := g4.trans g7
    rw [g4.q] at g7
    clear R6 S6
    walk_at "n"; refine r_expr ?_; refine r_callG ⋯ ⋯ (g_do_md _) (k_do_md _) ?_; refine r_args ?_; walk_at "l"; refine r_args (r_bin ?_); walk_at "i"; walk_at "l"; refine n_sub ?_; walk_at "d"; refine r_args0 ?_; walk_at "k"
    have O7 := O.same g7
    refine md_ C ⋯ R7 hu (Rm.less hA1) O7.z0 O7.z1 g7.n hn hm ?_
    rintro x D8 s8 hx1 hx2 g8 ⟨G8, ad8, ob8, le8, K8, S8, R8⟩
    replace g8 := g7.trans g8
    rw [g7.q] at g8 hx1 hx2
    have O8 := O.same g8
    have hzi0 : D8.z0.toNat < 2 := by have := O8.z0; exact oq51 this
    have hzi1 : D8.z1.toNat < 2 := by have := O8.z1; exact oq51 this
    have hz40 : D8.z0.toNat + 2 < 4 := oq52 hzi0
    have hz41 : D8.z1.toNat + 2 < 4 := oq52 hzi1
    have h010 := O8.z0
    have h011 := O8.z1
    have hnq0 := nq_ge (D8.z0.toNat + 2)
    have hnq1 := nq_ge (D8.z1.toNat + 2)
    have hnq20 : 0 ≤ n ∧ n < nq (D8.z0.toNat + 2) := oq54 hn hnq0
    have hnq21 : 0 ≤ m ∧ m < nq (D8.z1.toNat + 2) := oq54 hm hnq1
    have Kall : Kp us ad ob ad8 ob8 := Kp.trans (Kp.trans (by refine Kp.up (oq58) ?_; refine Kp.up (oq58) ?_; refine Kp.up (oq58) ?_; refine Kp.up (oq58) ?_; exact Kp.refl _ _ _) K7) K8
    rcases (by exact oq331 hb : b = 0 ∨ b = 1) with rfl | rfl
    · walk_at "n"; refine r_ret (r_listE (r_args (r_bin (Mine.r_sub (Mine.r_sub (Mine.r_sub (Mine.r_sub ?_))))))); walk_at "l"; refine r_attrN ?_; walk_at "l"; refine x_z0 ⋯ ⋯ ⋯ ⋯ ?_; intro _ _ _; refine x_rs ⋯ ⋯ ⋯ ?_; walk_at "l"; refine x_r0 ⋯ ⋯ ⋯ ?_; walk_at "l"; refine X_o ⋯ ⋯ ⋯ ⋯ ⋯ ?_; intro _ _; walk_at "l"; refine x_pk ⋯ ⋯ ⋯ ?_; intro _; refine Mine.r_sub (Mine.r_sub (Mine.r_sub (Mine.r_sub ?_))); walk_at "l"; refine r_attrN ?_; walk_at "l"; refine x_z1 ⋯ ⋯ ⋯ ⋯ ?_; intro _ _ _; refine x_rs ⋯ ⋯ ⋯ ?_; walk_at "l"; refine x_r0 ⋯ ⋯ ⋯ ?_; walk_at "l"; refine X_o ⋯ ⋯ ⋯ ⋯ ⋯ ?_; intro _ _; walk_at "l"; refine x_pk ⋯ ⋯ ⋯ ?_; intro _; refine n_sub ?_; walk_at "d"; refine r_args0 ?_
      refine x_mklist ⋯ ?_
      intro b9 G9 s9 le9 gl9 S9
      refine nx_ret ⋯ ?_; clear Nc Qc; dsimp only
      refine k _ D8 _ g8.k O8 (Bd.gt g8 fun i hi n => (hB i hi n).mono (oq59 hM)) ?_
      refine ⟨G9, ad8, ob8, b9, _, fun b o g => le9 _ _ (le8 _ _ g), Kall, back _ _ _ _ _ S9.H S9.S, R8.mono le9, rfl, gl9, ?_⟩
      rw [g8.n, hx2 (by decide), g7.k, g7.z0, g7.z1, g8.q, g8.z0, g8.z1, O.qi (by have := O.z0; exact oq51 this), O.qi (by have := O.z1; exact oq51 this)]
      exact .cons ⟨_, rfl⟩ .nil
    · walk_at "n"; refine r_ret (r_listE (r_args (r_bin (Mine.r_sub (Mine.r_sub (Mine.r_sub (Mine.r_sub ?_))))))); walk_at "l"; refine r_attrN ?_; walk_at "l"; refine x_z0 ⋯ ⋯ ⋯ ⋯ ?_; intro _ _ _; refine x_rs ⋯ ⋯ ⋯ ?_; walk_at "l"; refine x_r1 ⋯ ⋯ ⋯ ?_; walk_at "l"; refine X_c ⋯ ⋯ ⋯ ⋯ ⋯ ?_; intro _ _; walk_at "l"; refine x_pk ⋯ ⋯ ⋯ ?_; intro _; refine Mine.r_sub (Mine.r_sub (Mine.r_sub (Mine.r_sub ?_))); walk_at "l"; refine r_attrN ?_; walk_at "l"; refine x_z1 ⋯ ⋯ ⋯ ⋯ ?_; intro _ _ _; refine x_rs ⋯ ⋯ ⋯ ?_; walk_at "l"; refine x_r1 ⋯ ⋯ ⋯ ?_; walk_at "l"; refine X_c ⋯ ⋯ ⋯ ⋯ ⋯ ?_; intro _ _; walk_at "l"; refine x_pk ⋯ ⋯ ⋯ ?_; intro _; refine n_sub ?_; walk_at "d"; refine r_args0 ?_
      refine x_mklist ⋯ ?_
      intro b9 G9 s9 le9 gl9 S9
      refine nx_ret ⋯ ?_; clear Nc Qc; dsimp only
      refine k _ D8 _ g8.k O8 (Bd.gt g8 fun i hi n => (hB i hi n).mono (oq59 hM)) ?_
      refine ⟨G9, ad8, ob8, b9, _, fun b o g => le9 _ _ (le8 _ _ g), Kall, back _ _ _ _ _ S9.H S9.S, R8.mono le9, rfl, gl9, ?_⟩
      rw [g8.n, hx1 (by decide), g7.k, g7.z0, g7.z1, g8.q, g8.z0, g8.z1, O.qi (by have := O.z0; exact oq51 this), O.qi (by have := O.z1; exact oq51 this)]
      exact .cons ⟨_, rfl⟩ .nil
theorem tw2 {q : Nat → ZD} (f g : ZD → ZD) {i j : Nat} (hi : i < 2) (hj : j < 2) (h0 : q 0 = q 2) (h1 : q 1 = q 3) :
    up (up (up (up q i (f (q i))) j (g (up q i (f (q i)) j))) (i + 2) (f (q i))) (j + 2) (g (up q i (f (q i)) j)) = tw (tw q i (f (q i))) j (g (up q i (f (q i)) j)) := by
  unfold tw
  funext x
  have : i = 0 ∨ i = 1 := oq49 hi
  have : j = 0 ∨ j = 1 := oq49 hj
  unfold up
  rcases ‹i = 0 ∨ i = 1› with rfl | rfl <;> rcases ‹j = 0 ∨ j = 1› with rfl | rfl <;> (repeat' split)
  all_goals first | rfl | omega
theorem sp_law_align {M : Int} {t : Tok} (C : Cx w B) (S : St B L loc Z G ad ob us s₀ s) (R : Rel D a G ad ob) (hu : ∀ k, US k → us k) (hA : Rm A 8) (O : Ok D) (hB : Bd M D) (hM : 512 ≤ M)
   (k : ∀ v D' s', D'.k = D.k → Ok D' → Bd (64 * M) D' → Due B L loc Z G ad ob us s₀ a D' v s' → Q v s') : WP pw w A (call (.ref 507) [.ref a.src, .ref a.w, .ref a.rs, .ref a.s, .int D.k t]) Q E s := by
  obtain ⟨Z', H', back⟩ := S.lend
  refine r_call [("source", .ref a.src), ("work", .ref a.w), ("rows", .ref a.rs), ("state", .ref a.s), ("axis", .int D.k t)] C H' hA rfl rfl (BindsTo.of_eq rfl) (locs rfl) ?_
  intro A1 L1 s1 hA1 S1
  have hk := O.k
  walk_at "c"; refine r_assign2 (r_tupleE (r_args ?_)); refine r_callG ⋯ ⋯ (g_law_take _) (k_law_take _) ?_; refine r_args ?_; walk_at "l"; refine r_args ?_; walk_at "i"; refine r_args0 ?_; walk_at "k"
  refine take_ C ⋯ R hu (Rm.less hA1) (by decide) ?_
  intro n t2 D1 o1 s2 hn g1 S2 R2
  refine r_args ?_; refine r_callG ⋯ ⋯ (g_law_take _) (k_law_take _) ?_; refine r_args ?_; walk_at "l"; refine r_args ?_; walk_at "i"; refine r_args0 ?_; walk_at "k"
  refine take_ C ⋯ R2 hu (Rm.less hA1) (by decide) ?_
  intro m t3 D2 o2 s3 hm g2 S3 R3
  replace g2 : Gt D D2 D.nums D.q := by
    have h2 := g1.trans g2; rwa [g1.q, g1.n] at h2
  clear g1 R2
  refine r_args0 ?_; refine r_tuple ⋯ ?_; intro _ _ _ _ _; refine r_unpackN ⋯ (Rm.h ⋯) ⋯ ?_; intro _ _; refine r_inOrder (r_bindName ?_); walk_at "t"; refine r_inOrder (r_bindName ?_); walk_at "t"; refine r_inOrder0 ?_; walk_at "n"; refine r_assignA (r_listE (r_args ?_)); walk_at "l"; refine r_args ?_; walk_at "l"; refine r_args0 ?_
  refine x_hold ⋯ ?_
  intro b6 G6 s6 le6 N6 S6
  have R6 := R3.mono le6
  refine r_attrN ?_; walk_at "l"; refine x_wsk ⋯ ⋯ ⋯ ⋯ ?_; intro _ _
  refine nums_ [n, m] C N6 ⋯ R3 hu (.cons ⟨_, rfl⟩ (.cons ⟨_, rfl⟩ .nil)) ?_
  intro D7 ad7 ob7 s7 g7 K7 S7 R7
  replace g7 := g2.trans g7
  rw [g2.q] at g7
  clear R6 S6
  walk_at "n"; refine r_expr ?_; refine r_callG ⋯ ⋯ (g_do_alignpts _) (k_do_alignpts _) ?_; refine r_args ?_; walk_at "l"; refine r_args ?_; walk_at "i"; refine r_args0 ?_; walk_at "k"
  have O7 := O.same g7
  refine align_ C ⋯ R7 hu (Rm.less hA1) O7.z0 O7.z1 O7.f g7.n hn hm ?_
  rintro x D8 s8 hx g8 ⟨G8, ad8, ob8, le8, K8, S8, R8⟩
  rw [g7.k, g7.z0, g7.z1, g7.q] at hx g8
  replace g8 := g7.trans g8
  have hi : D.z1.toNat < 2 := by have := O.z1; exact oq51 this
  have hj : D.z0.toNat < 2 := by have := O.z0; exact oq51 this
  have hz0 : D8.z0 = 0 ∨ D8.z0 = 1 := g8.z0 ▸ O.z0
  have hz1 : D8.z1 = 0 ∨ D8.z1 = 1 := g8.z1 ▸ O.z1
  have hi8 : D8.z1.toNat < 2 := oq51 hz1
  have hj8 : D8.z0.toNat < 2 := oq51 hz0
  have hi84 : D8.z1.toNat + 2 < 4 := oq52 hi8
  have hj84 : D8.z0.toNat + 2 < 4 := oq52 hj8
  have hnq0 := nq_ge (D8.z0.toNat + 2)
  have hnq1 := nq_ge (D8.z1.toNat + 2)
  have hnq20 : 0 ≤ m ∧ m < nq (D8.z0.toNat + 2) := oq54 hm hnq0
  have hnq21 : 0 ≤ n ∧ n < nq (D8.z1.toNat + 2) := oq54 hn hnq1
  have two : (2 : Int) ≠ 0 := by decide
  walk_at "n"; refine r_assign ?_; refine r_callG ⋯ ⋯ (g_law_cut _) (k_law_cut _) ?_; refine r_args (r_bin (Mine.r_sub (Mine.r_sub (Mine.r_sub (Mine.r_sub ?_))))); walk_at "l"; refine r_attrN ?_; walk_at "l"; refine x_z0 ⋯ ⋯ ⋯ ⋯ ?_; intro _ _ _; refine x_rs ⋯ ⋯ ⋯ ?_; walk_at "i"; refine x_r1 ⋯ ⋯ ⋯ ?_; walk_at "l"; refine X_c ⋯ ⋯ ⋯ ⋯ ⋯ ?_; intro _ _; walk_at "l"; refine x_pk ⋯ ⋯ ⋯ ?_; intro _; refine Mine.r_sub (Mine.r_sub (Mine.r_sub (Mine.r_sub ?_))); walk_at "l"; refine r_attrN ?_; walk_at "l"; refine x_z1 ⋯ ⋯ ⋯ ⋯ ?_; intro _ _ _; refine x_rs ⋯ ⋯ ⋯ ?_; walk_at "i"; refine x_r1 ⋯ ⋯ ⋯ ?_; walk_at "l"; refine X_c ⋯ ⋯ ⋯ ⋯ ⋯ ?_; intro _ _; walk_at "l"; refine x_pk ⋯ ⋯ ⋯ ?_; intro _; refine n_sub ?_; walk_at "d"; refine r_args ?_; walk_at "i"; refine r_args0 ?_; walk_at "k"; refine sp_cut ⋯ ⋯ (Rm.less ⋯) ⋯ (oq157) (oq158) ?_; intro _ _ _; walk_at "t"; walk_at "n"; refine r_expr ?_; refine r_callG ⋯ ⋯ (g_law_moved _) (k_law_moved _) ?_; refine r_args ?_; walk_at "l"; refine r_args (r_attrN ?_); walk_at "l"; refine x_z1 ⋯ ⋯ ⋯ ⋯ ?_; intro _ _ _; refine r_args ?_; walk_at "l"; refine r_args ?_; walk_at "l"; refine r_args ?_; walk_at "l"; refine r_args0 ?_; walk_at "k"
  have q0 : D8.q (D8.z0.toNat + 2) = D.q D.z0.toNat := by rw [g8.q, g8.z0, up_other _ _ (oq53), up_other _ _ (oq442 hi), O.qi hj]
  have q1 : D8.q (D8.z1.toNat + 2) = D.q D.z1.toNat := by rw [g8.q, g8.z1, up_other _ _ (oq442 hj), up_other _ _ (oq53), O.qi hi]
  refine moved_ (num := D8.z1) (n := n) (x := D.k) C ⋯ R8 hu (Rm.less hA1) hz1 hn hk ?_
  rw [q0, q1, cut_two, ← hx]
  rintro D9 s9 g9 ⟨G9, ad9, ob9, le9, K9, S9, R9⟩
  replace g9 := g8.trans g9
  rw [g8.n, g8.q, g8.z1] at g9
  have hz09 : D9.z0 = 0 ∨ D9.z0 = 1 := g9.z0 ▸ O.z0
  walk_at "n"; refine r_expr ?_; refine r_callG ⋯ ⋯ (g_law_moved _) (k_law_moved _) ?_; refine r_args ?_; walk_at "l"; refine r_args (r_attrN ?_); walk_at "l"; refine x_z0 ⋯ ⋯ ⋯ ⋯ ?_; intro _ _ _; refine r_args ?_; walk_at "l"; refine r_args ?_; walk_at "l"; refine r_args (r_bin ?_); walk_at "i"; walk_at "l"; refine n_sub ?_; walk_at "d"; refine r_args0 ?_; walk_at "k"
  have q9 : D9.q (D9.z0.toNat + 2) = up D.q D.z1.toNat ((D.q D.z1.toNat).mv D.k n x) D.z0.toNat := by
    rw [g9.q, g9.z0]
    by_cases e : D.z0.toNat = D.z1.toNat
    · rw [e, up_same, up_same]
    · rw [up_other _ _ (oq443 e), up_other _ _ (oq53), up_other _ _ (oq442 hi), O.qi hj, up_other _ _ e]
  refine moved_ (num := D9.z0) (n := m) (x := D.k) C ⋯ R9 hu (Rm.less hA1) hz09 hm hk ?_
  rw [q9]
  rintro D10 s10 g10 ⟨G10, ad10, ob10, le10, K10, S10, R10⟩
  rw [q0, q1, cut_two, ← hx] at g10
  replace g10 := g9.trans g10
  have e := tw2 (q := D.q) (fun z => z.mv D.k n x) (fun z => z.mv D.k m (0 - x)) hi hj O.e0 O.e1
  rw [g9.n, g9.q, g9.z0, e] at g10
  have bx := cdv_two_bd (M := M) (y := ax D.k ((D.q D.z0.toNat).c m) - ax D.k ((D.q D.z1.toNat).c n)) (by
    have h1 := (hB _ hj m).ax D.k
    have h2 := (hB _ hi n).ax D.k
    exact oq444 h1 h2)
  rw [← hx] at bx
  have b1 : ∀ n', In (M + M) (((D.q D.z1.toNat).mv D.k n x).c n') := In.mv (fun n' => (hB _ hi n').mono (oq445 hM)) ((hB _ hi n).mvp bx _)
  have b2 : ∀ n', In (M + M) ((up D.q D.z1.toNat ((D.q D.z1.toNat).mv D.k n x) D.z0.toNat).c n') := by
    intro n'
    unfold up; split
    · exact b1 n'
    · exact (hB _ hj n').mono (oq445 hM)
  have b3 : ∀ n', In (M + M + M) (((up D.q D.z1.toNat ((D.q D.z1.toNat).mv D.k n x) D.z0.toNat).mv D.k m (0 - x)).c n') := In.mv (fun n' => (b2 n').mono (oq446 hM)) ((b2 m).mvp (oq447 bx) _)
  walk_at "n"; refine r_ret (r_listE (r_args0 ?_))
  refine x_mklist ⋯ ?_
  intro b11 G11 s11 le11 gl11 S11
  refine nx_ret ⋯ ?_; clear Nc Qc; dsimp only
  have t1 := tw_ok (q := D.q) (z := (D.q D.z1.toNat).mv D.k n x) hi O.e0 O.e1
  have t2 := tw_ok (q := tw D.q D.z1.toNat ((D.q D.z1.toNat).mv D.k n x)) (z := (up D.q D.z1.toNat ((D.q D.z1.toNat).mv D.k n x) D.z0.toNat).mv D.k m (0 - x)) hj t1.1 t1.2
  try refine nx_ret ⋯ ?_
  refine k _ D10 _ g10.k (O.gt g10 t2.1 t2.2) (Bd.gt g10 (tw_bd hj (tw_bd hi hB (M' := M + M) (oq445 hM) b1) (oq448 hM) fun n' => (b3 n').mono (oq449 hM))) ?_
  exact ⟨G11, ad10, ob10, b11, [], fun b o g => le11 _ _ (le10 _ _ (le9 _ _ (le8 _ _ g))), Kp.trans (Kp.trans (Kp.trans (Kp.trans (by refine Kp.up (oq58) ?_; refine Kp.up (oq58) ?_; exact Kp.refl _ _ _) K7) K8) K9) K10, back _ _ _ _ _ S11.H S11.S, R10.mono le11, rfl, gl11, by rw [g10.n]; exact .nil⟩
end
section
variable {ad : Nat → Addr} {ob : Nat → Obj} {Q : Unit → Shared → Prop} {a : Adr} {i : Nat} {n : Int} {u : Tok} {v : Value}
theorem r_asAttr {o : Expr} {x : Str} (h : WP pw w A (eval o env) (fun ov s₁ => WP pw w A (setAttr ov x v) Q E s₁) E s) : WP pw w A (assign (.Attribute o x pos) env v) Q E s := by
  delta WP at *
  show wpAny _ _ (do
    let ov ← holding [v] (eval o env)
    standAt pos.atName
    holding [v, ov] (setAttr ov x v)
    release [v, ov] []) _ _ _
  exact wpAny_bind (wpAny_holding (wpAny_mono h (fun ov s₁ h₁ => wpAny_bind (wpAny_standAt (wpAny_bind (wpAny_holding (wpAny_mono h₁ (fun _ s₂ h₂ => wpAny_release' h₂) fun _ _ x => x))))) fun _ _ x => x))
theorem r_asSub {o i : Expr} (h : WP pw w A (eval o env) (fun ov s₁ => WP pw w A (eval i env) (fun iv s₂ => WP pw w A (setItem ov iv v) Q E s₂) E s₁) E s) : WP pw w A (assign (.Subscript o i pos) env v) Q E s := by
  delta WP at *
  show wpAny _ _ (do
    let ov ← holding [v] (eval o env)
    let iv ← holding [v, ov] (eval i env)
    standAt pos
    holding [v, ov, iv] (setItem ov iv v)
    release (match (generalizing := false) i with | .Slice _ _ none _ => [iv, v, ov] | _ => [v, ov, iv]) []) _ _ _
  exact wpAny_bind (wpAny_holding (wpAny_mono h (fun ov s₁ h₁ => wpAny_bind (wpAny_holding (wpAny_mono h₁ (fun iv s₂ h₂ => wpAny_bind (wpAny_standAt (wpAny_bind (wpAny_holding (wpAny_mono h₂ (fun _ s₃ h₃ => wpAny_release' h₃) fun _ _ x => x))))) fun _ _ x => x))) fun _ _ x => x))
theorem y_fr2 {p : Int × Int} (hp : IsPt G v p) (C : Cx w B) (S : St B L loc Z G2 ad ob us s₀ s) (le : ∀ b o, G b o → G2 b o) (R : Rel D a G ad ob) (hu : ∀ k, US k → us k) (h : ∀ o s', St B L loc Z G2 ad (up ob 0 o) us s₀ s' → Rel (D.sf p) a G ad (up ob 0 o) → Q () s') : WP pw w A (setAttr (.ref a.s) "freedom" v) Q E s := by
  obtain ⟨mf, hd, m1, m2, m3, m4, m5, m6, m7, m8, m9, m10⟩ := R.sd
  have e : (mf "freedom").isSome = true := by
    obtain ⟨_, e⟩ := m1
    rw [e.1]; rfl
  refine r_set C S (le _ _ R.gs) (hu 0 us_l) hd (a_S_freedom w) (by decide) fun o s' hd' S' => ?_
  rw [e] at hd'
  refine h o s' S' (R.uSt (D' := D.sf p) hd' ?_ rfl rfl rfl rfl)
  exact ⟨⟨v, by simp, hp⟩, (by simp only [show ¬ (("projection" : Str) = ("freedom" : Str)) from by decide, if_false]; exact m2), (by simp only [show ¬ (("dual" : Str) = ("freedom" : Str)) from by decide, if_false]; exact m3), (by simp only [show ¬ (("zp0" : Str) = ("freedom" : Str)) from by decide, if_false]; exact m4), (by simp only [show ¬ (("zp1" : Str) = ("freedom" : Str)) from by decide, if_false]; exact m5), (by simp only [show ¬ (("zp2" : Str) = ("freedom" : Str)) from by decide, if_false]; exact m6), (by simp only [show ¬ (("loop" : Str) = ("freedom" : Str)) from by decide, if_false]; exact m7), (by simp only [show ¬ (("free_dot" : Str) = ("freedom" : Str)) from by decide, if_false]; exact m8), (by simp only [show ¬ (("projected" : Str) = ("freedom" : Str)) from by decide, if_false]; exact m9), (by simp only [show ¬ (("dual_projected" : Str) = ("freedom" : Str)) from by decide, if_false]; exact m10)⟩
theorem y_loop2 (C : Cx w B) (S : St B L loc Z G2 ad ob us s₀ s) (le : ∀ b o, G b o → G2 b o) (R : Rel D a G ad ob) (hu : ∀ k, US k → us k) (h : ∀ o s', St B L loc Z G2 ad (up ob 0 o) us s₀ s' → Rel (D.sl n) a G ad (up ob 0 o) → Q () s') : WP pw w A (setAttr (.ref a.s) "loop" (.int n u)) Q E s := by
  obtain ⟨mf, hd, m1, m2, m3, m4, m5, m6, m7, m8, m9, m10⟩ := R.sd
  have e : (mf "loop").isSome = true := by
    obtain ⟨_, e⟩ := m7
    rw [e]; rfl
  refine r_set C S (le _ _ R.gs) (hu 0 us_l) hd (a_S_loop w) (by decide) fun o s' hd' S' => ?_
  rw [e] at hd'
  refine h o s' S' (R.uSt (D' := D.sl n) hd' ?_ rfl rfl rfl rfl)
  exact ⟨(by simp only [show ¬ (("freedom" : Str) = ("loop" : Str)) from by decide, if_false]; exact m1), (by simp only [show ¬ (("projection" : Str) = ("loop" : Str)) from by decide, if_false]; exact m2), (by simp only [show ¬ (("dual" : Str) = ("loop" : Str)) from by decide, if_false]; exact m3), (by simp only [show ¬ (("zp0" : Str) = ("loop" : Str)) from by decide, if_false]; exact m4), (by simp only [show ¬ (("zp1" : Str) = ("loop" : Str)) from by decide, if_false]; exact m5), (by simp only [show ¬ (("zp2" : Str) = ("loop" : Str)) from by decide, if_false]; exact m6), ⟨u, by simp; rfl⟩, (by simp only [show ¬ (("free_dot" : Str) = ("loop" : Str)) from by decide, if_false]; exact m8), (by simp only [show ¬ (("projected" : Str) = ("loop" : Str)) from by decide, if_false]; exact m9), (by simp only [show ¬ (("dual_projected" : Str) = ("loop" : Str)) from by decide, if_false]; exact m10)⟩
end
section
variable {ad : Nat → Addr} {ob : Nat → Obj} {a : Adr} {i : Nat} {n : Int} {u : Tok} {v : Value}
theorem axv_swap {k : Int} (h : k = 0 ∨ k = 1) : axv (1 - k) = ((axv k).2, (axv k).1) := by rcases h with rfl | rfl <;> rfl
theorem sp_law_utp {M : Int} {t : Tok} (C : Cx w B) (S : St B L loc Z G ad ob us s₀ s) (R : Rel D a G ad ob) (hu : ∀ k, US k → us k) (hA : Rm A 8) (O : Ok D) (hB : Bd M D) (hM : 512 ≤ M)
   (k : ∀ v D' s', D'.k = D.k → Ok D' → Bd (64 * M) D' → Due B L loc Z G ad ob us s₀ a D' v s' → Q v s') : WP pw w A (call (.ref 514) [.ref a.src, .ref a.w, .ref a.rs, .ref a.s, .int D.k t]) Q E s := by
  obtain ⟨Z', H', back⟩ := S.lend
  refine r_call [("source", .ref a.src), ("work", .ref a.w), ("rows", .ref a.rs), ("state", .ref a.s), ("axis", .int D.k t)] C H' hA rfl rfl (BindsTo.of_eq rfl) (locs rfl) ?_
  intro A1 L1 s1 hA1 S1
  have hk := O.k
  walk_at "c"; refine r_assign2 (r_tupleE (r_args ?_)); refine r_callG ⋯ ⋯ (g_law_take _) (k_law_take _) ?_; refine r_args ?_; walk_at "l"; refine r_args ?_; walk_at "i"; refine r_args0 ?_; walk_at "k"
  refine take_ C ⋯ R hu (Rm.less hA1) (by decide) ?_
  intro n t2 D1 o1 s2 hn g1 S2 R2
  refine r_args (r_attrN ?_); walk_at "l"; refine x_fr ⋯ ⋯ ⋯ ⋯ ?_; intro _ _ _ _; refine r_args0 ?_
  rename_i held s2' hheld S2'
  refine r_tuple ⋯ ?_
  intro b3 s3 S3 hb3 f3
  refine r_unpackN ⋯ (Rm.h ⋯) ⋯ ?_; intro _ _; refine r_inOrder (r_bindName ?_); walk_at "t"; refine r_inOrder (r_bindName ?_); walk_at "t"; refine r_inOrder0 ?_; walk_at "n"; refine r_assignT (r_tupleE (r_args (r_tupleE (r_args (Mine.r_sub ?_))))); walk_at "l"; walk_at "i"; refine x_p1 ⋯ ⋯ ?_; intro _; refine r_args (Mine.r_sub ?_); walk_at "l"; walk_at "i"; refine x_p0 ⋯ ⋯ ?_; intro _; refine r_args0 ?_
  refine x_mkpt ⋯ ?_
  intro b4 G4 s4 le4 hp4 S4
  have R4 := R2.mono le4
  have hheld4 := hheld.mono le4
  refine r_args (r_listE (r_args ?_)); walk_at "l"; refine r_args0 ?_
  refine x_hold ⋯ ?_
  intro b6 G6 s6 le6 N6 S6
  have R6 := R4.mono le6
  refine r_args0 ?_; refine r_tuple ⋯ ?_; intro _ _ _ _ _; refine r_unpack ⋯ (Rm.h ⋯) ⋯ ?_; intro _ _; refine r_inOrder ?_; refine r_asAttr ?_; walk_at "l"
  refine y_fr2 hp4 C ⋯ le6 R4 hu ?_
  intro o7 s7 S7 R7
  have R7' := R7.mono le6
  clear R6
  refine r_inOrder ?_; refine r_asAttr ?_; refine r_attrN ?_; walk_at "l"; refine x_wsk ⋯ ⋯ ⋯ ⋯ ?_; intro _ _
  refine nums_ [n] C N6 ⋯ R7 hu (.cons ⟨_, rfl⟩ .nil) ?_
  intro D8 ad8 ob8 s8 g8 K8 S8 R8
  clear R7'
  refine r_inOrder0 ?_; walk_at "n"; refine r_expr ?_; refine r_callG ⋯ ⋯ (g_do_utp _) (k_do_utp _) ?_; refine r_args ?_; walk_at "l"; refine r_args ?_; walk_at "i"; refine r_args0 ?_; walk_at "k"
  have f8 : D8.fr = axv (1 - D.k) := by rw [axv_swap hk, ← O.f, ← g1.f]; exact g8.f
  have z8 : D8.z0 = D.z0 := g8.z0.trans g1.z0
  have q8 : D8.q = D.q := g8.q.trans g1.q
  refine sp_utp C ⋯ R8 hu (Rm.less hA1) (by rw [z8]; exact O.z0) (1 - D.k) f8 g8.n hn ?_
  rw [z8, q8]
  rintro s9 ⟨G9, ad9, ob9, le9, K9, S9, R9⟩
  have hheld9 := hheld4.mono le9
  have hi : D.z0.toNat < 2 := by have := O.z0; exact oq51 this
  have hi4 : D.z0.toNat + 2 < 4 := oq52 hi
  have hnq := nq_ge (D.z0.toNat + 2)
  have hnq2 : 0 ≤ n ∧ n < nq (D.z0.toNat + 2) := oq54 hn hnq
  have h01 := O.z0
  have hk1 : 1 - D.k = 0 ∨ 1 - D.k = 1 := oq160 hk
  obtain ⟨D9, g9, e9⟩ : ∃ D9, Gt D8 D9 [] (up D.q D.z0.toNat ((D.q D.z0.toNat).st n (tch (1 - D.k) false ((D.q D.z0.toNat).t n)))) ∧ (D8.sn []).sq D.z0.toNat ((D.q D.z0.toNat).st n (tch (1 - D.k) false ((D.q D.z0.toNat).t n))) = D9 :=
    ⟨(D8.sn []).sq D.z0.toNat ((D.q D.z0.toNat).st n (tch (1 - D.k) false ((D.q D.z0.toNat).t n))), ⟨rfl, rfl, rfl, rfl, rfl, rfl, by rw [← q8]; rfl, rfl⟩, rfl⟩
  rw [e9] at R9
  walk_at "n"; refine r_assignA ?_; walk_at "l"; walk_at "l"
  refine y_fr hheld9 C ⋯ R9 hu ?_
  intro o10 s10 S10 R10
  obtain ⟨D10, g10, e10⟩ : ∃ D10, Gt D D10 [] (up D.q D.z0.toNat ((D.q D.z0.toNat).st n (tch (1 - D.k) false ((D.q D.z0.toNat).t n)))) ∧ ({ D9 with fr := D1.fr } : Dt) = D10 :=
    ⟨{ D9 with fr := D1.fr }, ⟨g9.k.trans (g8.k.trans g1.k), g1.f, g9.z0.trans z8, g9.z1.trans (g8.z1.trans g1.z1), g9.z2.trans (g8.z2.trans g1.z2), g9.l.trans (g8.l.trans g1.l), g9.q, g9.n⟩, rfl⟩
  rw [e10] at R10
  have z10 := g10.z0
  have hz10 : D10.z0 = 0 ∨ D10.z0 = 1 := z10 ▸ h01
  have hi10 : D10.z0.toNat < 2 := oq51 hz10
  have hi104 : D10.z0.toNat + 2 < 4 := oq52 hi10
  have hnq10 : 0 ≤ n ∧ n < nq (D10.z0.toNat + 2) := by rw [z10]; exact hnq2
  walk_at "n"; refine r_assignS ?_; refine r_bool ?_; refine Mine.r_sub (Mine.r_sub (Mine.r_sub ?_)); walk_at "l"; refine r_attrN ?_; walk_at "l"; refine x_z0 ⋯ ⋯ ⋯ ⋯ ?_; intro _ _ _; refine x_rs ⋯ ⋯ ⋯ ?_; walk_at "i"; refine x_r2 ⋯ ⋯ ⋯ ?_; walk_at "l"; refine X_t ⋯ ⋯ ⋯ ⋯ ⋯ ?_; refine r_bin ?_; walk_at "i"; walk_at "l"; refine n_sub ?_; walk_at "d"; refine Y_m ⋯ ⋯ ⋯ ⋯ ⋯ ⋯ ?_; intro _ _ _ _; walk_at "n"; refine r_ret (r_listE (r_args0 ?_))
  rename_i o11 s11 S11 R11
  have g11 : Gt D (D10.sq (D10.z0.toNat + 2) ((D10.q (D10.z0.toNat + 2)).st n (tch (1 - D.k) false ((D10.q (D10.z0.toNat + 2)).t n)))) [] (tw D.q D.z0.toNat ((D.q D.z0.toNat).st n (tch (1 - D.k) false ((D.q D.z0.toNat).t n)))) := by
    refine ⟨g10.k, g10.f, g10.z0, g10.z1, g10.z2, g10.l, ?_, g10.n⟩
    show up D10.q (D10.z0.toNat + 2) _ = _
    rw [g10.z0, g10.q, up_other _ _ (show D.z0.toNat + 2 ≠ D.z0.toNat by exact oq53), O.qi hi]
    rfl
  refine x_mklist ⋯ ?_
  intro b12 G12 s12 le12 gl12 S12
  refine nx_ret ⋯ ?_; clear Nc Qc; dsimp only
  refine k _ _ _ g11.k (O.gt g11 (tw_ok hi O.e0 O.e1).1 (tw_ok hi O.e0 O.e1).2) (Bd.gt g11 (tw_bd hi hB (oq59 hM) fun n' => (hB _ hi n').mono (oq59 hM))) ?_
  exact ⟨G12, ad9, _, b12, [], fun b o g => le12 _ _ (le9 _ _ (le4 _ _ g)), Kp.up (oq161 hn hi10) (Kp.up (oq162) (Kp.trans (Kp.trans (by refine Kp.up (oq162) ?_; refine Kp.up (oq58) ?_; exact Kp.refl _ _ _) K8) K9)), back _ _ _ _ _ S12.H S12.S, R11.mono le12, rfl, gl12, by rw [g11.n]; exact .nil⟩
end
section
variable {ad : Nat → Addr} {ob : Nat → Obj}
theorem r_callC {name qual : Str} {params : Arguments} {body : List Stmt} {scope : Scope} {dV kV doc pm cdv ct oc : Value} {an od : Option Addr} {osl : Array (Option Value)} {f : Addr} {args : List Value} {n : Nat} (binds locb : List (Str × Value)) (x : Str) (cv : Value)
    (C : Cx w B) (H : Hp B Z G ad ob us s.heap) (hA : Rm A (n + 1))
    (ho : (KK w).lookup f = some ⟨oc, od, .func (fnOf name qual params body scope dV kV doc pm an cdv ct), osl⟩) (hcd : codeIn (KK w) cdv qual = true)
    (hbind : BindsTo s (fnOf name qual params body scope dV kV doc pm an cdv ct) ⟨args, []⟩ binds)
    (hkind : ∀ n, ∀ y ∈ binds, scope.names.lookup y.1 = some .local ∨ (scope.names.lookup y.1 = some .cell ∧ ((cellsFrom n scope.names []).lookup y.1).isSome = true))
    (hcs : ∀ n, cellsFrom n scope.names [] = [(x, n)]) (hc : ∀ L, bindC (envX qual scope L f cdv [(x, L + 1)]).kindOf binds (fun _ => none) x = some cv)
    (hl : ∀ L y u, locb.lookup y = some u → bindL (envX qual scope L f cdv [(x, L + 1)]).kindOf binds (fun _ => none) y = some u)
    (h : ∀ A' L G2 o s', Rm A' n → (∀ a o, G a o → G2 a o) → G2 (L + 1) o → o.data = .cell (some cv) → St B L locb Z G2 ad ob us s s' →
      WP pw w A' (execs body (envX qual scope L f cdv [(x, L + 1)])) (fun fl s' => Q (match fl with | .ret v => v | _ => .none) s') (fun _ _ => False) s')
    (hco : scope.isCoroutine = false := by rfl) (hgen : scope.isGenerator = false := by rfl) (hk : scope.kind = .function := by rfl) : WP pw w A (call (.ref f) args) Q E s := by
  obtain ⟨X, mean, mg, mb, T⟩ := id C
  refine .of (wpAny_call ?_)
  refine codeAny_call_function (fd := fnOf name qual params body scope dV kV doc pm an cdv ct) hA.d ((X.keeps H.base) _ _ ho) rfl hco hgen rfl (codeRec_of (X.keeps H.base) hcd) (hbind _ _ _ _ ?_)
  refine wpAny_newFunctionEnv_cells hk (hkind _) fun env' he s' x' => ?_
  subst he
  refine ⟨(T.nolimit.keeps H.base).keeps x'.toInCall.keep, codeAny_func ?_⟩
  obtain ⟨h₁, tk, rfl, hk₁⟩ := x'.done
  have hcell := x'.cell x (s.heap.objs.size + 1) (by show (cellsFrom (s.heap.objs.size + 1) scope.names []).lookup x = _; rw [hcs]; exact List.lookup_cons_self)
  obtain ⟨oc', hoc, hdc⟩ := hcell
  obtain ⟨oL, es, ep, hL, hr⟩ := id x'.toInCall.ns
  have e1 : (newEnv scope s.heap.objs.size mainGlobals (cellsFrom (s.heap.objs.size + 1) scope.names []) (qual ++ ".<locals>.") (some f) cdv none builtinsNs) = envX qual scope s.heap.objs.size f cdv [(x, s.heap.objs.size + 1)] := by rw [hcs]; rfl
  have S1 : St B s.heap.objs.size locb Z G ad ob us s { s with heap := h₁, toks := tk } :=
    ⟨⟨_, ⟨x'.toInCall.ns, fun b o e => hk₁ b o (H.base b o e), H.bs⟩, fun y u e => by
      have := hl s.heap.objs.size y u e
      rw [← e1] at this
      exact this⟩, H.ext hk₁ (Nat.le_of_lt (Heap.lt_size hL)), fun o z => Nat.lt_irrefl _ (Heap.lt_size (H.sil _ o z)), fun k u q => Nat.lt_irrefl _ (q ▸ H.ltOwn u), ⟨rfl, rfl, rfl⟩⟩
  have hdc' : oc'.data = .cell (some cv) := by
    rw [hdc]
    have := hc s.heap.objs.size
    rw [← e1] at this
    exact congrArg _ this
  obtain ⟨G2, le, g, S2⟩ := S1.addG' hoc (fun _ _ e => by rw [hdc'] at e; cases e) fun k u q => Nat.lt_irrefl _ (Nat.lt_trans (Nat.lt_succ_self _) (q ▸ H.ltOwn u))
  have := (h (A.deeper (envX qual scope s.heap.objs.size f cdv [(x, s.heap.objs.size + 1)])) _ G2 oc' _ hA.deeper le g hdc' S2).out
  show wpAny (model pw w) (A.deeper (newEnv scope s.heap.objs.size mainGlobals (cellsFrom (s.heap.objs.size + 1) scope.names []) (qual ++ ".<locals>.") (some f) cdv none builtinsNs)) (execs body (newEnv scope s.heap.objs.size mainGlobals (cellsFrom (s.heap.objs.size + 1) scope.names []) (qual ++ ".<locals>.") (some f) cdv none builtinsNs)) _ _ _
  rw [e1]
  exact wpAny_mono this (fun _ _ y => y) fun _ _ y => y.elim
end
section
variable {ad : Nat → Addr} {ob : Nat → Obj} {a : Adr} {i : Nat} {n : Int} {u : Tok} {v : Value}
theorem isect_ {x1 x2 x3 x4 c : Int} {t : Tok} (C : Cx w B) (S : St B L loc Z G ad ob us s₀ s) (R : Rel D a G ad ob) (hu : ∀ k, US k → us k) (hA : Rm A 6) (hz0 : D.z0 = 0 ∨ D.z0 = 1) (hz1 : D.z1 = 0 ∨ D.z1 = 1) (hz2 : D.z2 = 0 ∨ D.z2 = 1)
   (hN : D.nums = [n, x1, x2, x3, x4]) (hn : 0 ≤ n ∧ n < 3) (h1 : 0 ≤ x1 ∧ x1 < 3) (h2 : 0 ≤ x2 ∧ x2 < 3) (h3 : 0 ≤ x3 ∧ x3 < 3) (h4 : 0 ≤ x4 ∧ x4 < 3) (hb : ∀ i, i < 2 → ∀ n, 0 ≤ n ∧ n < 3 → Bp ((D.q i).c n))
   (k : ∀ D' s', Gt D D' [] (up D.q D.z2.toNat (((D.q D.z2.toNat).sc n (crossP ((D.q D.z1.toNat).c x1) ((D.q D.z1.toNat).c x2) ((D.q D.z0.toNat).c x3) ((D.q D.z0.toNat).c x4))).st n (true, true))) → Dn B L loc Z G ad ob us s₀ a D' s' → Q .none s') : WP pw w A (call (.ref 134) [.ref a.w, .int c t]) Q E s :=
  sp_isect C S R hu hA hz0 hz1 hz2 hN hn h1 h2 h3 h4 hb fun s' d => k _ s' (by exact ⟨rfl, rfl, rfl, rfl, rfl, rfl, rfl, rfl⟩) d
noncomputable abbrev dScope : Scope := { kind := .function, names := [(".0", .local), ("turn", .local), ("_law_take", .globalImplicit), ("source", .free)], isGenerator := false, isCoroutine := false }
noncomputable def Drawn (B : Heap) (L : Addr) (loc : List (Str × Value)) (Z : Addr → Obj → Prop) (us : Nat → Prop) (s₀ : Shared) (a : Adr) (top : Int) (ok : Nat → Prop) (Q : Value → Shared → Prop) (G : Addr → Obj → Prop) (ad : Nat → Addr) (ob : Nat → Obj) (D : Dt) : Prop :=
  ∀ vs ns b D' ad' ob' s₂, All2 IsI vs ns → ok ns.length → (∀ n ∈ ns, 0 ≤ n ∧ n < top) → Gt D D' D.nums D.q → Kp us ad ob ad' ob' → St B L loc Z G ad' ob' us s₀ s₂ → Rel D' a G ad' ob' → (∃ d, s₂.heap.get? b = some (listOf vs.toArray d)) → New Z G ad' us L b → Q (.ref b) s₂
theorem draws {ok : Nat → Prop} {iter : Expr} {c : Addr} {oc : Obj} {top : Int} {P1 P2 P3 P4 P5 P6 : Pos} {k1 : Nat} (C : Cx w B) (hκ : ¬ us 84) (hκ' : ¬ us 85) (hu : ∀ k, US k → us k) (hA : Rm A 2) (ht : 0 < top ∧ top < 100)
   (hs : ∀ x, foldedSetIterable iter env x = pure x) (hclos : closureFor dScope env = pure [(("source" : Str), c)]) (hE : EnvOk env L) (hsc : ∀ C', (cEnv dScope [(("source" : Str), c)] C' env).kindOf "source" = some .cell) (hst : ∀ C', (cEnv dScope [(("source" : Str), c)] C' env).kindOf "_law_take" = some .globalImplicit)
   (h : WP pw w A (eval iter env) (fun xv s₁ => ∃ r N t u v ad ob D, xv = .ref r ∧ IsRange s₁.heap r 0 N 1 t u v ∧ (0 ≤ N ∧ N < 100) ∧ ok N.toNat ∧ St B L loc Z G ad ob us s₀ s₁ ∧ Rel D a G ad ob ∧ (G c oc ∧ oc.data = .cell (some (.ref a.src))) ∧
     Drawn B L loc Z us s₀ a top ok Q G ad ob D) E s) :
   WP pw w A (eval (.ListComp (.Call (.Name "_law_take" P1) [.Name "source" P2, .Constant (.int top) k1 P3] [] P4) [⟨.Name "turn" P5, iter, [], 0⟩] dScope P6) env) Q E s := by
  let J : InvC := fun i ys G' ad' ob' => ∃ D0 ad0 ob0 ns D', Drawn B L loc Z us s₀ a top ok Q G ad0 ob0 D0 ∧ G' = G ∧ All2 IsI ys ns ∧ ns.length = i ∧ (∀ n ∈ ns, 0 ≤ n ∧ n < top) ∧ Gt D0 D' D0.nums D0.q ∧ Kp us ad0 ob0 ad' ob' ∧ Rel D' a G ad' ob'
  refine r_compRange (B := B) (Z := Z) (s₀ := s₀) 84 J hκ hκ' ?_ hA.h (h.mono ?_ fun _ _ e => e) hE (by decide) rfl rfl hs hclos (by decide)
  · rintro i ys G' ad' ob' b o k hk ⟨D0, ad0, ob0, ns, D', h1, h2, h3, h4, h5, h6, h7, h8⟩
    refine ⟨D0, ad0, ob0, ns, D', h1, h2, h3, h4, h5, h6, fun j u l => ?_, h8.upX (oq107 hk)⟩
    have : j ≠ k := fun e => by subst e; rcases hk with rfl | rfl <;> contradiction
    rw [up_other _ _ this, up_other _ _ this]
    exact h7 j u l
  · rintro xv s₁ ⟨r, N, t, u, v, ad, ob, D, rfl, hr, hN, hok, S, R, hc, hfin⟩
    refine ⟨r, N, t, u, v, loc, G, ad, ob, rfl, hr, ⟨hN.1, by exact oq108 hN⟩, S, ⟨D, ad, ob, [], D, hfin, rfl, .nil, rfl, (fun _ h => by cases h), ⟨rfl, rfl, rfl, rfl, rfl, rfl, rfl, rfl⟩, Kp.refl _ _ _, R⟩, ?_, ?_⟩
    · rintro i ys G' ad' ob' C' Z' loc' s₂ s₃ t' hi ⟨D0, ad0, ob0, ns, D', h1, rfl, h3, h4, h5, h6, h7, h8⟩ S'
      have hu' : ∀ k, US k → us2 us 84 k := fun k u => .inl (.inl (hu k u))
      have hE' : EnvOk (cEnv dScope [(("source" : Str), c)] C' env) C' := ⟨rfl, rfl, hE.g, hE.b⟩
      refine r_callG C S' (g_law_take _) (k_law_take _) (r_args (r_cell S' rfl hc.1 hc.2 (r_args (r_int S' fun t1 s4 S4 => r_args0 ⟨S4.K C, ?_⟩)) hE' (hsc C'))) hE' (hst C')
      refine take_ C S4 h8 hu' (Rm.less hA) ht ?_
      intro n t2 D2 o2 s5 hn g2 S5 R5
      refine ⟨_, ad', _, _, S5, ⟨D0, ad0, ob0, ns ++ [n], D2, h1, rfl, h3.append (.cons ⟨_, rfl⟩ .nil), by rw [List.length_append, h4]; rfl, ?_, ?_, Kp.up (by decide) h7, R5⟩, ⟨rfl, up_other _ _ (by decide)⟩, rfl, up_other _ _ (by decide)⟩
      · intro m hm
        rcases List.mem_append.mp hm with hm | hm
        · exact h5 m hm
        · rw [List.mem_singleton.mp hm]; exact hn
      · have := h6.trans g2; rwa [h6.q, h6.n] at this
    · rintro ys n G' ad' ob' b s₂ ⟨D0, ad0, ob0, ns, D', h1, rfl, h3, h4, h5, h6, h7, h8⟩ S' hb hnew
      exact h1 _ _ _ _ _ _ _ h3 (h4 ▸ hok) h5 h6 h7 S' h8 ⟨_, hb⟩ hnew
end
noncomputable def md2 (z c : Int) : Int :=
  if c < 0 then (if 0 - z < 0 then 0 - Int.fdiv (0 - 2 * (0 - z) + (0 - c)) (2 * (0 - c)) else Int.fdiv (2 * (0 - z) + (0 - c)) (2 * (0 - c)))
  else (if z < 0 then 0 - Int.fdiv (0 - 2 * z + c) (2 * c) else Int.fdiv (2 * z + c) (2 * c))
theorem mdv_md2 (a b c : Int) : mdv a b c = md2 (a * b) c := rfl
theorem hlf_md2 (z c : Int) (h : c ≠ 0) : hlf (-z) (-c) = md2 z c := by
  unfold hlf md2 abz
  have e1 : (0 : Int) - -z = z := oq395
  have e2 : (0 : Int) - -c = c := oq395
  rw [e1, e2]
  have e3 : (0 : Int) - z = -z := oq396
  have e4 : (0 : Int) - c = -c := oq396
  rw [e3, e4]
  repeat' split
  all_goals (try omega)
  all_goals (first | rfl | (congr 2 <;> omega) | (congr 3 <;> omega) | skip)
theorem abz_ab (x : Int) : abz x = ab x := by unfold abz ab; split <;> split <;> omega
theorem ab_neg (x : Int) : ab (-x) = ab x := by unfold ab; split <;> split <;> omega
theorem cut_four (x : Int) : ctf x 4 = cdv x 1 4 := by
  unfold ctf cdv abz
  rw [Int.mul_one]
  split <;> split <;> split <;> (try omega) <;> (first | rfl | skip)
  all_goals (simp only [Int.zero_sub])
theorem cross_eq (a b c d : Int × Int) : crossL a b c d = crossP a b c d := by
  unfold crossL crossP
  have e1 : (b.1 - a.1) * (d.2 - c.2) - (b.2 - a.2) * (d.1 - c.1) = -((b.2 - a.2) * (d.1 - c.1) - (b.1 - a.1) * (d.2 - c.2)) := oq397
  have e2 : (c.1 - a.1) * (d.2 - c.2) - (c.2 - a.2) * (d.1 - c.1) = -((c.2 - a.2) * (d.1 - c.1) - (c.1 - a.1) * (d.2 - c.2)) := oq398
  rw [e1, e2, abz_ab, abz_ab, ab_neg, Int.neg_mul, Int.neg_mul, cut_four, cut_four]
  split
  · rename_i h
    have hn : (b.2 - a.2) * (d.1 - c.1) - (b.1 - a.1) * (d.2 - c.2) ≠ 0 := by
      intro e
      rw [e] at h
      unfold ab at h
      split at h <;> simp at h <;> omega
    rw [hlf_md2 _ _ hn, hlf_md2 _ _ hn, mdv_md2, mdv_md2]
  · rfl
theorem sq_nn (x : Int) : 0 ≤ x * x := by
  rcases Int.le_total 0 x with h | h
  · exact Int.mul_nonneg h h
  · exact Int.mul_nonneg_of_nonpos_of_nonpos h h
theorem sq_le {x M : Int} (h : -M ≤ x ∧ x ≤ M) : x * x ≤ M * M := by
  have h1 : 0 ≤ (M - x) * (M + x) := Int.mul_nonneg (oq399 h) (oq400 h)
  have : (M - x) * (M + x) = M * M - x * x := by grind
  exact oq401 h1 this
theorem nabs_le {x y : Int} (h : x * x ≤ y * y) : x.natAbs ≤ y.natAbs := by
  have h1 : ((x.natAbs * x.natAbs : Nat) : Int) ≤ ((y.natAbs * y.natAbs : Nat) : Int) := by
    rw [Int.natAbs_mul_self, Int.natAbs_mul_self]; exact h
  have h2 : x.natAbs * x.natAbs ≤ y.natAbs * y.natAbs := by exact_mod_cast h1
  exact Nat.mul_self_le_mul_self_iff.mp h2
theorem share_bd {u1 u2 v1 v2 w1 w2 M o : Int} (hM : 0 ≤ M) (hw1 : -(2 * M) ≤ w1 ∧ w1 ≤ 2 * M) (hw2 : -(2 * M) ≤ w2 ∧ w2 ≤ 2 * M) (ho : o * o ≤ u1 * u1 + u2 * u2)
    (h : (u1 * v1 + u2 * v2) * (u1 * v1 + u2 * v2) ≤ 361 * ((u2 * v1 - u1 * v2) * (u2 * v1 - u1 * v2))) :
    ((w2 * v1 - w1 * v2) * o).natAbs ≤ (54 * M * (u2 * v1 - u1 * v2)).natAbs := by
  apply nabs_le
  have W := sq_le hw1
  have W' := sq_le hw2
  have L1 : (w2 * v1 - w1 * v2) * (w2 * v1 - w1 * v2) + (w1 * v1 + w2 * v2) * (w1 * v1 + w2 * v2) = (w1 * w1 + w2 * w2) * (v1 * v1 + v2 * v2) := by grind
  have L2 : (u2 * v1 - u1 * v2) * (u2 * v1 - u1 * v2) + (u1 * v1 + u2 * v2) * (u1 * v1 + u2 * v2) = (u1 * u1 + u2 * u2) * (v1 * v1 + v2 * v2) := by grind
  have p1 := sq_nn (w1 * v1 + w2 * v2)
  have p2 := sq_nn (u2 * v1 - u1 * v2)
  have p3 := sq_nn o
  have p4 := sq_nn v1
  have p5 := sq_nn v2
  have p6 := sq_nn w1
  have p7 := sq_nn w2
  have p8 := sq_nn M
  generalize hT : (u2 * v1 - u1 * v2) * (u2 * v1 - u1 * v2) = T at *
  generalize hV : v1 * v1 + v2 * v2 = V at *
  generalize hU : u1 * u1 + u2 * u2 = U at *
  generalize hWW : w1 * w1 + w2 * w2 = WW at *
  generalize hS : (w2 * v1 - w1 * v2) * (w2 * v1 - w1 * v2) = S at *
  have e1 : (w2 * v1 - w1 * v2) * o * ((w2 * v1 - w1 * v2) * o) = S * (o * o) := by rw [← hS]; grind
  have e2 : 54 * M * (u2 * v1 - u1 * v2) * (54 * M * (u2 * v1 - u1 * v2)) = 2916 * (M * M) * T := by rw [← hT]; grind
  rw [e1, e2]
  have hV0 : 0 ≤ V := oq402 p4 p5 hV
  have hW0 : 0 ≤ WW := oq402 p6 p7 hWW
  have s1 : S ≤ WW * V := oq403 p1 L1
  have s2 : U * V ≤ 362 * T := oq404 h L2
  have s3 : WW ≤ 8 * (M * M) := by
    have : (2 * M) * (2 * M) = 4 * (M * M) := by grind
    exact oq405 W W' hWW this
  have hMM := p8
  calc S * (o * o) ≤ WW * V * (o * o) := Int.mul_le_mul_of_nonneg_right s1 p3
    _ ≤ WW * V * U := Int.mul_le_mul_of_nonneg_left ho (Int.mul_nonneg hW0 hV0)
    _ = WW * (U * V) := by grind
    _ ≤ WW * (362 * T) := Int.mul_le_mul_of_nonneg_left s2 hW0
    _ ≤ 8 * (M * M) * (362 * T) := Int.mul_le_mul_of_nonneg_right s3 (oq406 p2)
    _ = 2896 * (M * M * T) := by grind
    _ ≤ 2916 * (M * M * T) := by
      have := Int.mul_nonneg hMM p2
      exact oq407 this
    _ = 2916 * (M * M) * T := by grind
theorem md2_bd {z c K : Int} (hK : 0 ≤ K) (hc : c ≠ 0) (h : z.natAbs ≤ (K * c).natAbs) : -K ≤ md2 z c ∧ md2 z c ≤ K := by
  have key : ∀ {z c : Int}, 0 < c → 0 ≤ z → z ≤ K * c → 0 ≤ Int.fdiv (2 * z + c) (2 * c) ∧ Int.fdiv (2 * z + c) (2 * c) ≤ K := by
    intro z c hc hz hle
    rw [Int.fdiv_eq_ediv_of_nonneg _ (oq408 hc)]
    refine ⟨Int.ediv_nonneg (oq409 hc hz) (oq408 hc), ?_⟩
    have : (2 * z + c) / (2 * c) < K + 1 := by
      apply Int.ediv_lt_of_lt_mul (oq410 hc)
      have : (K + 1) * (2 * c) = 2 * (K * c) + 2 * c := by grind
      exact oq411 hc hle this
    exact oq412 this
  unfold md2
  split
  · rename_i hcn
    have hKc : (K * c).natAbs = (K * (0 - c)).natAbs := by
      rw [show K * (0 - c) = -(K * c) by grind, Int.natAbs_neg]
    have hp : 0 ≤ K * (0 - c) := Int.mul_nonneg hK (oq413 hcn)
    rw [hKc] at h
    split
    · have := key (z := z) (c := 0 - c) (oq414 hcn) (oq415 ⋯) (oq416 h hp)
      rw [show (0 : Int) - 2 * (0 - z) + (0 - c) = 2 * z + (0 - c) by exact oq417]
      exact oq418 this
    · exact ⟨by have := (key (z := 0 - z) (c := 0 - c) (oq414 hcn) (oq419 ⋯) (oq420 h hp)).1; exact oq421 hK this, (key (z := 0 - z) (c := 0 - c) (oq414 hcn) (oq419 ⋯) (oq420 h hp)).2⟩
  · have hp : 0 ≤ K * c := Int.mul_nonneg hK (oq422 ⋯)
    split
    · have := key (z := -z) (c := c) (oq423 hc ⋯) (oq424 ⋯) (oq425 h hp)
      rw [show (0 : Int) - 2 * z + c = 2 * (-z) + c by exact oq426]
      exact oq418 this
    · exact ⟨by have := (key (z := z) (c := c) (oq423 hc ⋯) (oq422 ⋯) (oq427 h hp)).1; exact oq421 hK this, (key (z := z) (c := c) (oq423 hc ⋯) (oq422 ⋯) (oq427 h hp)).2⟩
theorem cross_bd {a b c d : Int × Int} {M : Int} (hM : 512 ≤ M) (ha : In M a) (hb : In M b) (hc : In M c) (hd : In M d) : In (64 * M) (crossP a b c d) := by
  obtain ⟨a1, a2⟩ := a
  obtain ⟨b1, b2⟩ := b
  obtain ⟨c1, c2⟩ := c
  obtain ⟨d1, d2⟩ := d
  unfold In at *
  dsimp only at *
  unfold crossP
  dsimp only
  split
  · rename_i h
    have hsq : ((b1 - a1) * (d1 - c1) + (b2 - a2) * (d2 - c2)) * ((b1 - a1) * (d1 - c1) + (b2 - a2) * (d2 - c2)) ≤ 361 * (((b2 - a2) * (d1 - c1) - (b1 - a1) * (d2 - c2)) * ((b2 - a2) * (d1 - c1) - (b1 - a1) * (d2 - c2))) := by
      generalize (b1 - a1) * (d1 - c1) + (b2 - a2) * (d2 - c2) = x at *
      generalize (b2 - a2) * (d1 - c1) - (b1 - a1) * (d2 - c2) = y at *
      have := sq_le (x := x) (M := 19 * ab y) (by unfold ab at *; split at h <;> split at h <;> (try split) <;> omega)
      have e : (19 * ab y) * (19 * ab y) = 361 * (y * y) := by unfold ab; split <;> grind
      exact oq428 this e
    have hn : (b2 - a2) * (d1 - c1) - (b1 - a1) * (d2 - c2) ≠ 0 := by
      intro e
      rw [e] at h
      unfold ab at h
      split at h <;> simp at h <;> omega
    have p1 := sq_nn (b1 - a1)
    have p2 := sq_nn (b2 - a2)
    have k1 := share_bd (M := M) (w1 := c1 - a1) (w2 := c2 - a2) (o := b1 - a1) (oq429 hM) (oq430 ha hc) (oq431 ha hc) (oq432 p2) hsq
    have k2 := share_bd (M := M) (w1 := c1 - a1) (w2 := c2 - a2) (o := b2 - a2) (oq429 hM) (oq430 ha hc) (oq431 ha hc) (oq433 p1) hsq
    have m1 := md2_bd (K := 54 * M) (oq434 hM) hn k1
    have m2 := md2_bd (K := 54 * M) (oq434 hM) hn k2
    rw [mdv_md2, mdv_md2]
    omega
  · have q : ∀ x : Int, -(4 * M) ≤ x ∧ x ≤ 4 * M → -M ≤ cdv x 1 4 ∧ cdv x 1 4 ≤ M := by
      intro y h
      unfold cdv
      rw [Int.mul_one, if_neg (show ¬ (4 : Int) < 0 by decide)]
      split <;> (rw [Int.fdiv_eq_ediv_of_nonneg _ (by decide)]; omega)
    have q1 := q (a1 + b1 + c1 + d1) (oq435 ha hb hc hd)
    have q2 := q (a2 + b2 + c2 + d2) (oq436 ha hb hc hd)
    exact oq437 q1 q2
section
variable {ad : Nat → Addr} {ob : Nat → Obj} {a : Adr} {i : Nat} {n : Int} {u : Tok} {v : Value}
theorem len4 {ns : List Int} (h : ns.length = 4) : ∃ a b c d, ns = [a, b, c, d] := by
  match ns, h with
  | [a, b, c, d], _ => exact ⟨a, b, c, d, rfl⟩
theorem all4 {vs : List Value} {a b c d : Int} (h : All2 IsI vs [a, b, c, d]) : ∃ t1 t2 t3 t4, vs = [.int a t1, .int b t2, .int c t3, .int d t4] := by
  cases h with
  | cons h1 h => cases h with
    | cons h2 h => cases h with
      | cons h3 h => cases h with
        | cons h4 h =>
          cases h
          obtain ⟨t1, rfl⟩ := h1
          obtain ⟨t2, rfl⟩ := h2
          obtain ⟨t3, rfl⟩ := h3
          obtain ⟨t4, rfl⟩ := h4
          exact ⟨t1, t2, t3, t4, rfl⟩
theorem five_l {kd : Str → Option NameKind} {v1 v2 v3 v4 v5 : Value} (h1 : kd "source" = some .cell) (h2 : kd "work" = some .local) (h3 : kd "rows" = some .local) (h4 : kd "state" = some .local) (h5 : kd "axis" = some .local) (y : Str) (u : Value)
    (e : List.lookup y [(("axis" : Str), v5), ("state", v4), ("rows", v3), ("work", v2)] = some u) : bindL kd [(("source" : Str), v1), ("work", v2), ("rows", v3), ("state", v4), ("axis", v5)] (fun _ => none) y = some u := by
  have n1 : ¬ (some NameKind.cell = some NameKind.local) := by decide
  simp only [bindL, h1, h2, h3, h4, h5, if_neg n1, if_true]
  rw [List.lookup_cons] at e
  by_cases q1 : y = "axis"
  · rw [if_pos q1]; rw [show (y == ("axis" : Str)) = true by simpa using q1] at e; exact e
  rw [if_neg q1]; rw [show (y == ("axis" : Str)) = false by simpa using q1, List.lookup_cons] at e
  by_cases q2 : y = "state"
  · rw [if_pos q2]; rw [show (y == ("state" : Str)) = true by simpa using q2] at e; exact e
  rw [if_neg q2]; rw [show (y == ("state" : Str)) = false by simpa using q2, List.lookup_cons] at e
  by_cases q3 : y = "rows"
  · rw [if_pos q3]; rw [show (y == ("rows" : Str)) = true by simpa using q3] at e; exact e
  rw [if_neg q3]; rw [show (y == ("rows" : Str)) = false by simpa using q3, List.lookup_cons] at e
  by_cases q4 : y = "work"
  · rw [if_pos q4]; rw [show (y == ("work" : Str)) = true by simpa using q4] at e; exact e
  rw [show (y == ("work" : Str)) = false by simpa using q4] at e
  cases e
theorem five_k {names : List (Str × NameKind)} {v1 v2 v3 v4 v5 : Value} {n : Nat} (h1 : names.lookup ("source" : Str) = some .cell ∧ ((cellsFrom n names []).lookup ("source" : Str)).isSome = true) (h2 : names.lookup ("work" : Str) = some .local) (h3 : names.lookup ("rows" : Str) = some .local) (h4 : names.lookup ("state" : Str) = some .local) (h5 : names.lookup ("axis" : Str) = some .local) :
    ∀ y ∈ [(("source" : Str), v1), ("work", v2), ("rows", v3), ("state", v4), ("axis", v5)], names.lookup y.1 = some .local ∨ (names.lookup y.1 = some .cell ∧ ((cellsFrom n names []).lookup y.1).isSome = true) := by
  intro y hy
  simp only [List.mem_cons, List.not_mem_nil, or_false] at hy
  rcases hy with rfl | rfl | rfl | rfl | rfl
  · exact .inr h1
  · exact .inl h2
  · exact .inl h3
  · exact .inl h4
  · exact .inl h5
theorem sp_law_isect {M : Int} {t : Tok} (C : Cx w B) (S : St B L loc Z G ad ob us s₀ s) (R : Rel D a G ad ob) (hu : ∀ k, US k → us k) (hκ : ∀ k, 81 ≤ k → ¬ us k) (hA : Rm A 8) (O : Ok D) (hB : Bd M D) (hM : 512 ≤ M) (hM2 : M < 2 ^ 59)
   (k : ∀ v D' s', D'.k = D.k → Ok D' → Bd (64 * M) D' → Due B L loc Z G ad ob us s₀ a D' v s' → Q v s') : WP pw w A (call (.ref 500) [.ref a.src, .ref a.w, .ref a.rs, .ref a.s, .int D.k t]) Q E s := by
  obtain ⟨Z', H', back⟩ := S.lend
  refine r_callC [("source", .ref a.src), ("work", .ref a.w), ("rows", .ref a.rs), ("state", .ref a.s), ("axis", .int D.k t)] [("axis", .int D.k t), ("state", .ref a.s), ("rows", .ref a.rs), ("work", .ref a.w)] "source" (.ref a.src) C H' hA rfl rfl (BindsTo.of_eq rfl) ?_ (fun _ => rfl) (fun _ => rfl) ?_ ?_
  · intro n; exact five_k ⟨rfl, rfl⟩ rfl rfl rfl rfl
  · intro L y u e; exact five_l rfl rfl rfl rfl rfl y u e
  intro A1 L1 G1 oc s1 hA1 le1 hc hcd S1
  have R1 := R.mono le1
  have hk := O.k
  walk_at "c"; refine r_assign2 (r_tupleE (r_args ?_)); refine r_callG ⋯ ⋯ (g_law_take _) (k_law_take _) ?_; refine r_args ?_; refine r_cell ⋯ rfl ⋯ ⋯ ?_; refine r_args ?_; walk_at "i"; refine r_args0 ?_; walk_at "k"
  refine take_ C ⋯ R1 hu (Rm.less hA1) (by decide) ?_
  intro n t2 D1 o1 s2 hn g1 S2 R2
  refine r_args ?_
  refine draws (ok := fun n => n = 4) (B := B) (Z := Z') (s₀ := s) (G := G1) (a := a) (us := us) (oc := oc) (loc := [("axis", .int D.k t), ("state", .ref a.s), ("rows", .ref a.rs), ("work", .ref a.w)]) C (hκ _ (by decide)) (hκ _ (by decide)) hu (Rm.less hA1) (by decide) (fun _ => rfl) rfl ⟨rfl, rfl, rfl, rfl⟩ (fun _ => rfl) (fun _ => rfl) ?_
  refine r_callT ⋯ ⋯ (b_range _) bb_range ?_; refine r_args ?_; walk_at "i"; refine r_args0 ?_; dsimp only
  refine r_range1 ⋯ ?_
  intro r t3 t4 t5 s3 S3 hr
  refine ⟨r, 4, t3, t4, t5, ad, _, D1, rfl, hr, by decide, rfl, S3, R2, ⟨hc, hcd⟩, ?_⟩
  intro vs ns b D2 ad2 ob2 s4 hvs hlen hns g2 K2 S4 R4 hb N4
  replace g2 : Gt D D2 D.nums D.q := by
    have h2 := g1.trans g2; rwa [g1.q, g1.n] at h2
  obtain ⟨x1, x2, x3, x4, rfl⟩ := len4 hlen
  obtain ⟨u1, u2, u3, u4, rfl⟩ := all4 hvs
  obtain ⟨db, hb⟩ := hb
  have hx1 := hns x1 (by simp)
  have hx2 := hns x2 (by simp)
  have hx3 := hns x3 (by simp)
  have hx4 := hns x4 (by simp)
  obtain ⟨G3, le3, gb, S5⟩ := S4.addG' hb (fun _ _ e => by cases e) N4.k
  have R5 := R4.mono le3
  have hib : IsL (listOf [Value.int x1 u1, .int x2 u2, .int x3 u3, .int x4 u4].toArray db) [.int x1 u1, .int x2 u2, .int x3 u3, .int x4 u4] := ⟨rfl, _, rfl⟩
  refine r_args0 ?_; refine r_tuple ⋯ ?_; intro _ _ _ _ _; refine r_unpackN ⋯ (Rm.h ⋯) ⋯ ?_; intro _ _; refine r_inOrder (r_bindName ?_); walk_at "t"; refine r_inOrder (r_bindName ?_); walk_at "t"; refine r_inOrder0 ?_; walk_at "n"; refine r_assignA (r_bin (r_listE (r_args ?_))); walk_at "l"; refine r_args0 ?_
  refine x_mklist ⋯ ?_
  intro b4 G4 s6 le4 gb4 S6
  have R6 := R5.mono le4
  replace gb := le4 _ _ gb
  walk_at "l"
  refine r_listAdd ⋯ (gIsL ⋯ gb4) (IsL.at ((St.H ⋯).imm _ _ gb).1 hib) (by exact Nat.le_of_ble_eq_true rfl) ?_
  intro b5 s7 S7 hb5 N5
  have N6 := Hold.of (o := lstO ([Value.int n t2] ++ [.int x1 u1, .int x2 u2, .int x3 u3, .int x4 u4])) N5
  have S8 := S7.addG hb5 (still_lst _) N5.k
  have R8 := R6.mono N6.le
  refine r_attrN ?_; walk_at "l"; refine x_wsk ⋯ ⋯ ⋯ ⋯ ?_; intro _ _
  refine nums_ [n, x1, x2, x3, x4] C N6 ⋯ R6 hu (.cons ⟨_, rfl⟩ (.cons ⟨_, rfl⟩ (.cons ⟨_, rfl⟩ (.cons ⟨_, rfl⟩ (.cons ⟨_, rfl⟩ .nil))))) ?_
  intro D7 ad7 ob7 s9 g7 K7 S9 R7
  replace g7 := g2.trans g7
  rw [g2.q] at g7
  clear R8 S8 S7 R5 R6
  have O7 := O.same g7
  walk_at "n"; refine r_expr ?_; refine r_callG ⋯ ⋯ (g_do_isect _) (k_do_isect _) ?_; refine r_args ?_; walk_at "l"; refine r_args ?_; walk_at "i"; refine r_args0 ?_; walk_at "k"
  have hbp : ∀ i, i < 2 → ∀ n, 0 ≤ n ∧ n < 3 → Bp ((D7.q i).c n) := by
    intro i hi n _
    rw [g7.q]
    have := hB i hi n
    unfold In at this; unfold Bp; exact oq148 hM2 this
  refine isect_ C ⋯ R7 hu (Rm.less hA1) O7.z0 O7.z1 O7.z2 g7.n hn hx1 hx2 hx3 hx4 hbp ?_
  rw [g7.z0, g7.z1, g7.z2, g7.q]
  rintro D8 s10 g8 ⟨G8, ad8, ob8, le8, K8, S10, R8⟩
  replace g8 := g7.trans g8
  replace gb := le8 _ _ gb
  have z0 := O.z0
  have z1 := O.z1
  have z2 := O.z2
  have hz0 : D8.z0 = 0 ∨ D8.z0 = 1 := g8.z0 ▸ O.z0
  have hz1 : D8.z1 = 0 ∨ D8.z1 = 1 := g8.z1 ▸ O.z1
  have hz2 : D8.z2 = 0 ∨ D8.z2 = 1 := g8.z2 ▸ O.z2
  have i0 : D8.z0.toNat < 2 := oq51 hz0
  have i1 : D8.z1.toNat < 2 := oq51 hz1
  have i2 : D8.z2.toNat < 2 := oq51 hz2
  have j0 : D8.z0.toNat + 2 < 4 := oq52 i0
  have j1 : D8.z1.toNat + 2 < 4 := oq52 i1
  have j2 : D8.z2.toNat + 2 < 4 := oq52 i2
  have n0 := nq_ge (D8.z0.toNat + 2)
  have n1 := nq_ge (D8.z1.toNat + 2)
  have n2 := nq_ge (D8.z2.toNat + 2)
  have n6 := nq_le (D8.z2.toNat + 2)
  have m0 : 0 ≤ n ∧ n < nq (D8.z2.toNat + 2) := oq54 hn n2
  have m1 : 0 ≤ x1 ∧ x1 < nq (D8.z1.toNat + 2) := oq54 hx1 n1
  have m2 : 0 ≤ x2 ∧ x2 < nq (D8.z1.toNat + 2) := oq54 hx2 n1
  have m3 : 0 ≤ x3 ∧ x3 < nq (D8.z0.toNat + 2) := oq54 hx3 n0
  have m4 : 0 ≤ x4 ∧ x4 < nq (D8.z0.toNat + 2) := oq54 hx4 n0
  walk_at "n"; refine r_assign2 (r_tupleE (r_args (Mine.r_sub (Mine.r_sub ?_)))); walk_at "l"; refine r_attrN ?_; walk_at "l"; refine x_z1 ⋯ ⋯ ⋯ ⋯ ?_; intro _ _ _; refine x_rs ⋯ ⋯ ⋯ ?_; walk_at "i"; refine x_r1 ⋯ ⋯ ⋯ ?_; refine r_args (Mine.r_sub (Mine.r_sub ?_)); walk_at "l"; refine r_attrN ?_; walk_at "l"; refine x_z0 ⋯ ⋯ ⋯ ⋯ ?_; intro _ _ _; refine x_rs ⋯ ⋯ ⋯ ?_; walk_at "i"; refine x_r1 ⋯ ⋯ ⋯ ?_; refine r_args0 ?_; refine r_tuple ⋯ ?_; intro _ _ _ _ _; refine r_unpackN ⋯ (Rm.h ⋯) ⋯ ?_; intro _ _; refine r_inOrder (r_bindName ?_); walk_at "t"; refine r_inOrder (r_bindName ?_); walk_at "t"; refine r_inOrder0 ?_; walk_at "n"; refine r_assignS ?_; refine r_callG ⋯ ⋯ (g_law_crossing _) (k_law_crossing _) ?_; refine r_args (Mine.r_sub ?_); walk_at "l"; refine Mine.r_sub ?_; walk_at "l"; walk_at "i"; refine r_gitem ⋯ ⋯ (by with_reducible assumption) (by decide) (by decide) rfl ?_; refine X_c ⋯ ⋯ ⋯ ⋯ ⋯ ?_; intro _ _; refine r_args (Mine.r_sub ?_); walk_at "l"; refine Mine.r_sub ?_; walk_at "l"; walk_at "i"; refine r_gitem ⋯ ⋯ (by with_reducible assumption) (by decide) (by decide) rfl ?_; refine X_c ⋯ ⋯ ⋯ ⋯ ⋯ ?_; intro _ _; refine r_args (Mine.r_sub ?_); walk_at "l"; refine Mine.r_sub ?_; walk_at "l"; walk_at "i"; refine r_gitem ⋯ ⋯ (by with_reducible assumption) (by decide) (by decide) rfl ?_; refine X_c ⋯ ⋯ ⋯ ⋯ ⋯ ?_; intro _ _; refine r_args (Mine.r_sub ?_); walk_at "l"; refine Mine.r_sub ?_; walk_at "l"; walk_at "i"; refine r_gitem ⋯ ⋯ (by with_reducible assumption) (by decide) (by decide) rfl ?_; refine X_c ⋯ ⋯ ⋯ ⋯ ⋯ ?_; intro _ _; refine r_args0 ?_; walk_at "k"
  have q0 : D8.q (D8.z0.toNat + 2) = D.q D.z0.toNat := by rw [g8.q, g8.z0, up_other _ _ (oq149 z2), O.qi (oq51 z0)]
  have q1 : D8.q (D8.z1.toNat + 2) = D.q D.z1.toNat := by rw [g8.q, g8.z1, up_other _ _ (oq149 z2), O.qi (oq51 z1)]
  have q2 : D8.q (D8.z2.toNat + 2) = D.q D.z2.toNat := by rw [g8.q, g8.z2, up_other _ _ (oq53), O.qi (oq51 z2)]
  have bp : ∀ i, i < 2 → ∀ n, Bp ((D.q i).c n) := by
    intro i hi n
    have := hB i hi n
    unfold In at this; unfold Bp; exact oq148 hM2 this
  refine sp_lcross (p1 := (D8.q (D8.z1.toNat + 2)).c x1) (p2 := (D8.q (D8.z1.toNat + 2)).c x2) (p3 := (D8.q (D8.z0.toNat + 2)).c x3) (p4 := (D8.q (D8.z0.toNat + 2)).c x4) C ⋯ (Rm.less hA1) ⋯ ⋯ ⋯ ⋯
    (by rw [q1]; exact bp _ (oq51 z1) _) (by rw [q1]; exact bp _ (oq51 z1) _) (by rw [q0]; exact bp _ (oq51 z0) _) (by rw [q0]; exact bp _ (oq51 z0) _) ?_
  rw [cross_eq, q1, q0]
  intro G9 v s11 le9 hv S11
  have R9 := R8.mono le9
  refine Mine.r_sub (Mine.r_sub ?_); walk_at "l"; refine r_attrN ?_; walk_at "l"; refine x_z2 ⋯ ⋯ ⋯ ⋯ ?_; intro _ _ _; refine x_rs ⋯ ⋯ ⋯ ?_; walk_at "i"; refine x_r1 ⋯ ⋯ ⋯ ?_; walk_at "l"; refine Y_c ⋯ ⋯ ⋯ ⋯ ⋯ ⋯ ?_; intro _ _ _ _; walk_at "n"; refine r_assignS (r_listE (r_args ?_)); refine r_bool ?_; refine r_args ?_; refine r_bool ?_; refine r_args0 ?_
  rename_i o12 s12 S12 R12
  refine x_hold ⋯ ?_
  intro b13 G13 s13 le13 N13 S13
  have R13 := R12.mono le13
  refine Mine.r_sub (Mine.r_sub ?_); walk_at "l"; refine r_attrN ?_; walk_at "l"; refine x_z2 ⋯ ⋯ ⋯ ⋯ ?_; intro _ _ _; refine x_rs ⋯ ⋯ ⋯ ?_; walk_at "i"; refine x_r2 ⋯ ⋯ ⋯ ?_; walk_at "l"
  refine Y_t (p := (true, true)) (N13.back ⋯) R12 hu j2 m0 (N13.get ⋯) N13.n ?_
  intro ad14 ob14 s14 K14 S14 R14
  simp only [show ∀ (i : Nat) (z : ZD), (D8.sq i z).z2 = D8.z2 from fun _ _ => rfl] at R14
  rw [sq_q, sq_sq] at R14
  have g14 : Gt D (D8.sq (D8.z2.toNat + 2) (((D8.q (D8.z2.toNat + 2)).sc n (crossP ((D.q D.z1.toNat).c x1) ((D.q D.z1.toNat).c x2) ((D.q D.z0.toNat).c x3) ((D.q D.z0.toNat).c x4))).st n (true, true))) []
      (tw D.q D.z2.toNat (((D.q D.z2.toNat).sc n (crossP ((D.q D.z1.toNat).c x1) ((D.q D.z1.toNat).c x2) ((D.q D.z0.toNat).c x3) ((D.q D.z0.toNat).c x4))).st n (true, true))) := by
    refine ⟨g8.k, g8.f, g8.z0, g8.z1, g8.z2, g8.l, ?_, g8.n⟩
    show up D8.q (D8.z2.toNat + 2) _ = _
    rw [q2, g8.z2, g8.q]
    rfl
  clear R13 S13
  walk_at "n"; refine r_ret (r_listE (r_args0 ?_))
  refine x_mklist ⋯ ?_
  intro b15 G15 s15 le15 gl15 S15
  refine nx_ret ⋯ ?_; clear Nc Qc; dsimp only
  have hi2 : D.z2.toNat < 2 := oq51 z2
  have bz : ∀ n', In (64 * M) ((((D.q D.z2.toNat).sc n (crossP ((D.q D.z1.toNat).c x1) ((D.q D.z1.toNat).c x2) ((D.q D.z0.toNat).c x3) ((D.q D.z0.toNat).c x4))).st n (true, true)).c n') := by
    intro n'
    show In (64 * M) (((D.q D.z2.toNat).sc n (crossP ((D.q D.z1.toNat).c x1) ((D.q D.z1.toNat).c x2) ((D.q D.z0.toNat).c x3) ((D.q D.z0.toNat).c x4))).c n')
    rcases c_sc (D.q D.z2.toNat) n n' (crossP ((D.q D.z1.toNat).c x1) ((D.q D.z1.toNat).c x2) ((D.q D.z0.toNat).c x3) ((D.q D.z0.toNat).c x4)) with e | e <;> rw [e]
    · exact cross_bd hM (hB _ (oq51 z1) _) (hB _ (oq51 z1) _) (hB _ (oq51 z0) _) (hB _ (oq51 z0) _)
    · exact (hB _ hi2 n').mono (oq59 hM)
  try refine nx_ret ⋯ ?_
  refine k _ _ _ g14.k (O.gt g14 (tw_ok hi2 O.e0 O.e1).1 (tw_ok hi2 O.e0 O.e1).2) (Bd.gt g14 (tw_bd hi2 hB (oq59 hM) bz)) ?_
  refine ⟨G15, ad14, ob14, b15, [], fun b o g => le15 _ _ (le9 _ _ (le8 _ _ (le4 _ _ (le3 _ _ (le1 _ _ g))))), Kp.trans (Kp.trans (Kp.trans (Kp.trans (by refine Kp.up (oq58) ?_; exact Kp.refl _ _ _) K2) K7) K8) (Kp.trans (Kp.up (oq150 i2) (Kp.refl _ _ _)) K14), back _ _ _ _ _ S15.H S15.S, R14.mono le15, rfl, gl15, ?_⟩
  rw [g14.n]; exact .nil
end
noncomputable def fl (z : ZD) (n : Int) : ZD := z.sv n (!z.v n)
theorem fl_comm (z : ZD) (n m : Int) : fl (fl z n) m = fl (fl z m) n := by
  by_cases e : n.toNat = m.toNat
  · unfold fl ZD.sv ZD.v
    rw [e]
  · unfold fl ZD.sv ZD.v
    dsimp only
    congr 1
    rw [List.set_comm _ _ e]
    congr 1
    · congr 1
      simp only [List.getD_eq_getElem?_getD]
      rw [List.getElem?_set_ne e]
    · simp only [List.getD_eq_getElem?_getD]
      rw [List.getElem?_set_ne (Ne.symm e)]
theorem flips_fl (l : List Int) : ∀ z n, flips (fl z n) l = fl (flips z l) n := by
  induction l with
  | nil => intro z n; rfl
  | cons x l ih =>
    intro z n
    show flips (fl (fl z n) x) l = fl (flips (fl z x) l) n
    rw [fl_comm, ih]
theorem flips_rev (l : List Int) : ∀ z, flips z l.reverse = flips z l := by
  induction l with
  | nil => intro z; rfl
  | cons x l ih =>
    intro z
    rw [List.reverse_cons, flips_snoc]
    show fl (flips z l.reverse) x = flips (fl z x) l
    rw [ih, flips_fl]
theorem c_flips (l : List Int) : ∀ z, (flips z l).cur = z.cur := by
  induction l with
  | nil => intro z; rfl
  | cons x l ih => intro z; show (flips (fl z x) l).cur = _; rw [ih]; rfl
theorem c_fill (z : ZD) (b : Bool) (lo : Int) : ∀ n, (fill z b lo n).cur = z.cur
  | 0 => rfl
  | n + 1 => (c_fill z b lo n)
section
variable {ad : Nat → Addr} {ob : Nat → Obj} {a : Adr} {i : Nat} {n : Int} {u : Tok} {v : Value}
noncomputable def DrawnU (y : Str) (B : Heap) (L : Addr) (loc : List (Str × Value)) (Z : Addr → Obj → Prop) (us : Nat → Prop) (s₀ : Shared) (a : Adr) (top : Int) (ok : Nat → Prop) (Q : Flow → Shared → Prop) (G : Addr → Obj → Prop) (ad : Nat → Addr) (ob : Nat → Obj) (D : Dt) : Prop :=
  ∀ vs ns b D' ad' ob' s₂, All2 IsI vs ns → ok ns.length → (∀ n ∈ ns, 0 ≤ n ∧ n < top) → Gt D D' D.nums D.q → Kp us ad ob ad' ob' → St B L ((y, .ref b) :: loc) Z G ad' ob' us s₀ s₂ → Rel D' a G ad' ob' → (∃ d, s₂.heap.get? b = some (listOf vs.toArray d)) → New Z G ad' us L b → Q .next s₂
theorem drawsU {Q : Flow → Shared → Prop} {y : Str} {py spos : Pos} {ok : Nat → Prop} {iter : Expr} {c : Addr} {oc : Obj} {top : Int} {P1 P2 P3 P4 P5 P6 : Pos} {k1 : Nat} (C : Cx w B) (hκ : ¬ us 84) (hκ' : ¬ us 85) (hu : ∀ k, US k → us k) (hA : Rm A 2) (ht : 0 < top ∧ top < 100)
   (hs : ∀ x, foldedSetIterable iter env x = pure x) (hclos : closureFor dScope env = pure [(("source" : Str), c)]) (hE : EnvOk env L) (hsc : ∀ C', (cEnv dScope [(("source" : Str), c)] C' env).kindOf "source" = some .cell) (hst : ∀ C', (cEnv dScope [(("source" : Str), c)] C' env).kindOf "_law_take" = some .globalImplicit)
   (hy : env.kindOf y = some .local) (hsw : swapsWith (.ListComp (.Call (.Name "_law_take" P1) [.Name "source" P2, .Constant (.int top) k1 P3] [] P4) [⟨.Name "turn" P5, iter, [], 0⟩] dScope P6) (some (.Name y py)) spos.line env = pure true)
   (h : WP pw w A (eval iter env) (fun xv s₁ => ∃ r N t u v ad ob D, xv = .ref r ∧ IsRange s₁.heap r 0 N 1 t u v ∧ (0 ≤ N ∧ N < 100) ∧ ok N.toNat ∧ St B L loc Z G ad ob us s₀ s₁ ∧ Rel D a G ad ob ∧ (G c oc ∧ oc.data = .cell (some (.ref a.src))) ∧
     DrawnU y B L loc Z us s₀ a top ok Q G ad ob D) E s) :
   WP pw w A (exec (.Assign [.Name y py] (.ListComp (.Call (.Name "_law_take" P1) [.Name "source" P2, .Constant (.int top) k1 P3] [] P4) [⟨.Name "turn" P5, iter, [], 0⟩] dScope P6) spos) env) Q E s := by
  let J : InvC := fun i ys G' ad' ob' => ∃ D0 ad0 ob0 ns D', DrawnU y B L loc Z us s₀ a top ok Q G ad0 ob0 D0 ∧ G' = G ∧ All2 IsI ys ns ∧ ns.length = i ∧ (∀ n ∈ ns, 0 ≤ n ∧ n < top) ∧ Gt D0 D' D0.nums D0.q ∧ Kp us ad0 ob0 ad' ob' ∧ Rel D' a G ad' ob'
  refine r_compRangeU (B := B) (Z := Z) (s₀ := s₀) 84 J hκ hκ' ?_ hA.h (h.mono ?_ fun _ _ e => e) hE (by decide) rfl rfl hs hclos (by decide) hy hsw
  · rintro i ys G' ad' ob' b o k hk ⟨D0, ad0, ob0, ns, D', h1, h2, h3, h4, h5, h6, h7, h8⟩
    refine ⟨D0, ad0, ob0, ns, D', h1, h2, h3, h4, h5, h6, fun j u l => ?_, h8.upX (oq107 hk)⟩
    have : j ≠ k := fun e => by subst e; rcases hk with rfl | rfl <;> contradiction
    rw [up_other _ _ this, up_other _ _ this]
    exact h7 j u l
  · rintro xv s₁ ⟨r, N, t, u, v, ad, ob, D, rfl, hr, hN, hok, S, R, hc, hfin⟩
    refine ⟨r, N, t, u, v, loc, G, ad, ob, rfl, hr, ⟨hN.1, by exact oq108 hN⟩, S, ⟨D, ad, ob, [], D, hfin, rfl, .nil, rfl, (fun _ h => by cases h), ⟨rfl, rfl, rfl, rfl, rfl, rfl, rfl, rfl⟩, Kp.refl _ _ _, R⟩, ?_, ?_⟩
    · rintro i ys G' ad' ob' C' Z' loc' s₂ s₃ t' hi ⟨D0, ad0, ob0, ns, D', h1, rfl, h3, h4, h5, h6, h7, h8⟩ S'
      have hu' : ∀ k, US k → us2 us 84 k := fun k u => .inl (.inl (hu k u))
      have hE' : EnvOk (cEnv dScope [(("source" : Str), c)] C' env) C' := ⟨rfl, rfl, hE.g, hE.b⟩
      refine r_callG C S' (g_law_take _) (k_law_take _) (r_args (r_cell S' rfl hc.1 hc.2 (r_args (r_int S' fun t1 s4 S4 => r_args0 ⟨S4.K C, ?_⟩)) hE' (hsc C'))) hE' (hst C')
      refine take_ C S4 h8 hu' (Rm.less hA) ht ?_
      intro n t2 D2 o2 s5 hn g2 S5 R5
      refine ⟨_, ad', _, _, S5, ⟨D0, ad0, ob0, ns ++ [n], D2, h1, rfl, h3.append (.cons ⟨_, rfl⟩ .nil), by rw [List.length_append, h4]; rfl, ?_, ?_, Kp.up (by decide) h7, R5⟩, ⟨rfl, up_other _ _ (by decide)⟩, rfl, up_other _ _ (by decide)⟩
      · intro m hm
        rcases List.mem_append.mp hm with hm | hm
        · exact h5 m hm
        · rw [List.mem_singleton.mp hm]; exact hn
      · have := h6.trans g2; rwa [h6.q, h6.n] at this
    · rintro ys n G' ad' ob' b s₂ ⟨D0, ad0, ob0, ns, D', h1, rfl, h3, h4, h5, h6, h7, h8⟩ S' hb hnew
      exact h1 _ _ _ _ _ _ _ h3 (h4 ▸ hok) h5 h6 h7 S' h8 ⟨_, hb⟩ hnew
end
section
variable {ad : Nat → Addr} {ob : Nat → Obj} {a : Adr} {i : Nat} {n : Int} {u : Tok} {v : Value}
theorem sp_law_flips {M : Int} {t : Tok} (C : Cx w B) (S : St B L loc Z G ad ob us s₀ s) (R : Rel D a G ad ob) (hu : ∀ k, US k → us k) (hκ : ∀ k, 81 ≤ k → ¬ us k) (hA : Rm A 8) (O : Ok D) (hB : Bd M D) (hM : 512 ≤ M)
   (k : ∀ v D' s', D'.k = D.k → Ok D' → Bd (64 * M) D' → Due B L loc Z G ad ob us s₀ a D' v s' → Q v s') : WP pw w A (call (.ref 519) [.ref a.src, .ref a.w, .ref a.rs, .ref a.s, .int D.k t]) Q E s := by
  obtain ⟨Z', H', back⟩ := S.lend
  refine r_callC [("source", .ref a.src), ("work", .ref a.w), ("rows", .ref a.rs), ("state", .ref a.s), ("axis", .int D.k t)] [("axis", .int D.k t), ("state", .ref a.s), ("rows", .ref a.rs), ("work", .ref a.w)] "source" (.ref a.src) C H' hA rfl rfl (BindsTo.of_eq rfl) ?_ (fun _ => rfl) (fun _ => rfl) ?_ ?_
  · intro n; exact five_k ⟨rfl, rfl⟩ rfl rfl rfl rfl
  · intro L y u e; exact five_l rfl rfl rfl rfl rfl y u e
  intro A1 L1 G1 oc s1 hA1 le1 hc hcd S1
  have R1 := R.mono le1
  have hk := O.k
  walk_at "c"; refine r_if (r_isCmp ?_); refine r_callG ⋯ ⋯ (g_law_take _) (k_law_take _) ?_; refine r_args ?_; refine r_cell ⋯ rfl ⋯ ⋯ ?_; refine r_args ?_; walk_at "i"; refine r_args0 ?_; walk_at "k"
  refine take_ C ⋯ R1 hu (Rm.less hA1) (by decide) ?_
  intro c t2 D1 o1 s2 hcc g1 S2 R2
  walk_at "i"; refine r_eq (r_truthy ?_); (refine br ?_ ?_ <;> intro _); walk_at "c"; rotate_left; refine r_nil ?_; walk_at "n"; refine r_assign3 (r_tupleE (r_args ?_)); refine r_callG ⋯ ⋯ (g_law_take _) (k_law_take _) ?_; refine r_args ?_; refine r_cell ⋯ rfl ⋯ ⋯ ?_; refine r_args ?_; walk_at "i"; refine r_args0 ?_; walk_at "k"; rotate_left
  · refine drawsU (top := 6) (ok := fun n => 1 ≤ n ∧ n ≤ 3) (B := B) (Z := Z') (s₀ := s) (G := G1) (a := a) (us := us) (oc := oc) (loc := [("axis", .int D.k t), ("state", .ref a.s), ("rows", .ref a.rs), ("work", .ref a.w)]) C (hκ _ (by decide)) (hκ _ (by decide)) hu (Rm.less hA1) (by decide) (fun _ => rfl) rfl ⟨rfl, rfl, rfl, rfl⟩ (fun _ => rfl) (fun _ => rfl) rfl rfl ?_
    refine r_callT ⋯ ⋯ (b_range _) bb_range ?_; refine r_args (r_bin ?_); walk_at "i"; refine r_callG ⋯ ⋯ (g_law_take _) (k_law_take _) ?_; refine r_args ?_; refine r_cell ⋯ rfl ⋯ ⋯ ?_; refine r_args ?_; walk_at "i"; refine r_args0 ?_; walk_at "k"
    refine take_ C ⋯ R2 hu (Rm.less hA1) (by decide) ?_
    intro c2 t22 D12 o12 s22 hc2 g12 S22 R22
    replace g12 : Gt D D12 D.nums D.q := by
      have h2 := g1.trans g12; rwa [g1.q, g1.n] at h2
    refine n_add ?_; walk_at "d"; refine r_args0 ?_; dsimp only
    refine r_range1 ⋯ ?_
    intro r t3 t4 t5 s3 S3 hr
    refine ⟨r, 1 + c2, t3, t4, t5, ad, _, D12, rfl, hr, by exact oq542 hc2, ⟨by exact oq543 hc2, by exact oq544 hc2⟩, S3, R22, ⟨hc, hcd⟩, ?_⟩
    intro vs ns b D2 ad2 ob2 s4 hvs hlen hns g2 K2 S4 R4 hb N4
    replace g2 : Gt D D2 D.nums D.q := by
      have h2 := g12.trans g2; rwa [g12.q, g12.n] at h2
    obtain ⟨db, hb⟩ := hb
    obtain ⟨G3, le3, gb, S5⟩ := S4.addG' hb (fun _ _ e => by cases e) N4.k
    have R5 := R4.mono le3
    have hib : IsL (listOf vs.toArray db) vs := ⟨rfl, _, rfl⟩
    have hvl := hvs.length
    walk_at "n"; refine r_assignT (r_tupleE (r_args ?_)); refine r_callB ⋯ ⋯ (b_len _) bb_len ?_; refine r_args ?_; walk_at "l"; refine r_args0 ?_
    refine r_lenG ⋯ gb hib (oq545 hlen hvl) ?_
    intro tl s6 S6
    refine r_args (r_bin (r_listE (r_args ?_))); walk_at "i"; refine r_args0 ?_
    generalize Shared.toks _ = t77
    rename_i s77 S77
    refine x_mklist S77 ?_
    intro b4 G4 s7 le4 gb4 S7
    have R6 := R5.mono le4
    replace gb := le4 _ _ gb
    have hlen' : 1 ≤ ns.length ∧ ns.length ≤ 3 := hlen
    walk_at "l"
    refine r_listAdd ⋯ (gIsL ⋯ gb4) (IsL.at ((St.H ⋯).imm _ _ gb).1 hib) (by simp only [List.length_cons, List.length_nil]; exact oq546 hlen hvl) ?_
    intro b5 s8 S8 hb5 N5
    have N6 := Hold.of (o := lstO ([Value.int 77 t77] ++ vs)) N5
    have S9 := S8.addG hb5 (still_lst _) N5.k
    have R9 := R6.mono N6.le
    clear S8 S7 R5
    refine r_args0 ?_; refine r_tuple ⋯ ?_; intro _ _ _ _ _; refine r_unpack ⋯ (Rm.h ⋯) ⋯ ?_; intro _ _; refine r_inOrder ?_; refine r_asAttr ?_; walk_at "l"
    refine y_loop2 C ⋯ N6.le R6 hu ?_
    intro o10 s10 S10 R10
    have R10' := R10.mono N6.le
    clear R9 R6
    refine r_inOrder ?_; refine r_asAttr ?_; refine r_attrN ?_; walk_at "l"; refine x_wsk ⋯ ⋯ ⋯ ⋯ ?_; intro _ _
    refine nums_ (77 :: ns) C N6 ⋯ R10 hu (.cons ⟨_, rfl⟩ hvs) ?_
    intro D11 ad11 ob11 s11 g11 K11 S11 R11
    clear R10' R10 S10
    refine r_inOrder0 ?_; walk_at "n"; refine r_expr ?_; refine r_callG ⋯ ⋯ (g_do_flippt _) (k_do_flippt _) ?_; refine r_args ?_; walk_at "l"; refine r_args ?_; walk_at "i"; refine r_args0 ?_; walk_at "k"
    refine sp_flippt (base := [77]) (some := ns) C ⋯ R11 hu (Rm.less hA1) (hκ _ (by decide)) g11.n (by simp only [List.length_cons, List.length_nil]; exact oq547 hlen) (by rw [← hvl]; exact g11.l) hns ?_
    rintro s12 ⟨G12, ad12, ob12, le12, K12, S12, R12⟩
    obtain ⟨D12, g12, e12⟩ : ∃ D12, Gt D D12 [77] (up D.q 1 (flips (D.q 1) ns)) ∧ ((D11.sl 1).sn [77]).sq 1 (flips (D11.q 1) ns.reverse) = D12 :=
      ⟨((D11.sl 1).sn [77]).sq 1 (flips (D11.q 1) ns.reverse), ⟨g11.k.trans g2.k, g11.f.trans g2.f, g11.z0.trans g2.z0, g11.z1.trans g2.z1, g11.z2.trans g2.z2, O.l.symm, by show up D11.q 1 _ = _; rw [g11.q, flips_rev, show (D2.sl vs.length).q = D.q from g2.q], rfl⟩, rfl⟩
    rw [e12] at R12
    replace gb := le12 _ _ gb
    have l12 : D12.loop = 1 := g12.l.trans O.l
    have q12 : D12.q 3 = D.q 1 := by rw [g12.q, up_other _ _ (by decide)]; exact O.e1.symm
    walk_at "n"
    let J : Inv := fun i loc' G' ad' ob' => Kn [("axis", .int D.k t), ("state", .ref a.s), ("rows", .ref a.rs)] loc' ∧ (∀ b o, G12 b o → G' b o) ∧ Kp us ad12 ob12 ad' ob' ∧ Rel (D12.sq 3 (flips (D12.q 3) (ns.take i))) a G' ad' ob'
    refine r_forList (L := L1) (B := B) (Z := Z') (s₀ := s) 83 J (hκ _ (by decide)) ?_ (Rm.h hA1) ?_
    · rintro i loc' G' ad' ob' b' o ⟨hl, hg, hk, hR⟩
      refine ⟨hl, hg, fun k u l => ?_, hR.upX (oq548)⟩
      have : k ≠ 83 := fun e => hκ _ (by decide) (e ▸ u)
      rw [up_other _ _ this, up_other _ _ this]
      exact hk k u l
    walk_at "l"
    refine ⟨b, _, vs, _, G12, ad12, ob12, rfl, hib, trivial, gb, ⋯, ⟨⟨rfl, rfl, rfl, trivial⟩, fun _ _ g => g, Kp.refl _ _ _, ?_⟩, ?_, ?_⟩
    · rw [List.take_zero]
      show Rel (D12.sq 3 (D12.q 3)) _ _ _ _
      rw [sq_self]; exact R12
    · rintro i loc' G' ad' ob' v s13 hv ⟨hkn, hg, hk, hR⟩ S13 gl
      have hi : i < ns.length := by rw [← hvl]; exact (List.getElem?_eq_some_iff.mp hv).1
      obtain ⟨x, hx⟩ : ∃ x, ns[i]? = Option.some x := ⟨_, List.getElem?_eq_getElem hi⟩
      obtain ⟨v', hv', tx, rfl⟩ := hvs.get hx
      rw [hv] at hv'; cases hv'
      have hx6 : 0 ≤ x ∧ x < 6 := hns x (List.mem_of_getElem? hx)
      have hnq : 0 ≤ x ∧ x < nq (Int.toNat 1 + 2) := hx6
      have ht : ns.take (i + 1) = ns.take i ++ [x] := by rw [List.take_add_one, hx]; rfl
      have hu' : ∀ k, US k → (us k ∨ k = 83) := fun k u => .inl (hu k u)
      have S14 := S13.sub hkn.sub
      clear S13
      refine r_asName ?_; walk_at "t"; walk_at "c"; refine r_assignS (r_unary (Mine.r_sub (Mine.r_sub (Mine.r_sub ?_)))); walk_at "l"; walk_at "i"; refine x_rs ⋯ ⋯ (by decide) ?_; walk_at "i"; refine x_r3 ⋯ ⋯ (oq549) ?_; walk_at "l"; refine X_n ⋯ ⋯ ⋯ (oq550) ⋯ ?_; refine r_not (r_truthy (Mine.r_sub (Mine.r_sub ?_))); walk_at "l"; walk_at "i"; refine x_rs ⋯ ⋯ (by decide) ?_; walk_at "i"; refine x_r3 ⋯ ⋯ (oq549) ?_; walk_at "l"; refine Y_n ⋯ ⋯ ⋯ (oq550) ⋯ ?_; intro _ _ _ _; walk_at "e"; refine r_nil ?_
      rename_i o15 s15 S15 R15
      simp only [show Int.toNat 1 + 2 = 3 from rfl] at R15
      rw [sq_q, sq_sq, ← flips_snoc, ← ht] at R15
      refine ⟨rfl, _, G', ad', _, S15, gl, ⟨⟨rfl, rfl, rfl, trivial⟩, hg, Kp.up (by decide) hk, R15⟩, rfl, ?_⟩
      exact up_other _ _ (by decide)
    · rintro loc' G' ad' ob' s13 ⟨hkn, hg, hk, hR⟩ S13 gl
      have S14 := S13.sub hkn.sub
      clear S13
      rw [hvl, List.take_length] at hR
      have l13 : (D12.sq 3 (flips (D12.q 3) ns)).loop = 1 := l12
      walk_at "n"; refine r_ret (r_ifexp (r_isCmp (r_attrN ?_))); walk_at "l"; refine x_loop ⋯ ⋯ ⋯ ⋯ ?_; intro _ _ _; walk_at "i"; refine r_eq (r_truthy ?_); refine beq_t ⋯ ?_; refine r_listE (r_args ?_); walk_at "i"; refine r_args0 ?_
      · refine x_mklist ⋯ ?_
        intro b16 G16 s16 le16 gl16 S16
        refine nx_ret ⋯ ?_; clear Nc Qc; refine nx_ret ⋯ ?_; clear Nc Qc; dsimp only
        have g17 : Gt D (D12.sq 3 (flips (D12.q 3) ns)) [77] (tw D.q 1 (flips (D.q 1) ns)) := by
          refine ⟨g12.k, g12.f, g12.z0, g12.z1, g12.z2, g12.l, ?_, g12.n⟩
          show up D12.q 3 (flips (D12.q 3) ns) = _
          rw [q12, g12.q]; rfl
        have bz : ∀ n', In (64 * M) ((flips (D.q 1) ns).c n') := by
          intro n'
          show In (64 * M) ((flips (D.q 1) ns).cur.getD n'.toNat (0, 0))
          rw [c_flips]
          exact (hB 1 (by decide) n').mono (oq59 hM)
        try refine nx_ret ⋯ ?_
        refine k _ _ _ g17.k (O.gt g17 (tw_ok (by decide) O.e0 O.e1).1 (tw_ok (by decide) O.e0 O.e1).2) (Bd.gt g17 (tw_bd (by decide) hB (oq59 hM) bz)) ?_
        refine ⟨G16, ad', ob', b16, _, fun b o g => le16 _ _ (hg _ _ (le12 _ _ (le4 _ _ (le3 _ _ (le1 _ _ g))))), Kp.trans (Kp.trans (Kp.trans (Kp.trans (Kp.trans (by refine Kp.up (oq58) ?_; refine Kp.up (oq58) ?_; exact Kp.refl _ _ _) K2) (Kp.up (by decide) (Kp.refl _ _ _))) K11) K12) hk, back _ _ _ _ _ S16.H S16.S, hR.mono le16, rfl, gl16, ?_⟩
        rw [g17.n]; exact .cons ⟨_, rfl⟩ .nil
  · refine take_ C ⋯ R2 hu (Rm.less hA1) (by decide) ?_
    intro f t3 D3 o3 s3 hf g3 S3 R3
    refine r_args ?_; refine r_callG ⋯ ⋯ (g_law_take _) (k_law_take _) ?_; refine r_args ?_; refine r_cell ⋯ rfl ⋯ ⋯ ?_; refine r_args ?_; walk_at "i"; refine r_args0 ?_; walk_at "k"
    refine take_ C ⋯ R3 hu (Rm.less hA1) (by decide) ?_
    intro l t4 D4 o4 s4 hl g4 S4 R4
    refine r_args (r_bin ?_); walk_at "i"; refine r_callG ⋯ ⋯ (g_law_take _) (k_law_take _) ?_; refine r_args ?_; refine r_cell ⋯ rfl ⋯ ⋯ ?_; refine r_args ?_; walk_at "i"; refine r_args0 ?_; walk_at "k"
    refine take_ C ⋯ R4 hu (Rm.less hA1) (by decide) ?_
    intro r t5 D5 o5 s5 hr g5 S5 R5
    clear R2 R3 R4
    replace g5 : Gt D D5 D.nums D.q := by
      have h2 := g1.trans g3; rw [g1.q, g1.n] at h2
      have h3 := h2.trans g4; rw [h2.q, h2.n] at h3
      have h4 := h3.trans g5; rwa [h3.q, h3.n] at h4
    refine n_add ?_; walk_at "d"; refine r_args0 ?_
    generalize Shared.toks _ = tc
    refine r_tuple ⋯ ?_; intro _ _ _ _ _; refine r_unpackN ⋯ (Rm.h ⋯) ⋯ ?_; intro _ _; refine r_inOrder (r_bindName ?_); walk_at "t"; refine r_inOrder (r_bindName ?_); walk_at "t"; refine r_inOrder (r_bindName ?_); walk_at "t"; refine r_inOrder0 ?_; walk_at "n"; refine r_assignA (r_listE (r_args ?_)); walk_at "l"; refine r_args ?_; walk_at "l"; refine r_args0 ?_
    refine x_hold ⋯ ?_
    intro b6 G6 s6 le6 N6 S6
    have R6 := R5.mono le6
    refine r_attrN ?_; walk_at "l"; refine x_wsk ⋯ ⋯ ⋯ ⋯ ?_; intro _ _
    refine nums_ [f, l] C N6 ⋯ R5 hu (.cons ⟨_, rfl⟩ (.cons ⟨_, rfl⟩ .nil)) ?_
    intro D7 ad7 ob7 s7 g7 K7 S7 R7
    replace g7 := g5.trans g7
    rw [g5.q] at g7
    clear R6 S6
    walk_at "n"; refine r_expr ?_; refine r_callG ⋯ ⋯ (g_do_flip_row _) (k_do_flip_row _) ?_; refine r_args ?_; walk_at "l"; refine r_args ?_; walk_at "l"; refine r_args0 ?_; walk_at "k"
    refine sp_flip_row (lo := f) (hi := l) C ⋯ R7 hu (Rm.less hA1) (hκ _ (by decide)) g7.n hf hl ?_
    rintro s8 ⟨G8, ad8, ob8, le8, K8, S8, R8⟩
    rw [g7.q] at R8
    obtain ⟨D8, g8, e8⟩ : ∃ D8, Gt D D8 [] (up D.q 1 (fill (D.q 1) (129 + r == 129) f (l + 1 - f).toNat)) ∧ (D7.sn []).sq 1 (fill (D.q 1) (129 + r == 129) f (l + 1 - f).toNat) = D8 :=
      ⟨(D7.sn []).sq 1 (fill (D.q 1) (129 + r == 129) f (l + 1 - f).toNat), ⟨g7.k, g7.f, g7.z0, g7.z1, g7.z2, g7.l, by show up D7.q 1 _ = _; rw [g7.q], rfl⟩, rfl⟩
    rw [e8] at R8
    have q8 : D8.q 3 = D.q 1 := by rw [g8.q, up_other _ _ (by decide)]; exact O.e1.symm
    walk_at "n"
    let J : Inv := fun i loc' G' ad' ob' => Kn [("code", .int (129 + r) tc), ("axis", .int D.k t), ("state", .ref a.s), ("rows", .ref a.rs)] loc' ∧ (∀ b o, G8 b o → G' b o) ∧ Kp us ad8 ob8 ad' ob' ∧ Rel (D8.sq 3 (fill (D8.q 3) (129 + r == 129) f i)) a G' ad' ob'
    refine r_forRange (B := B) (Z := Z') (s₀ := s) 83 J (hκ _ (by decide)) ?_ (Rm.h hA1) ?_
    · rintro i loc' G' ad' ob' b' o ⟨hl, hg, hk, hR⟩
      refine ⟨hl, hg, fun k u l => ?_, hR.upX (oq548)⟩
      have : k ≠ 83 := fun e => hκ _ (by decide) (e ▸ u)
      rw [up_other _ _ this, up_other _ _ this]
      exact hk k u l
    refine r_callT ⋯ ⋯ (b_range _) bb_range ?_; refine r_args ?_; walk_at "l"; refine r_args (r_bin ?_); walk_at "l"; walk_at "i"; refine n_add ?_; walk_at "d"; refine r_args0 ?_; dsimp only
    refine r_range2 ⋯ ?_
    intro rr t10 t11 t12 s10 S10 hrr
    refine ⟨rr, f, l + 1, t10, t11, t12, _, G8, ad8, ob8, rfl, hrr, ⟨by exact oq551 hf, by exact oq552 hf, by exact oq553 hl, by exact oq554 hl⟩, S10, ⟨⟨rfl, rfl, rfl, rfl, trivial⟩, fun _ _ g => g, Kp.refl _ _ _, ?_⟩, ?_, ?_⟩
    · show Rel (D8.sq 3 (D8.q 3)) _ _ _ _
      rw [sq_self]; exact R8
    · rintro i loc' G' ad' ob' t13 s13 hi' ⟨hkn, hg, hk, hR⟩ S13
      have S14 := S13.sub (Kn.cons hkn rfl).sub
      clear S13
      have hu' : ∀ k, US k → (us k ∨ k = 83) := fun k u => .inl (hu k u)
      have hnq : 0 ≤ f + (i : Int) ∧ f + (i : Int) < nq (Int.toNat 1 + 2) := by rw [show nq (Int.toNat 1 + 2) = 6 from rfl]; exact oq555 hf hl hi'
      walk_at "c"; refine r_assignS (r_cmp ?_); walk_at "l"; walk_at "i"; refine r_eq (Mine.r_sub (Mine.r_sub ?_)); walk_at "l"; walk_at "i"; refine x_rs ⋯ ⋯ (by decide) ?_; walk_at "i"; refine x_r3 ⋯ ⋯ (oq549) ?_; walk_at "l"; refine Y_n ⋯ ⋯ ⋯ (oq550) ⋯ ?_; intro _ _ _ _; walk_at "e"; refine r_nil ?_
      rename_i o15 s15 S15 R15
      simp only [show Int.toNat 1 + 2 = 3 from rfl] at R15
      rw [sq_q, sq_sq] at R15
      refine ⟨rfl, _, G', ad', _, S15, ⟨⟨rfl, rfl, rfl, rfl, trivial⟩, hg, Kp.up (by decide) hk, R15⟩, rfl, ?_⟩
      exact up_other _ _ (by decide)
    · rintro loc' G' ad' ob' s13 ⟨hkn, hg, hk, hR⟩ S13
      have S14 := S13.sub hkn.sub
      clear S13
      walk_at "n"; refine r_ret (r_listE (r_args0 ?_))
      refine x_mklist ⋯ ?_
      intro b16 G16 s16 le16 gl16 S16
      refine nx_ret ⋯ ?_; clear Nc Qc; dsimp only
      have g17 : Gt D (D8.sq 3 (fill (D8.q 3) (129 + r == 129) f (l + 1 - f).toNat)) [] (tw D.q 1 (fill (D.q 1) (129 + r == 129) f (l + 1 - f).toNat)) := by
        refine ⟨g8.k, g8.f, g8.z0, g8.z1, g8.z2, g8.l, ?_, g8.n⟩
        show up D8.q 3 _ = _
        rw [q8, g8.q]; rfl
      have bz : ∀ n', In (64 * M) ((fill (D.q 1) (129 + r == 129) f (l + 1 - f).toNat).c n') := by
        intro n'
        show In (64 * M) ((fill (D.q 1) (129 + r == 129) f (l + 1 - f).toNat).cur.getD n'.toNat (0, 0))
        rw [c_fill]
        exact (hB 1 (by decide) n').mono (oq59 hM)
      try refine nx_ret ⋯ ?_
      refine k _ _ _ g17.k (O.gt g17 (tw_ok (by decide) O.e0 O.e1).1 (tw_ok (by decide) O.e0 O.e1).2) (Bd.gt g17 (tw_bd (by decide) hB (oq59 hM) bz)) ?_
      refine ⟨G16, ad', ob', b16, [], fun b o g => le16 _ _ (hg _ _ (le8 _ _ (le1 _ _ g))), Kp.trans (Kp.trans (Kp.trans (by refine Kp.up (oq58) ?_; refine Kp.up (oq58) ?_; refine Kp.up (oq58) ?_; refine Kp.up (oq58) ?_; exact Kp.refl _ _ _) K7) K8) hk, back _ _ _ _ _ S16.H S16.S, hR.mono le16, rfl, gl16, ?_⟩
      rw [g17.n]; exact .nil
end
theorem f192 (w : World) : ∃ nm q N bs sn sub ab col dd k0 k1 k2 k3 k5, (KK w).lookup 192 = some (excClassObj nm q 192 N bs [.ref 179, .type "Exception", .type "BaseException", .type "object"] true sn sub ab col dd k0 k1 k2 k3 k5 "Exception.__new__") :=
  ⟨_, _, _, _, _, _, _, _, _, _, _, _, _, _, rfl⟩
theorem i192 (w : World) : findIn (KK w) (.ref 192) "__init__" = some (some (.ref 176)) := by kernel_rfl
theorem s192 (w : World) : findIn (KK w) (.ref 192) "__setattr__" = some (some (.builtin "object.__setattr__")) := by kernel_rfl
theorem t192 (w : World) : takerIn (KK w) 192 "message" = some none := by kernel_rfl
theorem t176 (w : World) : typeIn (KK w) (.ref 176) = some (.type "function") := by kernel_rfl
noncomputable abbrev excO (t : Addr) (dd : Option Addr) : Obj := { cls := .ref 192, dict := dd, data := .fields #[.ref t, .none, .none, .none, .bool false, .none] }
section
variable {R : Result → Shared → Prop} {h : Heap} {g : Array GenState} {d : PySem.Drawn} {t : Nat} {os : OsState} {M : Model}
theorem exc_check (X : (KK w).In h) {rest : List Value} {Q : Unit → Shared → Prop} (hq : Q () ⟨h, g, d, t, os⟩) :
    wpAny M A (checkBuiltinCall "Exception.__new__" ⟨.ref 192 :: rest, []⟩) Q E ⟨h, g, d, t, os⟩ := by
  obtain ⟨nm, q, N, bs, sn, sub, ab, col, dd, k0, k1, k2, k3, k5, e⟩ := f192 w
  have hC := X _ _ e
  have F := PySem.F.excBase_Exception
  have hstar := F.noStar
  have hc : ([Value.ref 192, .ref 179, .type "Exception", .type "BaseException", .type "object"]).contains (.type "Exception") = true := by decide +kernel
  simp only [checkBuiltinCall, F.newKind, F.newSplit, F.newRow]
  repeat (first | refine wpAny_loadPart_at hC ?_ | (refine wpAny_isSubtype_exc hC ?_; rw [hc]) | refine wpAny_staticBase_exc hC ?_ | refine wpAny_madeBy_exc hC ?_ | simp only [bne_self_eq_false, Bool.false_eq_true, if_false] | wp_step)
  exact hq
theorem exc_new (X : (KK w).In h) {rest : List Value} (hrest : rest.length ≤ sizeLine)
    (hq : R (.ok (.ret (.ref (h.objs.size + 1)))) ⟨(h.push (tupO rest)).push (excO h.objs.size none), g, d, t, os⟩) :
    codeAny (model pw w) A (.builtin "Exception.__new__" ⟨.ref 192 :: rest, []⟩) R ⟨h, g, d, t, os⟩ := by
  obtain ⟨nm, q, N, bs, sn, sub, ab, col, dd, k0, k1, k2, k3, k5, e⟩ := f192 w
  have hC := X _ _ e
  have F := PySem.F.excBase_Exception
  have hends := F.ends
  have hcB : ([Value.ref 192, .ref 179, .type "Exception", .type "BaseException", .type "object"]).contains (.type "Exception") = true := by decide +kernel
  have hcA : ([Value.ref 192, .ref 179, .type "Exception", .type "BaseException", .type "object"]).contains (.type "AttributeError") = false := by decide +kernel
  have hcN : ([Value.ref 192, .ref 179, .type "Exception", .type "BaseException", .type "object"]).contains (.type "NameError") = false := by decide +kernel
  refine codeAny_builtinAt F.entry ?_
  unfold Builtin.«BaseException.__new__»
  refine PySem.wpAt_bind ?_
  show PySem.wpAt _ _ _ (stack >>= _) _ _ _
  refine PySem.wpAt_bind (PySem.wpAt_stack fun p below => PySem.wpAt_of_wpAny ?_)
  wp_walk
  refine PySem.wpAt_of_wpAny ?_
  rw [F.owner]
  repeat (first | with_reducible refine wpAny_madeHere_exc F.canon hC ?_ | with_reducible refine wpAny_loadPart_at hC ?_ | (with_reducible refine wpAny_isSubtype_exc hC ?_; first | rw [hcB] | rw [hcA] | rw [hcN]) | wp_step)
  show R _ _
  rw [Heap.size_push]
  exact hq
theorem Rm.under {A : Around} {n : Nat} {c : Addr} {rest : List Value} {kw : List (Str × Value)} (h : Rm A (n + 1)) : Rm (A.under (.builtin "type.__call__" ⟨.ref c :: rest, kw⟩)) n := by
  obtain ⟨h1, h2, h3⟩ := h
  have e1 : (Code.builtin "type.__call__" ⟨.ref c :: rest, kw⟩).weight = 1 := by kernel_rfl
  have e2 : (Code.builtin "type.__call__" ⟨.ref c :: rest, kw⟩).cUnits = 1 := by kernel_rfl
  refine ⟨?_, ?_, h3⟩
  · show A.depth + (Code.builtin "type.__call__" ⟨.ref c :: rest, kw⟩).weight + n + 2 < _; exact oq109 h1 e1
  · show A.units + (Code.builtin "type.__call__" ⟨.ref c :: rest, kw⟩).cUnits + 10 * n + 40 < _; exact oq110 h2 e2
theorem exc_make (X : (KK w).In h) {rest : List Value} (hrest : rest.length ≤ sizeLine)
    (hq : codeAny (model pw w) (A.under (.builtin "type.__call__" ⟨.ref 192 :: rest, []⟩)) (.call (.ref 176) ⟨.ref (h.objs.size + 1) :: rest, []⟩) (InitBack (h.objs.size + 1) R) ⟨(h.push (tupO rest)).push (excO h.objs.size none), g, d, t, os⟩) :
    codeAny (model pw w) A (.call (.ref 192) ⟨rest, []⟩) R ⟨h, g, d, t, os⟩ := by
  obtain ⟨nm, q, N, bs, sn, sub, ab, col, dd, k0, k1, k2, k3, k5, e⟩ := f192 w
  have hC := X _ _ e
  have F := PySem.F.excBase_Exception
  have f1 := tc_lookup
  have f2 := tc_bind (.ref 192)
  have hT : (⟨h, g, d, t, os⟩ : Shared).TypeIs (.ref 192) "type" := ⟨_, hC, rfl⟩
  refine codeAny_of_tree ?_
  show wpAny _ _ (callAny (.ref 192) _) _ _ _
  repeat (any_goals (first | assumption | with_reducible refine wpAny_loadPart_at hC ?_ | wp_step))
  refine ⟨rfl, ?_⟩
  refine codeAny_call_builtin_at (Code.quiet_builtin _ (by decide +kernel)) entry_typeCall (wpAny_check_type_call_sub hC ?_)
  repeat (first | with_reducible refine wpAny_loadPart_at hC ?_ | with_reducible refine wpAny_madeBy_exc hC ?_ | wp_step)
  refine codeAny_call_builtin_code (Code.quiet_builtin _ F.quiet) (exc_check X ?_)
  refine exc_new (rest := rest) X hrest ?_
  show wpAny _ _ _ _ _ _
  have k : ∀ b o, h.get? b = some o → ((h.push (tupO rest)).push (excO h.objs.size none)).get? b = some o := fun b o e => Heap.get?_push_of_some _ (Heap.get?_push_of_some _ e)
  have hC₁ := k _ _ hC
  have X₁ := X.keeps k
  have hget : ((h.push (tupO rest)).push (excO h.objs.size none)).get? (h.objs.size + 1) = some { cls := .ref 192, data := .fields #[.ref h.objs.size, .none, .none, .none, .bool false, .none] } := by heap_get
  have hcC : ([Value.ref 192, .ref 179, .type "Exception", .type "BaseException", .type "object"]).contains (.ref 192) = true := by decide +kernel
  unfold isInstance
  repeat (first | with_reducible refine wpAny_loadPart_at hget ?_ | (with_reducible refine wpAny_isSubtype_exc hC₁ ?_; rw [hcC]) | wp_step)
  show wpAny _ _ (typeLookup (.ref 192) _) _ _ _
  refine (looks_findIn X₁ (i192 w)).at ?_
  refine wpAny_holding (wpAny_bind ((bind_fn X₁ _ (t176 w)).at ?_))
  refine wpAny_bind (wpAny_call (codeAny_mono hq fun r s' z => ?_))
  rcases r with e | (v | _ | _ | _) <;> first | exact z | exact z.elim | skip
  obtain ⟨rfl, z⟩ := z
  exact wpAny_pure (wpAny_pure z)
open Builtin Builtin.ObjectAttr Builtin.Getset_descriptor in
theorem osa_exc {s : Shared} {x : Addr} {tu : Addr} {tk : Tok} {v : Value} (X : (KK w).In s.heap) (hx : s.heap.get? x = some (excO tu none))
    (hq : ∀ h' tk', (∀ b o, b ≠ x → s.heap.get? b = some o → h'.get? b = some o) → h'.get? x = some (excO tu (some s.heap.objs.size)) → s.heap.objs.size ≤ h'.objs.size → R (.ok (.ret .none)) { s with heap := h', toks := tk' }) :
    codeAny (model pw w) A (.call (.builtin "object.__setattr__") ⟨[.ref x, .str "message" tk, v], []⟩) R s := by
  have SF := PySem.F.store_object
  have hm : ∃ cd, clsIn (KK w) 192 = some cd ∧ cd.mro = [.ref 192, .ref 179, .type "Exception", .type "BaseException", .type "object"] ∧ cd.hasDict = true := ⟨_, rfl, rfl, rfl⟩
  obtain ⟨cd, hc, ho, hd'⟩ := hm
  have ne : cd.mro.isEmpty = false := by rw [ho]; rfl
  have I : W.InstAt s.heap x (excO tu none) 192 none := ⟨hx, rfl, rfl, trivial⟩
  have sub : Looks (model pw w) s.heap (isInstance (.ref x) (.type "object")) true := I.type.andThen (looks_mroIn X (by unfold mroIn; rw [hc, Option.bind_some, if_neg (by rw [ne]; decide), ho]; rfl))
  refine codeAny_call_builtin SF.slot.plain SF.entry (@check_slot (model pw w) _ _ s "object.__setattr__" "object" "__setattr__" (.ref x) [.str "message" tk, v] [] _ SF.kind SF.split sub (SF.args (.ref x) (.str "message" tk) v) ?_)
  obtain ⟨attr, ha, hr⟩ := Option.bind_eq_some_iff.mp (t192 w)
  have hmr : Looks (model pw w) s.heap (mroOf (.ref 192)) cd.mro := (looks_clsIn X hc).andThen .now
  have L3 : Looks (model pw w) s.heap (storeTaker? attr) none := by
    cases attr with
    | none => exact .now
    | some a =>
      obtain ⟨b, hb, e⟩ := Option.map_eq_some_iff.mp hr
      cases b with
      | true => cases e
      | false => exact (looks_takesIn X hb).andThen .now
  rw [osa_eq, refuse_eq]
  refine wpAny_bind (wpAny_bind (I.type.here (wpAny_bind (hmr.here ?_))))
  rw [ho, refuseLoop_ref, refuseLoop_ref, PySem.F.store_Exception.passes]
  refine wpAny_pure (wpAny_bind (I.type.here (wpAny_bind ((looks_findIn X ha).here (wpAny_bind (L3.here ?_))))))
  refine wpAny_bind (wpAny_pure (wpAny_bind (wpAny_bind (wpAny_loadPart hx (wpAny_bind ((looks_clsIn X hc).here ?_))))))
  rw [hd']
  show wpAny _ _ (alloc emptyDict >>= fun d => update x (fun o => { cls := o.cls, dict := some d, data := o.data, slots := o.slots }) >>= fun _ => dictMade (.ref 192) x d) _ _ _
  have hxs : x ≠ s.heap.objs.size := Nat.ne_of_lt (Heap.lt_size hx)
  have hx₁ : (s.heap.push emptyDict).get? x = some (excO tu none) := Heap.get?_push_of_some _ hx
  refine wpAny_bind (wpAny_alloc ?_)
  refine wpAny_bind (wpAny_update hx₁ ?_)
  show wpAny _ _ (pure (some s.heap.objs.size)) _ _ _
  refine wpAny_pure ?_
  have hgd : ((s.heap.push emptyDict).update x fun o => { cls := o.cls, dict := some s.heap.objs.size, data := o.data, slots := o.slots }).get? s.heap.objs.size = some emptyDict :=
    (Heap.get?_update_other _ _ hxs).trans (Heap.get?_push_size _ rfl)
  have hxx : ((s.heap.push emptyDict).update x fun o => { cls := o.cls, dict := some s.heap.objs.size, data := o.data, slots := o.slots }).get? x = some (excO tu (some s.heap.objs.size)) :=
    Heap.get?_update_self _ hx₁ rfl
  have hnd : ((s.heap.push emptyDict).update x fun o => { cls := o.cls, dict := some s.heap.objs.size, data := o.data, slots := o.slots }).Ns s.heap.objs.size (fun _ => none) :=
    ⟨_, #[], _, hgd, rfl, fun e he => absurd he (by simp), fun _ => rfl⟩
  show wpAny _ _ (storeInDict s.heap.objs.size (.str "message" tk) "message" v) _ _ _
  unfold storeInDict newKeyGuard
  refine wpAny_bind (wpAny_pure (wpAny_bind (wpAny_nsSet1 (Heap.Ns1.of_empty hnd) fun h' hn' hs => ?_)))
  obtain ⟨oD, esD, epD, hoD, hdD, hcD⟩ := hn'.count (Within.cons "message" v Within.nil)
  refine wpAny_bind (wpAny_lookBehind hoD (by rw [hdD]; exact pastItsLine_dict (Nat.le_trans hcD (by rw [List.length_cons, List.length_nil, sizeLine_eq]; exact oq111))) ?_)
  refine wpAny_pure (hq h' _ (fun b o hb e => ?_) ?_ ?_)
  · exact (hs.2 b (Nat.ne_of_lt (Heap.lt_size e))).trans ((Heap.get?_update_other _ _ (Ne.symm hb)).trans (Heap.get?_push_of_some _ e))
  · exact (hs.2 x hxs).trans hxx
  · rw [hs.1, Heap.size_update, Heap.size_push]; exact Nat.le_succ _
theorem set_exc {s : Shared} {x : Addr} {tu : Addr} {v : Value} {Q : Unit → Shared → Prop} (X : (KK w).In s.heap) (hx : s.heap.get? x = some (excO tu none))
    (hq : ∀ h' tk', (∀ b o, b ≠ x → s.heap.get? b = some o → h'.get? b = some o) → h'.get? x = some (excO tu (some s.heap.objs.size)) → s.heap.objs.size ≤ h'.objs.size → Q () { s with heap := h', toks := tk' }) :
    wpAny (model pw w) A (setAttr (.ref x) "message" v) Q E s :=
  set_plain (od := none) X ⟨hx, rfl, rfl, trivial⟩ (s192 w) (osa_exc (s := { s with toks := s.toks + 1 }) X hx hq)
theorem raise_exc {s : Shared} {env : Env} {x : Expr} {pos : Pos} {Q : Flow → Shared → Prop} (hh : A.handled = none)
    (h : wpAny (model pw w) A (eval x env) (fun v s₁ => ∃ e tu dx, v = .ref e ∧ (KK w).In s₁.heap ∧ s₁.heap.get? e = some (excO tu dx) ∧ E (.ref e) s₁) E s) :
    wpAny (model pw w) A (exec (.Raise (some x) none pos) env) Q E s := by
  have hcB : ([Value.ref 192, .ref 179, .type "Exception", .type "BaseException", .type "object"]).contains (.type "BaseException") = true := by decide +kernel
  rw [arm_exec_Raise]
  show wpAny _ _ (do standAt pos; raiseStmt env (some (do let v ← eval x env; standAt pos; pure v)) none) Q E s
  refine wpAny_bind (wpAny_standAt ?_)
  unfold raiseStmt
  refine wpAny_bind (wpAny_bind (wpAny_mono h (fun v s₁ h₁ => wpAny_bind (wpAny_standAt (wpAny_pure ?_))) fun _ _ x => x))
  obtain ⟨e, tu, dx, rfl, X, he, hE⟩ := h₁
  obtain ⟨nm, q, N, bs, sn, sub, ab, col, dd, k0, k1, k2, k3, k5, e'⟩ := f192 w
  have hC := X _ _ e'
  obtain ⟨hp, g, d, tk, os⟩ := s₁
  repeat (first | with_reducible refine wpAny_loadPart_at he ?_ | with_reducible refine wpAny_loadPart_at hC ?_ | (with_reducible refine wpAny_isSubtype_exc hC ?_; rw [hcB]) | wp_step)
  exact wpAny_raiseNew_none hh hE
end
section
variable {ad : Nat → Addr} {ob : Nat → Obj}
theorem St.hpZ (S : St B L loc Z G ad ob us s₀ s) : Hp B (Zp us ad s) G ad ob us s.heap := by
  obtain ⟨m, F, hm⟩ := S.F
  exact ⟨S.H.bs, fun a o e => ⟨F.keep a o e, fun k u q => (S.H.dis k u).1 o (q ▸ S.H.bz a o e)⟩, fun a o z => z.1, S.H.imm, S.H.own, fun k u => ⟨fun o z => z.2 k u rfl, (S.H.dis k u).2⟩, S.H.inj⟩
theorem St.zZ (S : St B L loc Z G ad ob us s₀ s) : ∀ a o, Z a o → Zp us ad s a o := fun a o z => ⟨S.H.sil a o z, fun k u q => (S.H.dis k u).1 o (q ▸ z)⟩
theorem St.zL (S : St B L loc Z G ad ob us s₀ s) : ∃ o, Zp us ad s L o ∧ ∀ vs, o.data ≠ .fields vs := by
  obtain ⟨m, F, hm⟩ := S.F
  obtain ⟨oL, es, ep, hL, hd, r⟩ := F.ns
  exact ⟨oL, ⟨hL, S.na⟩, fun vs e => by rw [hd] at e; cases e⟩
theorem St.backZ (S : St B L loc Z G ad ob us s₀ s) {G' : Addr → Obj → Prop} {ad' : Nat → Addr} {ob' : Nat → Obj} {us' : Nat → Prop} {s' : Shared} (H' : Hp B (Zp us ad s) G' ad' ob' us' s'.heap) (hs : Same s s') : St B L loc Z G' ad' ob' us' s₀ s' := by
  obtain ⟨m, F, hm⟩ := S.F
  obtain ⟨oL, es, ep, hL, r⟩ := F.ns
  have hL' : s'.heap.get? L = some oL := H'.sil L oL ⟨hL, S.na⟩
  have keep : ∀ b o, Z b o → s'.heap.get? b = some o := fun b o z => H'.sil b o (S.zZ b o z)
  exact ⟨⟨m, ⟨⟨oL, es, ep, hL', r⟩, fun b o e => keep b o (S.H.bz b o e), F.above⟩, hm⟩, ⟨H'.bs, S.H.bz, keep, H'.imm, H'.own, fun k u => ⟨fun o z => (H'.dis k u).1 o (S.zZ _ _ z), (H'.dis k u).2⟩, H'.inj⟩, S.nz, fun k u q => (H'.dis k u).1 oL (q ▸ ⟨hL, S.na⟩), S.S.trans hs⟩
theorem St.turnE (S : St B L loc Z G ad ob us s₀ s) {k : Nat} (u : us k) {o : Obj} (e : ∀ b o, b ≠ ad k → s.heap.get? b = some o → h'.get? b = some o) (ho : h'.get? (ad k) = some o) (l : s.heap.objs.size ≤ h'.objs.size) (n : Nat) :
    St B L loc Z G ad (up ob k o) us s₀ { s with heap := h', toks := n } := by
  obtain ⟨m, ⟨⟨oL, es, ep, hL, r⟩, keep, above⟩, hm⟩ := S.F
  have hL' := e L oL (Ne.symm (S.na k u)) hL
  have kz : ∀ a o, Z a o → h'.get? a = some o := fun a o z => e a o (fun q => (S.H.dis k u).1 o (q ▸ z)) (S.H.sil a o z)
  refine ⟨⟨m, ⟨⟨oL, es, ep, hL', r⟩, fun b o q => kz b o (S.H.bz b o q), above⟩, hm⟩,
    ⟨Nat.le_trans S.H.bs l, S.H.bz, kz, fun a o g => ⟨e a o (fun q => (S.H.dis k u).2 o (q ▸ g)) (S.H.imm a o g).1, (S.H.imm a o g).2⟩, fun j uj => ?_, S.H.dis, S.H.inj⟩, S.nz, S.na, S.S⟩
  by_cases q : j = k
  · subst q
    rw [up_same]; exact ho
  · rw [up_other _ _ q]
    exact e _ _ (fun z => q (S.H.inj j k uj u z)) (S.H.own j uj)
theorem Hp.get {G₀ : Addr → Obj → Prop} {ad' : Nat → Addr} {ob' : Nat → Obj} {us' : Nat → Prop} (H : Hp B (Zp us ad s) G ad' ob' us' h') (S : St B L loc Z G₀ ad ob us s₀ s) (hk : ∀ k, us k → us' k ∧ ad' k = ad k ∧ ob' k = ob k) : ∀ b o, s.heap.get? b = some o → h'.get? b = some o := by
  intro b o e
  by_cases q : ∃ k, us k ∧ ad k = b
  · obtain ⟨k, u, rfl⟩ := q
    obtain ⟨u', e1, e2⟩ := hk k u
    have h1 := H.own k u'
    rw [e1, e2] at h1
    have h2 := S.H.own k u
    rw [e] at h2
    exact h1.trans h2.symm
  · exact H.sil b o ⟨e, fun k u z => q ⟨k, u, z⟩⟩
theorem r_fault {msg : Value} (C : Cx w B) (S : St B L loc Z G ad ob us s₀ s) (hA : Rm A 2) (h91 : ¬ us 91)
    (k : ∀ e t dx s', (∀ b o, s.heap.get? b = some o → s'.heap.get? b = some o) → s.heap.get? e = none → s'.heap.get? e = some (excO t dx) → Same s s' → Q (.ref e) s') : WP pw w A (call (.ref 192) [msg]) Q E s := by
  have H' := S.hpZ
  refine .of (wpAny_call (exc_make (S.K C) (Nat.le_of_ble_eq_true rfl) ?_))
  have k1 : ∀ b o, s.heap.get? b = some o → ((s.heap.push (tupO [msg])).push (excO s.heap.objs.size none)).get? b = some o := fun b o e => Heap.get?_push_of_some _ (Heap.get?_push_of_some _ e)
  have hget : ((s.heap.push (tupO [msg])).push (excO s.heap.objs.size none)).get? (s.heap.objs.size + 1) = some (excO s.heap.objs.size none) := by
    have := Heap.get?_push_size (o := excO s.heap.objs.size none) (s.heap.push (tupO [msg])) rfl
    rwa [Heap.size_push] at this
  have hnone : s.heap.get? (s.heap.objs.size + 1) = none := Heap.get?_none_of_le (Nat.le_succ _)
  have no : ∀ o, s.heap.get? (s.heap.objs.size + 1) ≠ some o := fun o e => by rw [hnone] at e; cases e
  have H2 : Hp B (Zp us ad s) G (up ad 91 (s.heap.objs.size + 1)) (up ob 91 (excO s.heap.objs.size none)) (fun j => us j ∨ j = 91) ((s.heap.push (tupO [msg])).push (excO s.heap.objs.size none)) :=
    (H'.ext k1 (by rw [Heap.size_push, Heap.size_push]; exact oq112)).key hget (fun p z => no p z.1) (fun p g => no p (S.H.imm _ p g).1) fun j u q => no _ (q ▸ S.H.own j u)
  refine r_enterE [("self", .ref (s.heap.objs.size + 1)), ("message", msg)] C H2 (Rm.under hA).d rfl rfl (BindsTo.of_eq rfl) (locs rfl) ?_
  intro L1 s1 S1
  refine WP.mono (Q := fun fl s' => (match fl with | .ret v => v | _ => .none) = .none ∧ (∀ b o, s.heap.get? b = some o → s'.heap.get? b = some o) ∧ (∃ dx, s'.heap.get? (s.heap.objs.size + 1) = some (excO s.heap.objs.size dx)) ∧ Same s s') (E := fun _ _ => False) ?_ ?_ fun _ _ x => x.elim
  · walk_at "c"; refine r_assignA ?_; walk_at "l"; walk_at "l"
    refine .of (set_exc (St.K ⋯ C) (tu := s.heap.objs.size) ?_ ?_)
    · have := (St.H S1).own 91 (.inr rfl)
      rw [up_same, up_same] at this
      exact this
    · intro h' tk' e1 e2 e3
      have ea : up ad 91 (s.heap.objs.size + 1) 91 = s.heap.objs.size + 1 := up_same ..
      have S2 := S1.turnE (k := 91) (.inr rfl) (by rw [ea]; exact e1) (by rw [ea]; exact e2) e3 tk'
      walk_at "e"; refine r_nil ?_; dsimp only
      refine ⟨rfl, S2.H.get S fun k u => ?_, ⟨_, e2⟩, S2.S⟩
      have : k ≠ 91 := fun q => h91 (q ▸ u)
      exact ⟨.inl u, up_other _ _ this, by rw [up_other _ _ this, up_other _ _ this]⟩
  · rintro fl s' ⟨e, h1, ⟨dx, h2⟩, h3⟩
    exact ⟨e, k _ _ dx s' h1 hnone h2 h3⟩
end
noncomputable def frs (l : List Env) : List Addr := l.filterMap (·.frame)
noncomputable def FZ (l : List Env) (Z : Addr → Obj → Prop) (us : Nat → Prop) (ad : Nat → Addr) (ob : Nat → Obj) : Prop :=
  ∀ env ∈ l, env.scope.kind ≠ .module ∧ ∃ L, env.frame = some L ∧ ((∃ o, Z L o ∧ ∀ vs, o.data ≠ .fields vs) ∨ (∃ k, us k ∧ 80 ≤ k ∧ ad k = L ∧ ∀ vs, (ob k).data ≠ .fields vs))
noncomputable def FH (l : List Env) (h : Heap) : Prop := ∀ env ∈ l, env.scope.kind ≠ .module ∧ ∃ L o, env.frame = some L ∧ h.get? L = some o ∧ ∀ vs, o.data ≠ .fields vs
inductive Fly (X : List Addr) (l : List Env) (e : Value) (h1 h' : Heap) : Prop
  | mk (e' : Addr) (Bx : Heap) (a0 : Value) (q : e = .ref e') (f : Heap.FlyingW Bx l e' (.ref 192) a0 h') (k : ∀ b o, h1.get? b = some o → b ∉ X → Bx.get? b = some o) (u : h1.UpToSlots h')
inductive Err (B : Heap) (L : Addr) (loc : List (Str × Value)) (Z : Addr → Obj → Prop) (us : Nat → Prop) (s₀ : Shared) (a : Adr) (G : Addr → Obj → Prop) (ad : Nat → Addr) (ob : Nat → Obj) (l : List Env) (P : Dt → Prop) (e : Value) (s' : Shared) : Prop
  | mk (X : List Addr) (G' : Addr → Obj → Prop) (ad' : Nat → Addr) (ob' : Nat → Obj) (D' : Dt) (s1 : Shared) (h1 : ∀ b o, G b o → G' b o) (h2 : Kp us ad ob ad' ob') (h3 : St B L loc Z G' ad' ob' us s₀ s1) (h4 : Rel D' a G' ad' ob') (h5 : P D') (h6 : Fly X l e s1.heap s'.heap) (h7 : Same s1 s')
    (h8 : ∀ b ∈ X, b ∈ frs l ∨ ((∀ o, ¬ Z b o) ∧ (∀ o, ¬ G' b o) ∧ ∀ k, us k → ad' k ≠ b))
theorem mem_frs {l : List Env} {env : Env} {L : Addr} (h : env ∈ l) (e : env.frame = some L) : L ∈ frs l := List.mem_filterMap.mpr ⟨env, h, e⟩
theorem frs_cons {l : List Env} {env : Env} {L b : Addr} (e : env.frame = some L) (h : b ∈ frs (env :: l)) : b = L ∨ b ∈ frs l := by
  unfold frs at h
  rw [List.filterMap_cons, e] at h
  exact List.mem_cons.mp h
theorem FH.frames {h h2 base : Heap} : ∀ {l : List Env}, FH l h → (∀ b o, h.get? b = some o → h2.get? b = some o) → (∀ b ∈ frs l, base.get? b = none) → h2.FunFrames base l
  | [], _, _, _ => trivial
  | env :: l, F, k, hb => by
    obtain ⟨h1, L, o, h2', h3, h4⟩ := F env (.head _)
    exact ⟨h1, ⟨L, o, h2', hb L (mem_frs (.head _) h2'), k _ _ h3, h4⟩, FH.frames (fun e he => F e (.tail _ he)) k fun b hb' => hb b (by
      obtain ⟨e, he, q⟩ := List.mem_filterMap.mp hb'
      exact mem_frs (.tail _ he) q)⟩
section
variable {ad : Nat → Addr} {ob : Nat → Obj} {h : Heap} {l : List Env} {a : Adr}
theorem FZ.at (F : FZ l Z us ad ob) (H : Hp B Z G ad ob us h) : FH l h := by
  intro env he
  obtain ⟨h1, L, h2, h3⟩ := F env he
  refine ⟨h1, L, ?_⟩
  rcases h3 with ⟨o, z, n⟩ | ⟨k, u, _, rfl, n⟩
  · exact ⟨o, h2, H.sil _ _ z, n⟩
  · exact ⟨ob k, h2, H.own k u, n⟩
theorem FZ.mono {Z' : Addr → Obj → Prop} (F : FZ l Z us ad ob) (z : ∀ b o, Z b o → Z' b o) (K : Kp us ad ob ad1 ob1) : FZ l Z' us ad1 ob1 := by
  intro env he
  obtain ⟨h1, L, h2, h3⟩ := F env he
  refine ⟨h1, L, h2, ?_⟩
  rcases h3 with ⟨o, z', n⟩ | ⟨k, u, k8, rfl, n⟩
  · exact .inl ⟨o, z _ _ z', n⟩
  · exact .inr ⟨k, u, k8, (K k u k8).1, by rw [(K k u k8).2]; exact n⟩
theorem FZ.push (F : FZ l Z us ad ob) (S : St B L loc Z G ad ob us s₀ s) (h0 : env0.frame = some L) (hk : env0.scope.kind ≠ .module) : FZ (env0 :: l) (Zp us ad s) us ad ob := by
  intro env he
  cases he with
  | head =>
    obtain ⟨o, z, n⟩ := S.zL
    exact ⟨hk, L, h0, .inl ⟨o, z, n⟩⟩
  | tail _ he => exact (F.mono S.zZ (Kp.refl _ _ _)) env he
theorem Err.mono {P' : Dt → Prop} (h : Err B L loc Z us s₀ a G ad ob l P e s') (hP : ∀ D, P D → P' D) : Err B L loc Z us s₀ a G ad ob l P' e s' := by
  obtain ⟨X, G', ad', ob', D', s1, h1, h2, h3, h4, h5, h6, h7, h8⟩ := h
  exact ⟨X, G', ad', ob', D', s1, h1, h2, h3, h4, hP _ h5, h6, h7, h8⟩
theorem Err.from (h : Err B L loc Z us s₀ a G1 ad1 ob1 l P e s') (le : ∀ b o, G b o → G1 b o) (K : Kp us ad ob ad1 ob1) : Err B L loc Z us s₀ a G ad ob l P e s' := by
  obtain ⟨X, G', ad', ob', D', s1, h1, h2, h3, h4, h5, h6, h7, h8⟩ := h
  exact ⟨X, G', ad', ob', D', s1, fun b o g => h1 _ _ (le _ _ g), Kp.trans K h2, h3, h4, h5, h6, h7, h8⟩
theorem leave_on {M : Model} {E' : Value → Shared → Prop} (S : St B L loc Z G ad ob us s₀ s) (hE : Err B L1 loc1 (Zp us ad s) us s a G ad ob (env1 :: l) P e s') (hf : A.frames = some l) (h1 : env1.frame = some L1)
    (h : ∀ s'', Err B L loc Z us s₀ a G ad ob l P e s'' → E e s'') : wpAny M (A.deeper env1) (leaving env1 e) (fun _ s'' => E e s'') E' s' := by
  obtain ⟨X, G', ad', ob', D', s1, g1, g2, S1, R1, p, ⟨e', Bx, a0, rfl, fl, kb, ups⟩, sm, hX⟩ := hE
  refine wpAny_leaves_onW (Around.frames_deeper hf) h1 fl fun h' fl' ups' => h _ ?_
  refine ⟨X, G', ad', ob', D', s1, g1, g2, S.backZ S1.H S1.S, R1, p, ⟨e', Bx, a0, rfl, fl', kb, ups.trans ups'⟩, sm, fun b hb => ?_⟩
  rcases hX b hb with q | ⟨q1, q2, q3⟩
  · rcases frs_cons h1 q with rfl | q
    · exact .inr ⟨fun o z => S1.nz o (S.zZ _ _ z), S1.ng, S1.na⟩
    · exact .inl q
  · exact .inr ⟨fun o z => q1 o (S.zZ _ _ z), q2, q3⟩
theorem leave_first {M : Model} {E' : Value → Shared → Prop} {x t : Addr} {dx : Option Addr} (S : St B L loc Z G ad ob us s₀ s) (S1 : St B L1 loc1 (Zp us ad s) G1 ad1 ob1 us s s1) (R1 : Rel D1 a G1 ad1 ob1) (le : ∀ b o, G b o → G1 b o) (K : Kp us ad ob ad1 ob1) (p : P D1)
    (F0 : FZ l (Zp us ad s) us ad1 ob1) (hf : A.frames = some l) (h1 : env1.frame = some L1) (hk1 : env1.scope.kind ≠ .module) (keep : ∀ b o, s1.heap.get? b = some o → s2.heap.get? b = some o) (hn : s1.heap.get? x = none) (he : s2.heap.get? x = some (excO t dx)) (sm : Same s1 s2)
    (h : ∀ s'', Err B L loc Z us s₀ a G ad ob l P (.ref x) s'' → E (.ref x) s'') : wpAny M (A.deeper env1) (leaving env1 (.ref x)) (fun _ s'' => E (.ref x) s'') E' s2 := by
  have FH1 : FH (env1 :: l) s1.heap := by
    intro env hm
    cases hm with
    | head =>
      obtain ⟨m, F, _⟩ := S1.F
      obtain ⟨oL, es, ep, hL, hd, _⟩ := F.ns
      exact ⟨hk1, L1, oL, h1, hL, fun vs e => by rw [hd] at e; cases e⟩
    | tail _ hm => exact F0.at S1.H env hm
  have hbase : (hideAll s1.heap (frs (env1 :: l))).StaysIn s2.heap := fun b o q => keep b o (of_hideAll _ q)
  have hxn : (hideAll s1.heap (frs (env1 :: l))).get? x = none := by
    cases q : (hideAll s1.heap (frs (env1 :: l))).get? x with
    | none => rfl
    | some o => have := of_hideAll _ q; rw [hn] at this; cases this
  refine wpAny_leaving_firstW (base := hideAll s1.heap (frs (env1 :: l))) (Around.frames_deeper hf) (FH1.frames keep fun b hb => hideAll_none _ hb) h1 he hbase hxn rfl rfl rfl fun h' hL => h _ ?_
  obtain ⟨k1, ⟨_, _, k2⟩, k3, k4⟩ := hL
  refine ⟨frs (env1 :: l), G1, ad1, ob1, D1, s1, le, K, S.backZ S1.H S1.S, R1, p, ⟨x, hideAll s1.heap (frs (env1 :: l)), _, rfl, ⟨k1, hxn, k2, k3⟩, fun b o e hb => hideAll_get _ e hb, fun b o e hnf => k4 b o (keep _ _ e) hnf⟩, sm, fun b hb => ?_⟩
  rcases frs_cons h1 hb with rfl | q
  · exact .inr ⟨fun o z => S1.nz o (S.zZ _ _ z), S1.ng, S1.na⟩
  · exact .inl q
theorem r_callE {name qual : Str} {params : Arguments} {body : List Stmt} {scope : Scope} {dV kV doc pm cdv ct oc : Value} {an od : Option Addr} {osl : Array (Option Value)} {f : Addr} {args : List Value} {n : Nat} (binds : List (Str × Value))
    (C : Cx w B) (S : St B L loc Z G ad ob us s₀ s) (hA : Rm A (n + 1))
    (ho : (KK w).lookup f = some ⟨oc, od, .func (fnOf name qual params body scope dV kV doc pm an cdv ct), osl⟩) (hcd : codeIn (KK w) cdv qual = true)
    (hbind : BindsTo s (fnOf name qual params body scope dV kV doc pm an cdv ct) ⟨args, []⟩ binds) (hloc : ∀ y ∈ binds, scope.names.lookup y.1 = some .local)
    (h : ∀ L1 s', Rm (A.deeper (envX qual scope L1 f cdv [])) n → St B L1 binds.reverse (Zp us ad s) G ad ob us s s' →
      WP pw w (A.deeper (envX qual scope L1 f cdv [])) (execs body (envX qual scope L1 f cdv [])) (fun fl s' => Q (match fl with | .ret v => v | _ => .none) s')
        (fun e s' => wpAny (model pw w) (A.deeper (envX qual scope L1 f cdv [])) (leaving (envX qual scope L1 f cdv []) e) (fun _ s'' => E e s'') (fun e' s'' => E e' s'') s') s')
    (hco : scope.isCoroutine = false := by rfl) (hgen : scope.isGenerator = false := by rfl) (hk : scope.kind = .function := by rfl)
    (hcell : ∀ x ∈ scope.names, x.2 ≠ .cell := by decide) : WP pw w A (call (.ref f) args) Q E s :=
  .of (wpAny_call (r_enterE binds C S.hpZ hA.d ho hcd hbind hloc (fun L s' S' => h L s' hA.deeper S') hco hgen hk hcell))
theorem r_str {x : Str} {k : Nat} (S : St B L loc Z G ad ob us s₀ s) (h : ∀ t s', St B L loc Z G ad ob us s₀ s' → Q (.str x t) s') : WP pw w A (eval (.Constant (.str x) k pos) env) Q E s := by
  delta WP; exact wpAny_Constant_str (h _ _ (S.toks _))
theorem r_strInt {i : Int} {t : Tok} (S : St B L loc Z G ad ob us s₀ s) (hi : i.natAbs.log2 < 1920) (h : ∀ t s', St B L loc Z G ad ob us s₀ s' → Q (.str (toString i) t) s') : WP pw w A (call (.type "str") [.int i t]) Q E s := by
  delta WP; exact PySem.P.str_of_int hi (h _ _ (S.toks _))
theorem r_addStr {x y : Str} {t u : Tok} (S : St B L loc Z G ad ob us s₀ s) (hsz : x.length + y.length ≤ sizeLine) (h : ∀ t s', St B L loc Z G ad ob us s₀ s' → Q (.str (x ++ y) t) s') : WP pw w A (binaryOp .Add (.str x t) (.str y u)) Q E s := by
  delta WP; exact PyProof.Rows.add_str (fun _ _ => h _ _ (S.toks _)) hsz
theorem k_HintFault (w : World) : keepIn (KK w) (.ref 192) = true := by kernel_rfl
theorem r_raise {x : Expr} {Q : Flow → Shared → Prop} (hh : A.handled = none) (h : WP pw w A (eval x env) (fun v s₁ => ∃ e tu dx, v = .ref e ∧ (KK w).In s₁.heap ∧ s₁.heap.get? e = some (excO tu dx) ∧ E (.ref e) s₁) E s) : WP pw w A (exec (.Raise (some x) none pos) env) Q E s :=
  .of (raise_exc hh h.out)
end
section
variable {ad : Nat → Addr} {ob : Nat → Obj} {h : Heap} {l : List Env} {a : Adr} {i : Nat} {n : Int}
theorem rz_check {t : Tok} (C : Cx w B) (S : St B L loc Z G ad ob us s₀ s) (R : Rel D a G ad ob) (hu : ∀ k, US k → us k) (h91 : ¬ us 91) (hA : Rm A 4) (hf : A.frames = some (env0 :: l)) (h0 : env0.frame = some L) (hk0 : env0.scope.kind ≠ .module) (F0 : FZ l Z us ad ob) (hi : i < 2) (hn : ¬ (0 ≤ n ∧ n < nq i))
   (hs : ("there is no point " : Str).length + (toString n : Str).length ≤ sizeLine) (hl : n.natAbs.log2 < 1920)
   (k : ∀ e s', Err B L loc Z us s₀ a G ad ob (env0 :: l) (fun D' => D' = D) e s' → E e s') : WP pw w A (call (.ref 413) [.ref (a.z i), .int n t]) Q E s := by
  refine r_callE [("self", .ref (a.z i)), ("i", .int n t)] C S hA rfl rfl (BindsTo.of_eq rfl) (locs rfl) ?_
  intro L1 s1 hA1 S1
  walk_at "c"; refine r_if (r_isNot ?_); refine r_isChain ?_; walk_at "i"; refine r_link ?_; walk_at "l"; refine r_le (r_truthy ?_); (refine br ?_ ?_ <;> intro _); refine r_last ?_; refine r_callB ⋯ ⋯ (b_len _) bb_len ?_; refine r_args (r_attrN ?_); walk_at "l"; refine x_zc ⋯ ⋯ ⋯ ⋯ ⋯ ?_; intro _ _; refine r_args0 ?_; rotate_left; refine inf ?_; walk_at "c"; rotate_left
  · obtain ⟨vs, hl', h2⟩ := (R.q i (oq104 hi)).c
    have h6 := nq_le i
    have hlen : vs.length = nq i := h2.length.trans (R.q i (oq104 hi)).lc
    refine r_lenK ⋯ (hu _ (us_q (c := 1) (oq104 hi) (oq105))) hl' (oq106 h6 hlen) ?_
    intro t1 s2 S2
    rw [hlen]
    have hlt : ¬ n < (nq i : Int) := fun q => hn ⟨⋯, q⟩
    refine r_lt (r_truthy ?_)
    rw [decide_eq_false hlt, if_pos (show (!false) = true from rfl)]
    walk_at "c"
    refine r_raise (Rm.h hA1) ?_
    refine r_callG ⋯ ⋯ (g_HintFault _) (k_HintFault _) ?_
    refine r_args (r_bin ?_); refine r_str ⋯ ?_; intro _ _ _; refine r_callT ⋯ ⋯ (b_str _) bb_str ?_; refine r_args ?_; walk_at "l"; refine r_args0 ?_
    refine r_strInt ⋯ hl ?_
    intro t3 s3 S3
    skip
    refine r_addStr ⋯ hs ?_
    intro t4 s4 S4
    refine r_args0 ?_; walk_at "k"
    refine r_fault C S4 (Rm.less hA1) h91 ?_
    intro e tu dx s5 keep hne he sm
    exact ⟨e, tu, dx, rfl, (S4.K C).keeps keep, he, leave_first (P := fun D' => D' = D) S S4 R (fun _ _ g => g) (Kp.refl _ _ _) rfl (F0.push S h0 hk0) hf rfl (by intro q; cases q) keep hne he sm fun s'' q => k _ _ q⟩
  · refine r_raise (Rm.h hA1) ?_
    refine r_callG ⋯ ⋯ (g_HintFault _) (k_HintFault _) ?_
    refine r_args (r_bin ?_); refine r_str ⋯ ?_; intro _ _ _; refine r_callT ⋯ ⋯ (b_str _) bb_str ?_; refine r_args ?_; walk_at "l"; refine r_args0 ?_
    refine r_strInt ⋯ hl ?_
    intro t3 s3 S3
    skip
    refine r_addStr ⋯ hs ?_
    intro t4 s4 S4
    refine r_args0 ?_; walk_at "k"
    refine r_fault C S4 (Rm.less hA1) h91 ?_
    intro e tu dx s5 keep hne he sm
    exact ⟨e, tu, dx, rfl, (S4.K C).keeps keep, he, leave_first (P := fun D' => D' = D) S S4 R (fun _ _ g => g) (Kp.refl _ _ _) rfl (F0.push S h0 hk0) hf rfl (by intro q; cases q) keep hne he sm fun s'' q => k _ _ q⟩
end
theorem nq_not {n : Int} {i : Nat} (h : 6 ≤ n) : ¬ (0 ≤ n ∧ n < nq i) := by have := nq_le i; exact oq556 h this
section
variable {ad : Nat → Addr} {ob : Nat → Obj} {l : List Env} {a : Adr} {c : Int} {t : Tok}
theorem Err.lessU {us' : Nat → Prop} (h : Err B L loc Z us' s₀ a G ad ob l P e s') (hu : ∀ k, us k → us' k) : Err B L loc Z us s₀ a G ad ob l P e s' := by
  obtain ⟨X, G', ad', ob', D', s1, h1, h2, h3, h4, h5, h6, h7, h8⟩ := h
  refine ⟨X, G', ad', ob', D', s1, h1, fun k u l => h2 k (hu k u) l, h3.lessU hu, h4, h5, h6, h7, fun b hb => ?_⟩
  rcases h8 b hb with q | ⟨q1, q2, q3⟩
  · exact .inl q
  · exact .inr ⟨q1, q2, fun k u => q3 k (hu k u)⟩
theorem FZ.moreU {us' : Nat → Prop} (F : FZ l Z us ad ob) (hu : ∀ k, us k → us' k) : FZ l Z us' ad ob := by
  intro env he
  obtain ⟨h1, L, h2, h3⟩ := F env he
  refine ⟨h1, L, h2, ?_⟩
  rcases h3 with q | ⟨k, u, r⟩
  · exact .inl q
  · exact .inr ⟨k, hu k u, r⟩
theorem rz_gc (C : Cx w B) (S : St B L loc Z G ad ob us s₀ s) (R : Rel D a G ad ob) (hu : ∀ k, US k → us k) (h91 : ¬ us 91) (hA : Rm A 8) (hf : A.frames = some (env0 :: l)) (h0 : env0.frame = some L) (hk0 : env0.scope.kind ≠ .module) (F0 : FZ l Z us ad ob) (hz2 : D.z2 = 0 ∨ D.z2 = 1) (hN : D.nums = [9])
   (k : ∀ e s', Err B L loc Z us s₀ a G ad ob (env0 :: l) (fun D' => ∃ ns, Gt D D' ns D.q) e s' → E e s') : WP pw w A (call (.ref 106) [.ref a.w, .int c t]) Q E s := by
  refine r_callE [("work", .ref a.w), ("code", .int c t)] C S hA rfl rfl (BindsTo.of_eq rfl) (locs rfl) ?_
  intro L1 s1 hA1 S1
  have hzi2 : D.z2.toNat < 2 := oq51 hz2
  have h32 := nq_ge D.z2.toNat
  have h62 := nq_le D.z2.toNat
  have hN' : D.nums = [] ++ [9] := hN
  walk_at "c"; refine r_assign (r_callM ?_); walk_at "l"; refine x_m_zone ⋯ ⋯ ⋯ ⋯ ?_; refine r_cwK ⋯ ⋯ (m_W_zone _).kp ?_; refine r_args (r_attr (r_attrN ?_)); walk_at "l"; refine x_wst ⋯ ⋯ ⋯ ⋯ ?_; intro _ _; refine x_z2 ⋯ ⋯ ⋯ ⋯ ?_; intro _ _ _; refine r_args0 ?_; walk_at "k"; refine sp_zone ⋯ ⋯ ⋯ ⋯ (Rm.less ⋯) ⋯ ?_; intro _ _; walk_at "t"; walk_at "n"; refine r_assign (r_callM ?_); walk_at "l"; refine x_m_check ⋯ ⋯ ⋯ ⋯ ⋯ ?_; refine r_cwK ⋯ ⋯ (m_Z_check _).kp ?_; refine r_args ?_; refine r_callM (pl := pure false) ?_; refine r_attrN ?_; walk_at "l"; refine x_wsk ⋯ ⋯ ⋯ ⋯ ?_; intro _ _; refine x_m_pop ⋯ ⋯ ⋯ ⋯ ?_; refine r_cwK0 ⋯ ⋯ (m_K_pop _).kp ?_; refine sp_pop ⋯ ⋯ ⋯ ⋯ (Rm.less ⋯) ⋯ (by first | assumption | exact Nat.le_of_ble_eq_true rfl) ?_; intro _ _ _ _ _; refine r_args0 ?_; walk_at "k"; dsimp only
  refine rz_check (n := 9) C ⋯ ⋯ hu h91 (Rm.less hA1) (Around.frames_deeper hf) rfl (by intro q; cases q) ((F0.push S h0 hk0).mono (fun _ _ z => z) (by refine Kp.up (oq155) ?_; exact Kp.refl _ _ _)) ⋯ (by first | exact nq_not (by decide) | omega) (by decide +kernel) (by decide +kernel) ?_
  intro e s' hE
  refine leave_on S ((hE.mono ?_).from (fun _ _ g => g) (by refine Kp.up (oq155) ?_; exact Kp.refl _ _ _)) hf rfl fun s'' q => k _ _ q
  rintro D' rfl
  exact ⟨_, rfl, rfl, rfl, rfl, rfl, rfl, rfl, rfl⟩
theorem rz_scfs (C : Cx w B) (S : St B L loc Z G ad ob us s₀ s) (R : Rel D a G ad ob) (hu : ∀ k, US k → us k) (h91 : ¬ us 91) (hA : Rm A 8) (hf : A.frames = some (env0 :: l)) (h0 : env0.frame = some L) (hk0 : env0.scope.kind ≠ .module) (F0 : FZ l Z us ad ob) (hz2 : D.z2 = 0 ∨ D.z2 = 1) (hN : D.nums = [9, 1])
   (k : ∀ e s', Err B L loc Z us s₀ a G ad ob (env0 :: l) (fun D' => ∃ ns, Gt D D' ns D.q) e s' → E e s') : WP pw w A (call (.ref 113) [.ref a.w, .int c t]) Q E s := by
  refine r_callE [("work", .ref a.w), ("code", .int c t)] C S hA rfl rfl (BindsTo.of_eq rfl) (locs rfl) ?_
  intro L1 s1 hA1 S1
  have hzi2 : D.z2.toNat < 2 := oq51 hz2
  have hqi2 : D.z2.toNat < 4 := oq154 hzi2
  have h32 := nq_ge D.z2.toNat
  have h62 := nq_le D.z2.toNat
  have hN' : D.nums = [9] ++ [1] := hN
  have hN2 : [(9 : Int)] = [] ++ [9] := rfl
  walk_at "c"; refine r_assign (r_callM ?_); walk_at "l"; refine x_m_zone ⋯ ⋯ ⋯ ⋯ ?_; refine r_cwK ⋯ ⋯ (m_W_zone _).kp ?_; refine r_args (r_attr (r_attrN ?_)); walk_at "l"; refine x_wst ⋯ ⋯ ⋯ ⋯ ?_; intro _ _; refine x_z2 ⋯ ⋯ ⋯ ⋯ ?_; intro _ _ _; refine r_args0 ?_; walk_at "k"; refine sp_zone ⋯ ⋯ ⋯ ⋯ (Rm.less ⋯) ⋯ ?_; intro _ _; walk_at "t"; walk_at "n"; refine r_assign ?_; refine r_callM (pl := pure false) ?_; refine r_attrN ?_; walk_at "l"; refine x_wsk ⋯ ⋯ ⋯ ⋯ ?_; intro _ _; refine x_m_pop ⋯ ⋯ ⋯ ⋯ ?_; refine r_cwK0 ⋯ ⋯ (m_K_pop _).kp ?_; refine sp_pop ⋯ ⋯ ⋯ ⋯ (Rm.less ⋯) ⋯ (by first | assumption | exact Nat.le_of_ble_eq_true rfl) ?_; intro _ _ _ _ _; walk_at "t"; walk_at "n"; refine r_assign (r_callM ?_); walk_at "l"; refine x_m_check ⋯ ⋯ ⋯ ⋯ ⋯ ?_; refine r_cwK ⋯ ⋯ (m_Z_check _).kp ?_; refine r_args ?_; refine r_callM (pl := pure false) ?_; refine r_attrN ?_; walk_at "l"; refine x_wsk ⋯ ⋯ ⋯ ⋯ ?_; intro _ _; refine x_m_pop ⋯ ⋯ ⋯ ⋯ ?_; refine r_cwK0 ⋯ ⋯ (m_K_pop _).kp ?_; refine sp_pop ⋯ ⋯ ⋯ ⋯ (Rm.less ⋯) ⋯ (by first | assumption | exact Nat.le_of_ble_eq_true rfl) ?_; intro _ _ _ _ _; refine r_args0 ?_; walk_at "k"; dsimp only
  refine rz_check (n := 9) C ⋯ ⋯ hu h91 (Rm.less hA1) (Around.frames_deeper hf) rfl (by intro q; cases q) ((F0.push S h0 hk0).mono (fun _ _ z => z) (by refine Kp.up (oq155) ?_; refine Kp.up (oq155) ?_; exact Kp.refl _ _ _)) (by first | assumption | decide) (by first | exact nq_not (by decide) | omega) (by decide +kernel) (by decide +kernel) ?_
  intro e s' hE
  refine leave_on S ((hE.mono ?_).from (fun _ _ g => g) (by refine Kp.up (oq155) ?_; refine Kp.up (oq155) ?_; exact Kp.refl _ _ _)) hf rfl fun s'' q => k _ _ q
  rintro D' rfl
  exact ⟨_, rfl, rfl, rfl, rfl, rfl, rfl, rfl, rfl⟩
theorem rz_md (C : Cx w B) (S : St B L loc Z G ad ob us s₀ s) (R : Rel D a G ad ob) (hu : ∀ k, US k → us k) (h91 : ¬ us 91) (hA : Rm A 8) (hf : A.frames = some (env0 :: l)) (h0 : env0.frame = some L) (hk0 : env0.scope.kind ≠ .module) (F0 : FZ l Z us ad ob) (hz0 : D.z0 = 0 ∨ D.z0 = 1) (hz1 : D.z1 = 0 ∨ D.z1 = 1) (hN : D.nums = [0, 9])
   (k : ∀ e s', Err B L loc Z us s₀ a G ad ob (env0 :: l) (fun D' => ∃ ns, Gt D D' ns D.q) e s' → E e s') : WP pw w A (call (.ref 120) [.ref a.w, .int c t]) Q E s := by
  refine r_callE [("work", .ref a.w), ("code", .int c t)] C S hA rfl rfl (BindsTo.of_eq rfl) (locs rfl) ?_
  intro L1 s1 hA1 S1
  have hzi0 : D.z0.toNat < 2 := oq51 hz0
  have hqi0 : D.z0.toNat < 4 := oq154 hzi0
  have h30 := nq_ge D.z0.toNat
  have h60 := nq_le D.z0.toNat
  have e00 : 0 ≤ (0 : Int) ∧ (0 : Int) < nq D.z0.toNat := oq557 h30
  have hzi1 : D.z1.toNat < 2 := oq51 hz1
  have hqi1 : D.z1.toNat < 4 := oq154 hzi1
  have h31 := nq_ge D.z1.toNat
  have h61 := nq_le D.z1.toNat
  have hN' : D.nums = [0] ++ [9] := hN
  have hN2 : [(0 : Int)] = [] ++ [0] := rfl
  walk_at "c"; refine r_assign (r_attrN ?_); walk_at "l"; refine x_wst ⋯ ⋯ ⋯ ⋯ ?_; intro _ _; walk_at "t"; walk_at "n"; refine r_assign2 (r_tupleE (r_args ?_)); refine r_callM (pl := pure false) ?_; refine r_attrN ?_; walk_at "l"; refine x_wsk ⋯ ⋯ ⋯ ⋯ ?_; intro _ _; refine x_m_pop ⋯ ⋯ ⋯ ⋯ ?_; refine r_cwK0 ⋯ ⋯ (m_K_pop _).kp ?_; refine sp_pop ⋯ ⋯ ⋯ ⋯ (Rm.less ⋯) ⋯ (by first | assumption | exact Nat.le_of_ble_eq_true rfl) ?_; intro _ _ _ _ _; refine r_args ?_; refine r_callM (pl := pure false) ?_; refine r_attrN ?_; walk_at "l"; refine x_wsk ⋯ ⋯ ⋯ ⋯ ?_; intro _ _; refine x_m_pop ⋯ ⋯ ⋯ ⋯ ?_; refine r_cwK0 ⋯ ⋯ (m_K_pop _).kp ?_; refine sp_pop ⋯ ⋯ ⋯ ⋯ (Rm.less ⋯) ⋯ (by first | assumption | exact Nat.le_of_ble_eq_true rfl) ?_; intro _ _ _ _ _; refine r_args0 ?_; refine r_tuple ⋯ ?_; intro _ _ _ _ _; refine r_unpackN ⋯ (Rm.h ⋯) ⋯ ?_; intro _ _; refine r_inOrder (r_bindName ?_); walk_at "t"; refine r_inOrder (r_bindName ?_); walk_at "t"; refine r_inOrder0 ?_; walk_at "n"; refine r_assign2 (r_tupleE (r_args (r_callM ?_))); walk_at "l"; refine x_m_zone ⋯ ⋯ ⋯ ⋯ ?_; refine r_cwK ⋯ ⋯ (m_W_zone _).kp ?_; refine r_args (r_attrN ?_); walk_at "l"; refine x_z0 ⋯ ⋯ ⋯ ⋯ ?_; intro _ _ _; refine r_args0 ?_; walk_at "k"; refine sp_zone ⋯ ⋯ ⋯ ⋯ (Rm.less ⋯) ⋯ ?_; intro _ _; refine r_args (r_callM ?_); walk_at "l"; refine x_m_zone ⋯ ⋯ ⋯ ⋯ ?_; refine r_cwK ⋯ ⋯ (m_W_zone _).kp ?_; refine r_args (r_attrN ?_); walk_at "l"; refine x_z1 ⋯ ⋯ ⋯ ⋯ ?_; intro _ _ _; refine r_args0 ?_; walk_at "k"; refine sp_zone ⋯ ⋯ ⋯ ⋯ (Rm.less ⋯) ⋯ ?_; intro _ _; refine r_args0 ?_; refine r_tuple ⋯ ?_; intro _ _ _ _ _; refine r_unpackN ⋯ (Rm.h ⋯) ⋯ ?_; intro _ _; refine r_inOrder (r_bindName ?_); walk_at "t"; refine r_inOrder (r_bindName ?_); walk_at "t"; refine r_inOrder0 ?_; walk_at "n"; refine r_expr (r_callM ?_); walk_at "l"; refine x_m_check ⋯ ⋯ ⋯ ⋯ ⋯ ?_; refine r_cwK ⋯ ⋯ (m_Z_check _).kp ?_; refine r_args ?_; walk_at "l"; refine r_args0 ?_; walk_at "k"; refine sp_check ⋯ ⋯ ⋯ ⋯ (Rm.less ⋯) ⋯ ⋯ ?_; intro _ _; walk_at "n"; refine r_expr (r_callM ?_); walk_at "l"; refine x_m_check ⋯ ⋯ ⋯ ⋯ ⋯ ?_; refine r_cwK ⋯ ⋯ (m_Z_check _).kp ?_; refine r_args ?_; walk_at "l"; refine r_args0 ?_; walk_at "k"; dsimp only
  refine rz_check (n := 9) C ⋯ ⋯ hu h91 (Rm.less hA1) (Around.frames_deeper hf) rfl (by intro q; cases q) ((F0.push S h0 hk0).mono (fun _ _ z => z) (by refine Kp.up (oq155) ?_; refine Kp.up (oq155) ?_; exact Kp.refl _ _ _)) (by first | assumption | decide) (by first | exact nq_not (by decide) | omega) (by decide +kernel) (by decide +kernel) ?_
  intro e s' hE
  refine leave_on S ((hE.mono ?_).from (fun _ _ g => g) (by refine Kp.up (oq155) ?_; refine Kp.up (oq155) ?_; exact Kp.refl _ _ _)) hf rfl fun s'' q => k _ _ q
  rintro D' rfl
  exact ⟨_, rfl, rfl, rfl, rfl, rfl, rfl, rfl, rfl⟩
theorem rz_utp (C : Cx w B) (S : St B L loc Z G ad ob us s₀ s) (R : Rel D a G ad ob) (hu : ∀ k, US k → us k) (h91 : ¬ us 91) (hA : Rm A 8) (hf : A.frames = some (env0 :: l)) (h0 : env0.frame = some L) (hk0 : env0.scope.kind ≠ .module) (F0 : FZ l Z us ad ob) (hz0 : D.z0 = 0 ∨ D.z0 = 1) (hN : D.nums = [-1])
   (k : ∀ e s', Err B L loc Z us s₀ a G ad ob (env0 :: l) (fun D' => ∃ ns, Gt D D' ns D.q) e s' → E e s') : WP pw w A (call (.ref 148) [.ref a.w, .int c t]) Q E s := by
  refine r_callE [("work", .ref a.w), ("code", .int c t)] C S hA rfl rfl (BindsTo.of_eq rfl) (locs rfl) ?_
  intro L1 s1 hA1 S1
  have hzi0 : D.z0.toNat < 2 := oq51 hz0
  have hqi0 : D.z0.toNat < 4 := oq154 hzi0
  have h30 := nq_ge D.z0.toNat
  have h60 := nq_le D.z0.toNat
  have hN' : D.nums = [] ++ [-1] := hN
  walk_at "c"; refine r_assign (r_callM ?_); walk_at "l"; refine x_m_zone ⋯ ⋯ ⋯ ⋯ ?_; refine r_cwK ⋯ ⋯ (m_W_zone _).kp ?_; refine r_args (r_attr (r_attrN ?_)); walk_at "l"; refine x_wst ⋯ ⋯ ⋯ ⋯ ?_; intro _ _; refine x_z0 ⋯ ⋯ ⋯ ⋯ ?_; intro _ _ _; refine r_args0 ?_; walk_at "k"; refine sp_zone ⋯ ⋯ ⋯ ⋯ (Rm.less ⋯) ⋯ ?_; intro _ _; walk_at "t"; walk_at "n"; refine r_assign (r_callM ?_); walk_at "l"; refine x_m_check ⋯ ⋯ ⋯ ⋯ ⋯ ?_; refine r_cwK ⋯ ⋯ (m_Z_check _).kp ?_; refine r_args ?_; refine r_callM (pl := pure false) ?_; refine r_attrN ?_; walk_at "l"; refine x_wsk ⋯ ⋯ ⋯ ⋯ ?_; intro _ _; refine x_m_pop ⋯ ⋯ ⋯ ⋯ ?_; refine r_cwK0 ⋯ ⋯ (m_K_pop _).kp ?_; refine sp_pop ⋯ ⋯ ⋯ ⋯ (Rm.less ⋯) ⋯ (by first | assumption | exact Nat.le_of_ble_eq_true rfl) ?_; intro _ _ _ _ _; refine r_args0 ?_; walk_at "k"; dsimp only
  refine rz_check (n := (-1)) C ⋯ ⋯ hu h91 (Rm.less hA1) (Around.frames_deeper hf) rfl (by intro q; cases q) ((F0.push S h0 hk0).mono (fun _ _ z => z) (by refine Kp.up (oq155) ?_; exact Kp.refl _ _ _)) (by first | assumption | decide) (by first | exact nq_not (by decide) | exact oq558) (by decide +kernel) (by decide +kernel) ?_
  intro e s' hE
  refine leave_on S ((hE.mono ?_).from (fun _ _ g => g) (by refine Kp.up (oq155) ?_; exact Kp.refl _ _ _)) hf rfl fun s'' q => k _ _ q
  rintro D' rfl
  exact ⟨_, rfl, rfl, rfl, rfl, rfl, rfl, rfl, rfl⟩
theorem rz_alignpts (C : Cx w B) (S : St B L loc Z G ad ob us s₀ s) (R : Rel D a G ad ob) (hu : ∀ k, US k → us k) (h91 : ¬ us 91) (hA : Rm A 8) (hf : A.frames = some (env0 :: l)) (h0 : env0.frame = some L) (hk0 : env0.scope.kind ≠ .module) (F0 : FZ l Z us ad ob) (hz0 : D.z0 = 0 ∨ D.z0 = 1) (hz1 : D.z1 = 0 ∨ D.z1 = 1) (hN : D.nums = [9, 0])
   (k : ∀ e s', Err B L loc Z us s₀ a G ad ob (env0 :: l) (fun D' => ∃ ns, Gt D D' ns D.q) e s' → E e s') : WP pw w A (call (.ref 141) [.ref a.w, .int c t]) Q E s := by
  refine r_callE [("work", .ref a.w), ("code", .int c t)] C S hA rfl rfl (BindsTo.of_eq rfl) (locs rfl) ?_
  intro L1 s1 hA1 S1
  have hzi0 : D.z0.toNat < 2 := oq51 hz0
  have hqi0 : D.z0.toNat < 4 := oq154 hzi0
  have h30 := nq_ge D.z0.toNat
  have h60 := nq_le D.z0.toNat
  have e00 : 0 ≤ (0 : Int) ∧ (0 : Int) < nq D.z0.toNat := oq557 h30
  have hzi1 : D.z1.toNat < 2 := oq51 hz1
  have hqi1 : D.z1.toNat < 4 := oq154 hzi1
  have h31 := nq_ge D.z1.toNat
  have h61 := nq_le D.z1.toNat
  have hN' : D.nums = [9] ++ [0] := hN
  have hN2 : [(9 : Int)] = [] ++ [9] := rfl
  walk_at "c"; refine r_assign (r_attrN ?_); walk_at "l"; refine x_wst ⋯ ⋯ ⋯ ⋯ ?_; intro _ _; walk_at "t"; walk_at "n"; refine r_assign2 (r_tupleE (r_args ?_)); refine r_callM (pl := pure false) ?_; refine r_attrN ?_; walk_at "l"; refine x_wsk ⋯ ⋯ ⋯ ⋯ ?_; intro _ _; refine x_m_pop ⋯ ⋯ ⋯ ⋯ ?_; refine r_cwK0 ⋯ ⋯ (m_K_pop _).kp ?_; refine sp_pop ⋯ ⋯ ⋯ ⋯ (Rm.less ⋯) ⋯ (by first | assumption | exact Nat.le_of_ble_eq_true rfl) ?_; intro _ _ _ _ _; refine r_args ?_; refine r_callM (pl := pure false) ?_; refine r_attrN ?_; walk_at "l"; refine x_wsk ⋯ ⋯ ⋯ ⋯ ?_; intro _ _; refine x_m_pop ⋯ ⋯ ⋯ ⋯ ?_; refine r_cwK0 ⋯ ⋯ (m_K_pop _).kp ?_; refine sp_pop ⋯ ⋯ ⋯ ⋯ (Rm.less ⋯) ⋯ (by first | assumption | exact Nat.le_of_ble_eq_true rfl) ?_; intro _ _ _ _ _; refine r_args0 ?_; refine r_tuple ⋯ ?_; intro _ _ _ _ _; refine r_unpackN ⋯ (Rm.h ⋯) ⋯ ?_; intro _ _; refine r_inOrder (r_bindName ?_); walk_at "t"; refine r_inOrder (r_bindName ?_); walk_at "t"; refine r_inOrder0 ?_; walk_at "n"; refine r_assign2 (r_tupleE (r_args (r_callM ?_))); walk_at "l"; refine x_m_zone ⋯ ⋯ ⋯ ⋯ ?_; refine r_cwK ⋯ ⋯ (m_W_zone _).kp ?_; refine r_args (r_attrN ?_); walk_at "l"; refine x_z0 ⋯ ⋯ ⋯ ⋯ ?_; intro _ _ _; refine r_args0 ?_; walk_at "k"; refine sp_zone ⋯ ⋯ ⋯ ⋯ (Rm.less ⋯) ⋯ ?_; intro _ _; refine r_args (r_callM ?_); walk_at "l"; refine x_m_zone ⋯ ⋯ ⋯ ⋯ ?_; refine r_cwK ⋯ ⋯ (m_W_zone _).kp ?_; refine r_args (r_attrN ?_); walk_at "l"; refine x_z1 ⋯ ⋯ ⋯ ⋯ ?_; intro _ _ _; refine r_args0 ?_; walk_at "k"; refine sp_zone ⋯ ⋯ ⋯ ⋯ (Rm.less ⋯) ⋯ ?_; intro _ _; refine r_args0 ?_; refine r_tuple ⋯ ?_; intro _ _ _ _ _; refine r_unpackN ⋯ (Rm.h ⋯) ⋯ ?_; intro _ _; refine r_inOrder (r_bindName ?_); walk_at "t"; refine r_inOrder (r_bindName ?_); walk_at "t"; refine r_inOrder0 ?_; walk_at "n"; refine r_assign ?_; refine r_callG ⋯ ⋯ (g_measured _) (k_measured _) ?_; refine r_args ?_; walk_at "l"; refine r_args (Mine.r_sub (r_attrN ?_)); walk_at "l"; refine x_zc ⋯ ⋯ ⋯ ⋯ ⋯ ?_; intro _ _; refine r_callM ?_; walk_at "l"; refine x_m_check ⋯ ⋯ ⋯ ⋯ ⋯ ?_; refine r_cwK ⋯ ⋯ (m_Z_check _).kp ?_; refine r_args ?_; walk_at "l"; refine r_args0 ?_; walk_at "k"; refine sp_check ⋯ ⋯ ⋯ ⋯ (Rm.less ⋯) ⋯ ⋯ ?_; intro _ _; refine X_c ⋯ ⋯ ⋯ ⋯ ⋯ ?_; intro _ _; refine r_args (Mine.r_sub (r_attrN ?_)); walk_at "l"; refine x_zc ⋯ ⋯ ⋯ ⋯ ⋯ ?_; intro _ _; refine r_callM ?_; walk_at "l"; refine x_m_check ⋯ ⋯ ⋯ ⋯ ⋯ ?_; refine r_cwK ⋯ ⋯ (m_Z_check _).kp ?_; refine r_args ?_; walk_at "l"; refine r_args0 ?_; walk_at "k"; dsimp only
  refine rz_check (n := 9) C ⋯ ⋯ hu h91 (Rm.less hA1) (Around.frames_deeper hf) rfl (by intro q; cases q) ((F0.push S h0 hk0).mono (fun _ _ z => z) (by refine Kp.up (oq155) ?_; refine Kp.up (oq155) ?_; exact Kp.refl _ _ _)) (by first | assumption | decide) (by first | exact nq_not (by decide) | omega) (by decide +kernel) (by decide +kernel) ?_
  intro e s' hE
  refine leave_on S ((hE.mono ?_).from (fun _ _ g => g) (by refine Kp.up (oq155) ?_; refine Kp.up (oq155) ?_; exact Kp.refl _ _ _)) hf rfl fun s'' q => k _ _ q
  rintro D' rfl
  exact ⟨_, rfl, rfl, rfl, rfl, rfl, rfl, rfl, rfl⟩
theorem rz_flip_row (C : Cx w B) (S : St B L loc Z G ad ob us s₀ s) (R : Rel D a G ad ob) (hu : ∀ k, US k → us k) (h91 : ¬ us 91) (hA : Rm A 8) (hf : A.frames = some (env0 :: l)) (h0 : env0.frame = some L) (hk0 : env0.scope.kind ≠ .module) (F0 : FZ l Z us ad ob) (hN : D.nums = [0, 6])
   (k : ∀ e s', Err B L loc Z us s₀ a G ad ob (env0 :: l) (fun D' => ∃ ns, Gt D D' ns D.q) e s' → E e s') : WP pw w A (call (.ref 162) [.ref a.w, .int c t]) Q E s := by
  refine r_callE [("work", .ref a.w), ("code", .int c t)] C S hA rfl rfl (BindsTo.of_eq rfl) (locs rfl) ?_
  intro L1 s1 hA1 S1
  have h01 : (1 : Int) = 0 ∨ (1 : Int) = 1 := .inr rfl
  have hN' : D.nums = [0] ++ [6] := hN
  have hz2 : Int.toNat 1 < 2 := by decide
  walk_at "c"; refine r_assign (Mine.r_sub (r_attrN ?_)); walk_at "l"; refine x_wzs ⋯ ⋯ ⋯ ⋯ ?_; intro _ _; walk_at "i"; refine x_zs ⋯ ⋯ ⋯ ?_; walk_at "t"; walk_at "n"; refine r_assign (r_callM ?_); walk_at "l"; refine x_m_check ⋯ ⋯ ⋯ ⋯ ⋯ ?_; refine r_cwK ⋯ ⋯ (m_Z_check _).kp ?_; refine r_args ?_; refine r_callM (pl := pure false) ?_; refine r_attrN ?_; walk_at "l"; refine x_wsk ⋯ ⋯ ⋯ ⋯ ?_; intro _ _; refine x_m_pop ⋯ ⋯ ⋯ ⋯ ?_; refine r_cwK0 ⋯ ⋯ (m_K_pop _).kp ?_; refine sp_pop ⋯ ⋯ ⋯ ⋯ (Rm.less ⋯) ⋯ (by first | assumption | exact Nat.le_of_ble_eq_true rfl) ?_; intro _ _ _ _ _; refine r_args0 ?_; walk_at "k"; dsimp only
  refine rz_check (n := 6) C ⋯ ⋯ hu h91 (Rm.less hA1) (Around.frames_deeper hf) rfl (by intro q; cases q) ((F0.push S h0 hk0).mono (fun _ _ z => z) (by refine Kp.up (oq155) ?_; exact Kp.refl _ _ _)) (by first | assumption | decide) (by first | exact nq_not (by decide) | omega) (by decide +kernel) (by decide +kernel) ?_
  intro e s' hE
  refine leave_on S ((hE.mono ?_).from (fun _ _ g => g) (by refine Kp.up (oq155) ?_; exact Kp.refl _ _ _)) hf rfl fun s'' q => k _ _ q
  rintro D' rfl
  exact ⟨_, rfl, rfl, rfl, rfl, rfl, rfl, rfl, rfl⟩
theorem rz_isect (C : Cx w B) (S : St B L loc Z G ad ob us s₀ s) (R : Rel D a G ad ob) (hu : ∀ k, US k → us k) (h91 : ¬ us 91) (hA : Rm A 8) (hf : A.frames = some (env0 :: l)) (h0 : env0.frame = some L) (hk0 : env0.scope.kind ≠ .module) (F0 : FZ l Z us ad ob) (hz0 : D.z0 = 0 ∨ D.z0 = 1) (hz1 : D.z1 = 0 ∨ D.z1 = 1) (hz2 : D.z2 = 0 ∨ D.z2 = 1) (hN : D.nums = [0, 0, 1, 2, 9])
   (k : ∀ e s', Err B L loc Z us s₀ a G ad ob (env0 :: l) (fun D' => ∃ ns, Gt D D' ns D.q) e s' → E e s') : WP pw w A (call (.ref 134) [.ref a.w, .int c t]) Q E s := by
  refine r_callE [("work", .ref a.w), ("code", .int c t)] C S hA rfl rfl (BindsTo.of_eq rfl) (locs rfl) ?_
  intro L1 s1 hA1 S1
  have hzi0 : D.z0.toNat < 2 := oq51 hz0
  have hqi0 : D.z0.toNat < 4 := oq154 hzi0
  have h30 := nq_ge D.z0.toNat
  have h60 := nq_le D.z0.toNat
  have e02 : 0 ≤ (2 : Int) ∧ (2 : Int) < nq D.z0.toNat := oq559 h30
  have hzi1 : D.z1.toNat < 2 := oq51 hz1
  have hqi1 : D.z1.toNat < 4 := oq154 hzi1
  have h31 := nq_ge D.z1.toNat
  have h61 := nq_le D.z1.toNat
  have e10 : 0 ≤ (0 : Int) ∧ (0 : Int) < nq D.z1.toNat := oq557 h31
  have e11 : 0 ≤ (1 : Int) ∧ (1 : Int) < nq D.z1.toNat := oq560 h31
  have hzi2 : D.z2.toNat < 2 := oq51 hz2
  have hqi2 : D.z2.toNat < 4 := oq154 hzi2
  have h32 := nq_ge D.z2.toNat
  have h62 := nq_le D.z2.toNat
  have e20 : 0 ≤ (0 : Int) ∧ (0 : Int) < nq D.z2.toNat := oq557 h32
  have hN1 : D.nums = [0, 0, 1, 2] ++ [9] := hN
  have hN2 : [(0 : Int), 0, 1, 2] = [0, 0, 1] ++ [2] := rfl
  have hN3 : [(0 : Int), 0, 1] = [0, 0] ++ [1] := rfl
  have hN4 : [(0 : Int), 0] = [0] ++ [0] := rfl
  have hN5 : [(0 : Int)] = [] ++ [0] := rfl
  walk_at "c"; refine r_assign (r_attrN ?_); walk_at "l"; refine x_wst ⋯ ⋯ ⋯ ⋯ ?_; intro _ _; walk_at "t"; walk_at "n"; refine r_assignT (r_tupleE (r_args ?_)); refine r_callM (pl := pure false) ?_; refine r_attrN ?_; walk_at "l"; refine x_wsk ⋯ ⋯ ⋯ ⋯ ?_; intro _ _; refine x_m_pop ⋯ ⋯ ⋯ ⋯ ?_; refine r_cwK0 ⋯ ⋯ (m_K_pop _).kp ?_; refine sp_pop ⋯ ⋯ ⋯ ⋯ (Rm.less ⋯) ⋯ (by first | assumption | exact Nat.le_of_ble_eq_true rfl) ?_; intro _ _ _ _ _; refine r_args ?_; refine r_callM (pl := pure false) ?_; refine r_attrN ?_; walk_at "l"; refine x_wsk ⋯ ⋯ ⋯ ⋯ ?_; intro _ _; refine x_m_pop ⋯ ⋯ ⋯ ⋯ ?_; refine r_cwK0 ⋯ ⋯ (m_K_pop _).kp ?_; refine sp_pop ⋯ ⋯ ⋯ ⋯ (Rm.less ⋯) ⋯ (by first | assumption | exact Nat.le_of_ble_eq_true rfl) ?_; intro _ _ _ _ _; refine r_args ?_; refine r_callM (pl := pure false) ?_; refine r_attrN ?_; walk_at "l"; refine x_wsk ⋯ ⋯ ⋯ ⋯ ?_; intro _ _; refine x_m_pop ⋯ ⋯ ⋯ ⋯ ?_; refine r_cwK0 ⋯ ⋯ (m_K_pop _).kp ?_; refine sp_pop ⋯ ⋯ ⋯ ⋯ (Rm.less ⋯) ⋯ (by first | assumption | exact Nat.le_of_ble_eq_true rfl) ?_; intro _ _ _ _ _; refine r_args ?_; refine r_callM (pl := pure false) ?_; refine r_attrN ?_; walk_at "l"; refine x_wsk ⋯ ⋯ ⋯ ⋯ ?_; intro _ _; refine x_m_pop ⋯ ⋯ ⋯ ⋯ ?_; refine r_cwK0 ⋯ ⋯ (m_K_pop _).kp ?_; refine sp_pop ⋯ ⋯ ⋯ ⋯ (Rm.less ⋯) ⋯ (by first | assumption | exact Nat.le_of_ble_eq_true rfl) ?_; intro _ _ _ _ _; refine r_args0 ?_; refine r_tuple ⋯ ?_; intro _ _ _ _ _; refine r_unpack ⋯ (Rm.h ⋯) ⋯ ?_; intro _ _; refine r_inOrder (r_asName ?_); walk_at "t"; refine r_inOrder (r_asName ?_); walk_at "t"; refine r_inOrder (r_asName ?_); walk_at "t"; refine r_inOrder (r_asName ?_); walk_at "t"; refine r_inOrder0 ?_; walk_at "n"; refine r_assign (r_callM ?_); walk_at "l"; refine x_m_zone ⋯ ⋯ ⋯ ⋯ ?_; refine r_cwK ⋯ ⋯ (m_W_zone _).kp ?_; refine r_args (r_attrN ?_); walk_at "l"; refine x_z2 ⋯ ⋯ ⋯ ⋯ ?_; intro _ _ _; refine r_args0 ?_; walk_at "k"; refine sp_zone ⋯ ⋯ ⋯ ⋯ (Rm.less ⋯) ⋯ ?_; intro _ _; walk_at "t"; walk_at "n"; refine r_assign (r_callM ?_); walk_at "l"; refine x_m_check ⋯ ⋯ ⋯ ⋯ ⋯ ?_; refine r_cwK ⋯ ⋯ (m_Z_check _).kp ?_; refine r_args ?_; refine r_callM (pl := pure false) ?_; refine r_attrN ?_; walk_at "l"; refine x_wsk ⋯ ⋯ ⋯ ⋯ ?_; intro _ _; refine x_m_pop ⋯ ⋯ ⋯ ⋯ ?_; refine r_cwK0 ⋯ ⋯ (m_K_pop _).kp ?_; refine sp_pop ⋯ ⋯ ⋯ ⋯ (Rm.less ⋯) ⋯ (by first | assumption | exact Nat.le_of_ble_eq_true rfl) ?_; intro _ _ _ _ _; refine r_args0 ?_; walk_at "k"; refine sp_check ⋯ ⋯ ⋯ ⋯ (Rm.less ⋯) ⋯ ⋯ ?_; intro _ _; walk_at "t"; walk_at "n"; refine r_assign2 (r_tupleE (r_args (r_callM ?_))); walk_at "l"; refine x_m_zone ⋯ ⋯ ⋯ ⋯ ?_; refine r_cwK ⋯ ⋯ (m_W_zone _).kp ?_; refine r_args (r_attrN ?_); walk_at "l"; refine x_z1 ⋯ ⋯ ⋯ ⋯ ?_; intro _ _ _; refine r_args0 ?_; walk_at "k"; refine sp_zone ⋯ ⋯ ⋯ ⋯ (Rm.less ⋯) ⋯ ?_; intro _ _; refine r_args (r_callM ?_); walk_at "l"; refine x_m_zone ⋯ ⋯ ⋯ ⋯ ?_; refine r_cwK ⋯ ⋯ (m_W_zone _).kp ?_; refine r_args (r_attrN ?_); walk_at "l"; refine x_z0 ⋯ ⋯ ⋯ ⋯ ?_; intro _ _ _; refine r_args0 ?_; walk_at "k"; refine sp_zone ⋯ ⋯ ⋯ ⋯ (Rm.less ⋯) ⋯ ?_; intro _ _; refine r_args0 ?_; refine r_tuple ⋯ ?_; intro _ _ _ _ _; refine r_unpackN ⋯ (Rm.h ⋯) ⋯ ?_; intro _ _; refine r_inOrder (r_bindName ?_); walk_at "t"; refine r_inOrder (r_bindName ?_); walk_at "t"; refine r_inOrder0 ?_; walk_at "n"; refine r_assign (r_listE (r_args (Mine.r_sub (r_attrN ?_)))); walk_at "l"; refine x_zc ⋯ ⋯ ⋯ ⋯ ⋯ ?_; intro _ _; refine r_callM ?_; walk_at "l"; refine x_m_check ⋯ ⋯ ⋯ ⋯ ⋯ ?_; refine r_cwK ⋯ ⋯ (m_Z_check _).kp ?_; refine r_args ?_; walk_at "l"; refine r_args0 ?_; walk_at "k"; refine sp_check ⋯ ⋯ ⋯ ⋯ (Rm.less ⋯) ⋯ ⋯ ?_; intro _ _; refine X_c ⋯ ⋯ ⋯ ⋯ ⋯ ?_; intro _ _; refine r_args (Mine.r_sub (r_attrN ?_)); walk_at "l"; refine x_zc ⋯ ⋯ ⋯ ⋯ ⋯ ?_; intro _ _; refine r_callM ?_; walk_at "l"; refine x_m_check ⋯ ⋯ ⋯ ⋯ ⋯ ?_; refine r_cwK ⋯ ⋯ (m_Z_check _).kp ?_; refine r_args ?_; walk_at "l"; refine r_args0 ?_; walk_at "k"; refine sp_check ⋯ ⋯ ⋯ ⋯ (Rm.less ⋯) ⋯ ⋯ ?_; intro _ _; refine X_c ⋯ ⋯ ⋯ ⋯ ⋯ ?_; intro _ _; refine r_args0 ?_
  refine x_mklist ⋯ ?_
  intro b1 G1 s2 le1 g1 S2
  have R1 := Rel.mono ⋯ le1
  walk_at "t"; walk_at "n"; refine r_assign (r_bin ?_); walk_at "l"; refine r_listE (r_args (Mine.r_sub (r_attrN ?_))); walk_at "l"; refine x_zc ⋯ ⋯ ⋯ ⋯ ⋯ ?_; intro _ _; refine r_callM ?_; walk_at "l"; refine x_m_check ⋯ ⋯ ⋯ ⋯ ⋯ ?_; refine r_cwK ⋯ ⋯ (m_Z_check _).kp ?_; refine r_args ?_; walk_at "l"; refine r_args0 ?_; walk_at "k"; refine sp_check ⋯ ⋯ ⋯ ⋯ (Rm.less ⋯) ⋯ ⋯ ?_; intro _ _; refine X_c ⋯ ⋯ ⋯ ⋯ ⋯ ?_; intro _ _; refine r_args (Mine.r_sub (r_attrN ?_)); walk_at "l"; refine x_zc ⋯ ⋯ ⋯ ⋯ ⋯ ?_; intro _ _; refine r_callM ?_; walk_at "l"; refine x_m_check ⋯ ⋯ ⋯ ⋯ ⋯ ?_; refine r_cwK ⋯ ⋯ (m_Z_check _).kp ?_; refine r_args ?_; walk_at "l"; refine r_args0 ?_; walk_at "k"; dsimp only
  refine rz_check (n := 9) C ⋯ ⋯ hu h91 (Rm.less hA1) (Around.frames_deeper hf) rfl (by intro q; cases q) ((F0.push S h0 hk0).mono (fun _ _ z => z) (by refine Kp.up (oq155) ?_; refine Kp.up (oq155) ?_; refine Kp.up (oq155) ?_; refine Kp.up (oq155) ?_; refine Kp.up (oq155) ?_; exact Kp.refl _ _ _)) (by first | assumption | decide) (by first | exact nq_not (by decide) | omega) (by decide +kernel) (by decide +kernel) ?_
  intro e s' hE
  refine leave_on S ((hE.mono ?_).from le1 (by refine Kp.up (oq155) ?_; refine Kp.up (oq155) ?_; refine Kp.up (oq155) ?_; refine Kp.up (oq155) ?_; refine Kp.up (oq155) ?_; exact Kp.refl _ _ _)) hf rfl fun s'' q => k _ _ q
  rintro D' rfl
  exact ⟨_, rfl, rfl, rfl, rfl, rfl, rfl, rfl, rfl⟩
end
section
variable {ad : Nat → Addr} {ob : Nat → Obj} {h : Heap} {x : Str} {l : List Env} {a : Adr} {c : Int} {t : Tok}
theorem letGo_list {M : Model} {elts : List Expr} {k : Nat} {tp : Pos} {r b : Addr} {o : Obj} {vs : Array Value} {Q : Unit → Shared → Prop} (ho : s.heap.get? r = some o) (hc : o.cls = .type "list_iterator") (hd : o.data = .fields vs) (h : Q () s) :
    wpAny M A (letOwnedTupleGo (.Tuple elts k tp) (.ref r) (.ref b)) Q E s := by
  unfold letOwnedTupleGo
  refine wpAny_bind (wpAny_load ho ?_)
  obtain ⟨oc, od, oda, osl⟩ := o
  dsimp only at hc hd
  subst hc hd
  dsimp only
  rw [if_neg (by intro q; rw [Bool.and_eq_true] at q; exact absurd q.1 (by decide +kernel))]
  exact wpAny_pure h
theorem x_mktup {vs : List Value} (S : St B L loc Z G ad ob us s₀ s) (h : ∀ b G2 s', (∀ c o, G c o → G2 c o) → G2 b (tupO vs) → St B L loc Z G2 ad ob us s₀ s' → Q (.ref b) s') (hsz : vs.length ≤ 1000 := by exact Nat.le_of_ble_eq_true rfl) : WP pw w A (newTuple vs) Q E s := by
  refine r_tuple S (fun b s' S' e f => ?_) hsz
  obtain ⟨G2, le, g, S2⟩ := S'.addG' e (still_tup _) f
  exact h b G2 s' le g S2
theorem r_listCopy {b : Addr} {o : Obj} {vs : List Value} (S : St B L loc Z G ad ob us s₀ s) (g : G b o) (hl : IsL o vs ∨ o = tupO vs) (hn : vs.length ≤ 1000)
    (h : ∀ b d G2 s', (∀ c o, G c o → G2 c o) → Hold Z G G2 ad us L b (listOf vs.toArray d) → St B L loc Z G2 ad ob us s₀ s' → Q (.ref b) s') : WP pw w A (call (.type "list") [.ref b]) Q E s := by
  delta WP
  have ho := (S.H.imm _ _ g).1
  have hsz : vs.toArray.size ≤ sizeLine := by rw [List.size_toArray, sizeLine_eq]; exact oq96 hn
  have fin : ∀ h' c', (∀ b o', s.heap.get? b = some o' → h'.get? b = some o') → h'.get? s.heap.objs.size = some (listOf vs.toArray c') → Q (.ref s.heap.objs.size) { s with heap := h' } := by
    intro h' c' hk hD
    have S1 : St B L loc Z G ad ob us s₀ { s with heap := h', toks := s.toks } := S.ext hk _
    have N : New Z G ad us L s.heap.objs.size := S.newAt (Nat.le_refl _)
    exact h _ c' _ _ (fun _ _ q => .inl q) (Hold.of N) (S1.addG hD (fun _ _ e => by cases e) N.k)
  rcases hl with ⟨h1, n, h2⟩ | rfl
  · exact call_list_seq (hsz := hsz) b (.inl rfl) ho h1 h2 fin
  · exact call_list_seq (hsz := hsz) b (.inr rfl) ho rfl rfl fin
theorem r_forListT {elts : List Expr} {x1 : Nat} {tp : Pos} {iter : Expr} {body : List Stmt} {Q : Flow → Shared → Prop} (κ : Nat) (J : Inv) (hκ : ¬ us κ) (hJ : ∀ i loc G ad ob b o, J i loc G ad ob → J i loc G (up ad κ b) (up ob κ o)) (hh : A.handled = none)
    (h : WP pw w A (eval iter env) (LS1 w A env (.Tuple elts x1 tp) body B Z s₀ L κ us (fun vs => ∀ v ∈ vs, ∃ t, v = .ref t) J Q) E s)
    (hs : ∀ x, foldedSetIterable iter env x = pure x := by intro _; rfl) : WP pw w A (exec (.For (.Tuple elts x1 tp) iter body [] pos) env) Q E s :=
  r_forListG κ _ (fun i loc G ad ob us' => us' = us ∧ J i loc G ad ob) (fun _ _ _ _ _ _ q => q.1 ▸ hκ) (fun _ _ _ _ _ _ _ _ q => ⟨q.1, hJ _ _ _ _ _ _ _ q.2⟩) hh
    (fun vs hp v hv s' it o fs Q E ho hc hd hq => by obtain ⟨t, rfl⟩ := hp v hv; exact letGo_list ho hc hd hq) (h.mono (fun _ _ q => q.g) fun _ _ e => e) hs
theorem St.land {X : List Addr} (S1 : St B L loc Z G ad ob us s₀ s1) (kb : ∀ b o, s1.heap.get? b = some o → b ∉ X → s'.heap.get? b = some o) (ups : s1.heap.UpToSlots s'.heap) (sm : Same s1 s')
    (hX : ∀ b ∈ X, b = L ∨ b = ad 90 ∨ ((∀ o, ¬ Z b o) ∧ (∀ o, ¬ G b o) ∧ ∀ k, us k → ad k ≠ b)) (u90 : us 90) (h90 : ∀ vs, (ob 90).data ≠ .fields vs) :
    ∃ sl, St B L loc Z G ad (up ob 90 { ob 90 with slots := sl }) us s₀ s' := by
  obtain ⟨sl, hsl⟩ := ups _ _ (S1.H.own 90 u90) h90
  obtain ⟨m, F, hm⟩ := S1.F
  have kz : ∀ b o, Z b o → s'.heap.get? b = some o := fun b o z => kb b o (S1.H.sil b o z) fun hb => by
    rcases hX b hb with rfl | rfl | ⟨q, _⟩
    · exact S1.nz _ z
    · exact (S1.H.dis 90 u90).1 _ z
    · exact q _ z
  have F' : Fr B L s'.heap m := ⟨ups.ns F.ns, fun b o q => kz b o (S1.H.bz b o q), F.above⟩
  refine ⟨sl, ⟨m, F', hm⟩, ⟨?_, S1.H.bz, kz, fun b o g => ⟨kb b o (S1.H.imm b o g).1 fun hb => ?_, (S1.H.imm b o g).2⟩, fun k u => ?_, S1.H.dis, S1.H.inj⟩, S1.nz, S1.na, S1.S.trans sm⟩
  · obtain ⟨oL, _, _, hL, _⟩ := F'.ns
    exact Nat.le_trans F.above (Nat.le_of_lt (Heap.lt_size hL))
  · rcases hX b hb with rfl | rfl | ⟨_, q, _⟩
    · exact S1.ng _ g
    · exact (S1.H.dis 90 u90).2 _ g
    · exact q _ g
  · by_cases q : k = 90
    · subst q
      rw [up_same]; exact hsl
    · rw [up_other _ _ q]
      refine kb _ _ (S1.H.own k u) fun hb => ?_
      rcases hX _ hb with r | r | ⟨_, _, r⟩
      · exact S1.na k u r
      · exact q (S1.H.inj k 90 u u90 r)
      · exact r k u rfl
theorem r_try {body : List Stmt} {h₀ : ExceptHandler} {hs : List ExceptHandler} {Q : Flow → Shared → Prop}
    (h : WP pw w A (execs body env) (fun f s₁ => match f with | .next => WP pw w A (execs [] env) Q E s₁ | f => Q f s₁)
      (fun e s₁ => wpAny (model pw w) A (noteFrame e env) (fun _ s₂ => wpAny (model pw w) A (setFlight e none) (fun _ s₃ => wpAny (model pw w) A (handleBy e env (h₀ :: hs)) Q E s₃) E s₂) E s₁) s) :
    WP pw w A (exec (.Try body (h₀ :: hs) [] [] pos) env) Q E s := by
  refine .of (wpAny_Try_except (wpAny_mono h.out (fun f s₁ h₁ => ?_) fun _ _ x => x))
  cases f <;> first | exact h₁ | exact WP.out h₁
theorem r_catch {b₀ : Stmt} {suite : List Stmt} {np hp : Pos} {Q : Flow → Shared → Prop} (C : Cx w B) (hE : Err B L loc Z us s₀ a G ad ob (env :: l) P e s') (hf : A.frames = some (env :: l)) (h0 : EnvOk env L) (hfr : env.frame = some L)
    (hl : ∀ b ∈ frs l, b = ad 90) (u90 : us 90) (h90 : ∀ vs, (ob 90).data ≠ .fields vs) (hx : env.kindOf "HintFault" = some .globalImplicit)
    (k : ∀ A' G' ad' ob' D' s6, (∀ b o, G b o → G' b o) → (∀ j, us j → 80 ≤ j → ad' j = ad j ∧ (j ≠ 90 → ob' j = ob j)) → (∃ sl, ob' 90 = { ob 90 with slots := sl }) → St B L loc Z G' ad' ob' us s₀ s6 → Rel D' a G' ad' ob' → P D' → WP pw w A' (execs (b₀ :: suite) env) Q (fun _ _ => False) s6) :
    wpAny (model pw w) A (noteFrame e env) (fun _ s₂ => wpAny (model pw w) A (setFlight e none) (fun _ s₃ => wpAny (model pw w) A (handleBy e env [.ExceptHandler (some (.Name "HintFault" np)) none (b₀ :: suite) hp]) Q (fun _ _ => False) s₃) (fun _ _ => False) s₂) (fun _ _ => False) s' := by
  obtain ⟨X, G', ad', ob', D', s1, g1, K, S1, R1, p, ⟨e', Bx, a0, rfl, fl, kb, ups⟩, sm, hX⟩ := hE
  have e90 := K 90 u90 (by decide)
  have h90' : ∀ vs, (ob' 90).data ≠ .fields vs := by rw [e90.2]; exact h90
  have hX' : ∀ b ∈ X, b = L ∨ b = ad' 90 ∨ ((∀ o, ¬ Z b o) ∧ (∀ o, ¬ G' b o) ∧ ∀ k, us k → ad' k ≠ b) := by
    intro b hb
    rcases hX b hb with q | q
    · rcases frs_cons hfr q with q | q
      · exact .inl q
      · exact .inr (.inl ((hl b q).trans e90.1.symm))
    · exact .inr (.inr q)
  refine wpAny_looks_onW hf hfr fl fun h₄ hheld₄ ups₄ => ?_
  refine wpAny_landsW hheld₄ fun h₅ hfl₅ ups₅ => ?_
  obtain ⟨o5, hob, hobc⟩ := hfl₅.there
  obtain ⟨sl5, S5⟩ := S1.land (s' := { s' with heap := h₅ }) (fun b o q hb => hfl₅.1 b o (kb b o q hb)) ((ups.trans ups₄).trans ups₅) sm hX' u90 h90'
  obtain ⟨nm, q, N, bs, sn, sub, ab, col, dd, k0, k1, k2, k3, k5, ec⟩ := f192 w
  have hC := S5.K C _ _ ec
  refine wpAny_handleBy_cons (codeAny_handlers_test (WP.out (r_glob C S5 (g_HintFault w) ?_ h0 hx))) (by intro q; cases q)
  refine wpAny_excMatches_sub_self hC hob hobc (by decide +kernel) (codeAny_handlers_suite ?_)
  refine lands_againW hfl₅ fun h₆ hfl₆ ups₆ => ?_
  obtain ⟨sl6, S6⟩ := S1.land (s' := { s' with heap := h₆ }) (fun b o q hb => hfl₆.1 b o (kb b o q hb)) (((ups.trans ups₄).trans ups₅).trans ups₆) sm hX' u90 h90'
  refine wpAny_passesOwnAt PassesOwnAt.never (WP.out (k _ G' ad' _ D' _ g1 (fun j u l => ⟨(K j u l).1, fun n => (up_other _ _ n).trans (K j u l).2⟩) ⟨sl6, by rw [up_same, e90.2]⟩ S6 (R1.congr (fun _ _ => rfl) fun j hj => up_other _ _ (oq440 hj)) p))
theorem rz_flippt (C : Cx w B) (S : St B L loc Z G ad ob us s₀ s) (R : Rel D a G ad ob) (hu : ∀ k, US k → us k) (hκ : ¬ us 82) (h91 : ¬ us 91) (hA : Rm A 8) (hf : A.frames = some (env0 :: l)) (h0 : env0.frame = some L) (hk0 : env0.scope.kind ≠ .module) (F0 : FZ l Z us ad ob) (hN : D.nums = [6]) (hl : D.loop = 1)
   (k : ∀ e s', Err B L loc Z us s₀ a G ad ob (env0 :: l) (fun D' => ∃ ns, Gt D D' ns D.q) e s' → E e s') : WP pw w A (call (.ref 155) [.ref a.w, .int c t]) Q E s := by
  refine r_callE [("work", .ref a.w), ("code", .int c t)] C S hA rfl rfl (BindsTo.of_eq rfl) (locs rfl) ?_
  intro L1 s1 hA1 S1
  have h01 : (1 : Int) = 0 ∨ (1 : Int) = 1 := .inr rfl
  walk_at "c"; refine r_assign (Mine.r_sub (r_attrN ?_)); walk_at "l"; refine x_wzs ⋯ ⋯ ⋯ ⋯ ?_; intro _ _; walk_at "i"; refine x_zs ⋯ ⋯ ⋯ ?_; walk_at "t"; walk_at "n"
  rename_i s2 S2
  let J : Inv := fun i loc' G' ad' ob' => i = 0 ∧ Kn [("work", .ref a.w), ("zone", .ref (a.z 1))] loc' ∧ (∀ b o, G b o → G' b o) ∧ Kp us ad ob ad' ob' ∧ Rel (D.sl 1) a G' ad' ob'
  refine r_forRangeE (L := L1) (B := B) (Z := Zp us ad s) (s₀ := s) 82 J hκ ?_ (Rm.h hA1) (by passes_own) ?_
  · rintro i loc' G' ad' ob' b o ⟨hi, hl, hg, hk, hR⟩
    refine ⟨hi, hl, hg, fun k u l => ?_, hR.upX (oq441)⟩
    have : k ≠ 82 := fun e => hκ (e ▸ u)
    rw [up_other _ _ this, up_other _ _ this]
    exact hk k u l
  refine r_callT ⋯ ⋯ (b_range _) bb_range ?_; refine r_args (r_callM ?_); walk_at "l"; refine x_m_next_loop ⋯ ⋯ ⋯ ⋯ ?_; refine r_cwK0 ⋯ ⋯ (m_W_next_loop _).kp ?_; dsimp only
  refine sp_next_loop C ⋯ R hu (Rm.less hA1) ?_
  intro t2 o3 s3 S3 R3
  refine r_args0 ?_
  refine r_range1 ⋯ ?_
  intro r t4 t5 t6 s4 S4 hr
  rw [hl] at hr
  refine ⟨r, 0, 1, t4, t5, t6, _, G, ad, _, rfl, hr, ⟨by decide, by decide, by decide, by decide⟩, S4, ⟨rfl, ⟨rfl, rfl, trivial⟩, fun _ _ g => g, ?_, R3⟩, ?_, ?_⟩
  · refine Kp.up (oq162) ?_; exact Kp.refl _ _ _
  · rintro i loc' G' ad' ob' t7 s7 hi ⟨_, hkn, hg, hk, hR⟩ S7
    have S8 := S7.sub (Kn.cons hkn rfl).sub
    clear S7
    have hu' : ∀ k, US k → (us k ∨ k = 82) := fun k u => .inl (hu k u)
    have hz2 : (1 : Nat) < 2 := by decide
    walk_at "c"; refine r_assign (r_callM ?_); walk_at "l"; refine x_m_check ⋯ ⋯ ⋯ ⋯ ⋯ ?_; refine r_cwK ⋯ ⋯ (m_Z_check _).kp ?_; refine r_args ?_; refine r_callM (pl := pure false) ?_; refine r_attrN ?_; walk_at "l"; refine x_wsk ⋯ ⋯ ⋯ ⋯ ?_; intro _ _; refine x_m_pop ⋯ ⋯ ⋯ ⋯ ?_; refine r_cwK0 ⋯ ⋯ (m_K_pop _).kp ?_; dsimp only
    refine sp_pop (ns := []) (n := 6) C ⋯ hR hu' (Rm.less hA1) hN (by exact Nat.le_of_ble_eq_true rfl) ?_
    intro t9 o9 s9 S9 R9
    refine r_args0 ?_; walk_at "k"
    refine rz_check (n := 6) C ⋯ R9 hu' (fun q => q.elim h91 (by decide)) (Rm.less hA1) (Around.frames_deeper hf) rfl (by intro q; cases q) (((F0.push S h0 hk0).mono (fun _ _ z => z) (Kp.up (by decide) hk)).moreU fun _ => .inl) (by decide) (nq_not (by decide)) (by decide +kernel) (by decide +kernel) ?_
    intro e s' hE
    refine leave_on S (((hE.mono ?_).lessU fun _ => .inl).from hg (Kp.up (by decide) hk)) hf rfl fun s'' q => k _ _ q
    rintro D' rfl
    exact ⟨[], rfl, rfl, rfl, rfl, rfl, hl.symm, rfl, rfl⟩
  · rintro loc' G' ad' ob' s7 ⟨h, _⟩ _
    cases h
end
inductive Case (G : Addr → Obj → Prop) (v : Value) (p : Addr × Int × List Int) : Prop
  | mk (t : Addr) (tc : Tok) (l : Addr) (ws : List Value) (e : v = .ref t) (h1 : G t (tupO [.ref p.1, .int p.2.1 tc, .ref l])) (h2 : G l (lstO ws)) (h3 : All2 IsI ws p.2.2)
theorem Case.mono {G G' : Addr → Obj → Prop} (l : ∀ b o, G b o → G' b o) {v : Value} {p : Addr × Int × List Int} (h : Case G v p) : Case G' v p := by
  obtain ⟨t, tc, l', ws, h1, h2, h3, h4⟩ := h
  exact ⟨t, tc, l', ws, h1, l _ _ h2, l _ _ h3, h4⟩
noncomputable def tab : List (Addr × Int × List Int) := [(134, 15, [0, 0, 1, 2, 9]), (141, 39, [9, 0]), (148, 41, [-1]), (120, 73, [0, 9]), (155, 128, [6]), (162, 129, [0, 6]), (113, 72, [9, 1]), (106, 70, [9])]
section
variable {ad : Nat → Addr} {ob : Nat → Obj} {h : Heap} {x : Str} {l : List Env} {a : Adr} {c : Int} {t : Tok} {n : Int}
theorem rz_any {p : Addr × Int × List Int} (hp : p ∈ tab) (C : Cx w B) (S : St B L loc Z G ad ob us s₀ s) (R : Rel D a G ad ob) (hu : ∀ k, US k → us k) (hκ : ¬ us 82) (h91 : ¬ us 91) (hA : Rm A 8) (hf : A.frames = some (env0 :: l)) (h0 : env0.frame = some L) (hk0 : env0.scope.kind ≠ .module) (F0 : FZ l Z us ad ob)
   (hz0 : D.z0 = 0 ∨ D.z0 = 1) (hz1 : D.z1 = 0 ∨ D.z1 = 1) (hz2 : D.z2 = 0 ∨ D.z2 = 1) (hN : D.nums = p.2.2) (hl : D.loop = 1)
   (k : ∀ e s', Err B L loc Z us s₀ a G ad ob (env0 :: l) (fun D' => ∃ ns, Gt D D' ns D.q) e s' → E e s') : WP pw w A (call (.ref p.1) [.ref a.w, .int p.2.1 t]) Q E s := by
  simp only [tab, List.mem_cons, List.not_mem_nil, or_false] at hp
  rcases hp with rfl | rfl | rfl | rfl | rfl | rfl | rfl | rfl
  · exact rz_isect C S R hu h91 hA hf h0 hk0 F0 hz0 hz1 hz2 hN k
  · exact rz_alignpts C S R hu h91 hA hf h0 hk0 F0 hz0 hz1 hN k
  · exact rz_utp C S R hu h91 hA hf h0 hk0 F0 hz0 hN k
  · exact rz_md C S R hu h91 hA hf h0 hk0 F0 hz0 hz1 hN k
  · exact rz_flippt C S R hu hκ h91 hA hf h0 hk0 F0 hN hl k
  · exact rz_flip_row C S R hu h91 hA hf h0 hk0 F0 hN k
  · exact rz_scfs C S R hu h91 hA hf h0 hk0 F0 hz2 hN k
  · exact rz_gc C S R hu h91 hA hf h0 hk0 F0 hz2 hN k
theorem k_tab (w : World) {p : Addr × Int × List Int} (hp : p ∈ tab) : keepIn (KK w) (.ref p.1) = true := by
  simp only [tab, List.mem_cons, List.not_mem_nil, or_false] at hp
  rcases hp with rfl | rfl | rfl | rfl | rfl | rfl | rfl | rfl
  · exact k_do_isect w
  · exact k_do_alignpts w
  · exact k_do_utp w
  · exact k_do_md w
  · exact k_do_flippt w
  · exact k_do_flip_row w
  · exact k_do_scfs w
  · exact k_do_gc w
theorem St.lend90 (S : St B L loc Z G ad ob us s₀ s) (h90 : ¬ us 90) : ∃ oL, s.heap.get? L = some oL ∧ (∀ vs, oL.data ≠ .fields vs) ∧
    Hp B (fun b o => Zp us ad s b o ∧ b ≠ L) G (up ad 90 L) (up ob 90 oL) (fun j => us j ∨ j = 90) s.heap := by
  obtain ⟨m, F, hm⟩ := S.F
  obtain ⟨oL, es, ep, hL, hd, r⟩ := F.ns
  have H := S.hpZ
  refine ⟨oL, hL, (fun vs e => by rw [hd] at e; cases e), ?_⟩
  have H2 : Hp B (fun b o => Zp us ad s b o ∧ b ≠ L) G ad ob us s.heap := ⟨H.bs, fun b o e => ⟨H.bz b o e, fun q => Nat.lt_irrefl _ (Nat.lt_of_lt_of_le (Heap.lt_size (q ▸ e)) F.above)⟩, fun b o z => H.sil b o z.1, H.imm, H.own, fun k u => ⟨fun o z => (H.dis k u).1 o z.1, (H.dis k u).2⟩, H.inj⟩
  exact H2.key hL (fun p z => z.2 rfl) S.ng S.na
theorem r_callL {e : Expr} {rest : List Expr} {f : Str} {np : Pos} {fa : Addr} (C : Cx w B) (S : St B L loc Z G ad ob us s₀ s) (hv : loc.lookup f = some (.ref fa)) (hk : keepIn (KK w) (.ref fa) = true)
    (h : WP pw w A (spliced (backTo pos (starEach (e :: rest) env))) (fun vs s₁ => (KK w).In s₁.heap ∧ WP pw w A (call (.ref fa) ([] ++ vs)) Q E s₁) E s)
    (hE : EnvOk env L := by exact ⟨rfl, rfl, rfl, rfl⟩) (hx : env.kindOf f = some .local := by rfl) (hd : (f == ("__debug__" : Str)) = false := by rfl)
    (he : starEach (e :: rest) env = (false, eval e env) :: starEach rest env := by rfl) (hplain : (backTo pos (starEach rest env)).any (·.1) = false := by rfl)
    (hc : eval (.Call (.Name f np) (e :: rest) [] pos) env = (do callWith pos (← eval (.Name f np) env) [] (backTo pos (starEach (e :: rest) env)) (backToKw pos (keywordEach [] env))) := by rfl) :
    WP pw w A (eval (.Call (.Name f np) (e :: rest) [] pos) env) Q E s := by
  refine .of (Call_ (WP.out (r_loc S hv (callWith_K (S.K C) hk ?_ he hplain) hE hx hd)) hc)
  delta WP at h; exact h
theorem r_enterF {name qual : Str} {params : Arguments} {body : List Stmt} {scope : Scope} {dV kV doc pm cdv ct oc : Value} {an od : Option Addr} {osl : Array (Option Value)} {f : Addr} {args : List Value} {n : Nat} (binds : List (Str × Value))
    (C : Cx w B) (H : Hp B Z G ad ob us s.heap) (hA : Rm A (n + 1)) (hf : A.frames = some l)
    (ho : (KK w).lookup f = some ⟨oc, od, .func (fnOf name qual params body scope dV kV doc pm an cdv ct), osl⟩) (hcd : codeIn (KK w) cdv qual = true)
    (hbind : BindsTo s (fnOf name qual params body scope dV kV doc pm an cdv ct) ⟨args, []⟩ binds) (hloc : ∀ y ∈ binds, scope.names.lookup y.1 = some .local)
    (h : ∀ A' L1 s', Rm A' n → A'.frames = some (envX qual scope L1 f cdv [] :: l) → St B L1 binds.reverse Z G ad ob us s s' →
      WP pw w A' (execs body (envX qual scope L1 f cdv [])) (fun fl s' => Q (match fl with | .ret v => v | _ => .none) s') (fun _ _ => False) s')
    (hco : scope.isCoroutine = false := by rfl) (hgen : scope.isGenerator = false := by rfl) (hk : scope.kind = .function := by rfl)
    (hcell : ∀ x ∈ scope.names, x.2 ≠ .cell := by decide) : WP pw w A (call (.ref f) args) Q E s :=
  .of (wpAny_call (r_enterE binds C H hA.d ho hcd hbind hloc (fun L s' S' => (h _ L s' hA.deeper (Around.frames_deeper hf) S').mono (fun _ _ y => y) fun _ _ y => y.elim) hco hgen hk hcell))
theorem case_refs {vs : List Value} {ps : List (Addr × Int × List Int)} (h : All2 (Case G) vs ps) : ∀ v ∈ vs, ∃ t, v = .ref t := by
  induction h with
  | nil => intro v hv; cases hv
  | cons r _ ih =>
    intro v hv
    rcases List.mem_cons.mp hv with rfl | hv
    · obtain ⟨t, _, _, _, e, _⟩ := r; exact ⟨t, e⟩
    · exact ih v hv
theorem case_get {vs : List Value} {ps : List (Addr × Int × List Int)} (h : All2 (Case G) vs ps) : ∀ {i : Nat} {v : Value}, vs[i]? = some v → ∃ p, p ∈ ps ∧ Case G v p := by
  induction h with
  | nil => intro i v e; simp at e
  | cons r _ ih =>
    intro i v e
    cases i with
    | zero => simp only [List.getElem?_cons_zero, Option.some.injEq] at e; subst e; exact ⟨_, .head _, r⟩
    | succ i => simp only [List.getElem?_cons_succ] at e; obtain ⟨p, h1, h2⟩ := ih e; exact ⟨p, .tail _ h1, h2⟩
theorem tab_len : ∀ p ∈ tab, p.2.2.length ≤ 5 := by decide
theorem All2.app {G' : Addr → Obj → Prop} {vs : List Value} {ps : List (Addr × Int × List Int)} {v : Value} {p : Addr × Int × List Int} (h : All2 (Case G) vs ps) (l : ∀ b o, G b o → G' b o) (c : Case G' v p) : All2 (Case G') (vs ++ [v]) (ps ++ [p]) :=
  (h.mono fun _ _ => Case.mono l).append (.cons c .nil)
theorem sp_refused (C : Cx w B) (S : St B L loc Z G ad ob us s₀ s) (R : Rel D a G ad ob) (hu : ∀ k, US k → us k) (hκ : ∀ k, 81 ≤ k → ¬ us k) (hA : Rm A 10) (hf : A.frames = some [env0]) (h0 : env0.frame = some L) (hk0 : env0.scope.kind ≠ .module)
   (O : Ok D)
   (k : ∀ s', (∀ b o, B.get? b = some o → s'.heap.get? b = some o) → Same s s' → Q (.bool true) s') : WP pw w A (call (.ref 540) [.ref a.w, .ref a.rs]) Q E s := by
  obtain ⟨oL, hL, hLn, H'⟩ := S.lend90 (hκ 90 (by decide))
  have R0 : Rel D a G (up ad 90 L) (up ob 90 oL) := R.upX (by decide)
  have hu2 : ∀ k, US k → (us k ∨ k = 90) := fun k u => .inl (hu k u)
  refine r_enterF [("work", .ref a.w), ("rows", .ref a.rs)] C H' hA hf rfl rfl (BindsTo.of_eq rfl) (locs rfl) ?_
  intro A1 L1 s1 hA1 hf1 S1
  walk_at "c"; refine r_assign (r_listE (r_args (r_tupleE (r_args ?_)))); refine r_glob ⋯ ⋯ (g_do_isect _) ?_; refine r_args ?_; walk_at "i"; refine r_args (r_listE (r_args ?_)); walk_at "i"; refine r_args ?_; walk_at "i"; refine r_args ?_; walk_at "i"; refine r_args ?_; walk_at "i"; refine r_args ?_; walk_at "i"; refine r_args0 ?_
  refine x_mklist ⋯ ?_
  intro b0 G0 s0 le0 g0 S0
  refine r_args0 ?_
  refine x_mktup ⋯ ?_
  intro c0 H0 t0 lf0 h0 T0
  replace R0 := R0.mono (fun b o g => lf0 b o (le0 b o g))
  have cs : All2 (Case H0) [.ref c0] [(134, 15, [0, 0, 1, 2, 9])] := .cons ⟨_, _, _, _, rfl, h0, lf0 _ _ g0, .cons ⟨_, rfl⟩ (.cons ⟨_, rfl⟩ (.cons ⟨_, rfl⟩ (.cons ⟨_, rfl⟩ (.cons ⟨_, rfl⟩ .nil))))⟩ .nil
  refine r_args (r_tupleE (r_args ?_)); refine r_glob ⋯ ⋯ (g_do_alignpts _) ?_; refine r_args ?_; walk_at "i"; refine r_args (r_listE (r_args ?_)); walk_at "i"; refine r_args ?_; walk_at "i"; refine r_args0 ?_
  refine x_mklist ⋯ ?_
  intro b1 G1 s1 le1 g1 S1
  refine r_args0 ?_
  refine x_mktup ⋯ ?_
  intro c1 H1 t1 lf1 h1 T1
  replace R0 := R0.mono (fun b o g => lf1 b o (le1 b o g))
  replace cs : All2 (Case H1) [.ref c0, .ref c1] [(134, 15, [0, 0, 1, 2, 9]), (141, 39, [9, 0])] := cs.app (fun b o g => lf1 b o (le1 b o g)) ⟨_, _, _, _, rfl, h1, lf1 _ _ g1, .cons ⟨_, rfl⟩ (.cons ⟨_, rfl⟩ .nil)⟩
  refine r_args (r_tupleE (r_args ?_)); refine r_glob ⋯ ⋯ (g_do_utp _) ?_; refine r_args ?_; walk_at "i"; refine r_args (r_listE (r_args (r_unary ?_))); walk_at "i"; refine n_neg ?_; walk_at "d"; refine r_args0 ?_
  refine x_mklist ⋯ ?_
  intro b2 G2 s2 le2 g2 S2
  refine r_args0 ?_
  refine x_mktup ⋯ ?_
  intro c2 H2 t2 lf2 h2 T2
  replace R0 := R0.mono (fun b o g => lf2 b o (le2 b o g))
  replace cs : All2 (Case H2) [.ref c0, .ref c1, .ref c2] [(134, 15, [0, 0, 1, 2, 9]), (141, 39, [9, 0]), (148, 41, [-1])] := cs.app (fun b o g => lf2 b o (le2 b o g)) ⟨_, _, _, _, rfl, h2, lf2 _ _ g2, .cons ⟨_, rfl⟩ .nil⟩
  refine r_args (r_tupleE (r_args ?_)); refine r_glob ⋯ ⋯ (g_do_md _) ?_; refine r_args ?_; walk_at "i"; refine r_args (r_listE (r_args ?_)); walk_at "i"; refine r_args ?_; walk_at "i"; refine r_args0 ?_
  refine x_mklist ⋯ ?_
  intro b3 G3 s3 le3 g3 S3
  refine r_args0 ?_
  refine x_mktup ⋯ ?_
  intro c3 H3 t3 lf3 h3 T3
  replace R0 := R0.mono (fun b o g => lf3 b o (le3 b o g))
  replace cs : All2 (Case H3) [.ref c0, .ref c1, .ref c2, .ref c3] [(134, 15, [0, 0, 1, 2, 9]), (141, 39, [9, 0]), (148, 41, [-1]), (120, 73, [0, 9])] := cs.app (fun b o g => lf3 b o (le3 b o g)) ⟨_, _, _, _, rfl, h3, lf3 _ _ g3, .cons ⟨_, rfl⟩ (.cons ⟨_, rfl⟩ .nil)⟩
  refine r_args0 ?_
  refine x_mklist ⋯ ?_
  intro bA GA sA leA gA SA
  replace cs := cs.mono fun _ _ => Case.mono leA
  replace R0 := R0.mono leA
  walk_at "t"; walk_at "n"; refine r_assign (r_bin ?_); walk_at "l"; refine r_listE (r_args (r_tupleE (r_args ?_))); refine r_glob ⋯ ⋯ (g_do_flippt _) ?_; refine r_args ?_; walk_at "i"; refine r_args (r_listE (r_args ?_)); walk_at "i"; refine r_args0 ?_
  refine x_mklist ⋯ ?_
  intro b4 G4 s4 le4 g4 S4
  refine r_args0 ?_
  refine x_mktup ⋯ ?_
  intro c4 H4 t4 lf4 h4 T4
  replace R0 := R0.mono (fun b o g => lf4 b o (le4 b o g))
  replace gA := lf4 _ _ (le4 _ _ gA)
  replace cs : All2 (Case H4) [.ref c0, .ref c1, .ref c2, .ref c3, .ref c4] [(134, 15, [0, 0, 1, 2, 9]), (141, 39, [9, 0]), (148, 41, [-1]), (120, 73, [0, 9]), (155, 128, [6])] := cs.app (fun b o g => lf4 b o (le4 b o g)) ⟨_, _, _, _, rfl, h4, lf4 _ _ g4, .cons ⟨_, rfl⟩ .nil⟩
  refine r_args (r_tupleE (r_args ?_)); refine r_glob ⋯ ⋯ (g_do_flip_row _) ?_; refine r_args ?_; walk_at "i"; refine r_args (r_listE (r_args ?_)); walk_at "i"; refine r_args ?_; walk_at "i"; refine r_args0 ?_
  refine x_mklist ⋯ ?_
  intro b5 G5 s5 le5 g5 S5
  refine r_args0 ?_
  refine x_mktup ⋯ ?_
  intro c5 H5 t5 lf5 h5 T5
  replace R0 := R0.mono (fun b o g => lf5 b o (le5 b o g))
  replace gA := lf5 _ _ (le5 _ _ gA)
  replace cs : All2 (Case H5) [.ref c0, .ref c1, .ref c2, .ref c3, .ref c4, .ref c5] [(134, 15, [0, 0, 1, 2, 9]), (141, 39, [9, 0]), (148, 41, [-1]), (120, 73, [0, 9]), (155, 128, [6]), (162, 129, [0, 6])] := cs.app (fun b o g => lf5 b o (le5 b o g)) ⟨_, _, _, _, rfl, h5, lf5 _ _ g5, .cons ⟨_, rfl⟩ (.cons ⟨_, rfl⟩ .nil)⟩
  refine r_args (r_tupleE (r_args ?_)); refine r_glob ⋯ ⋯ (g_do_scfs _) ?_; refine r_args ?_; walk_at "i"; refine r_args (r_listE (r_args ?_)); walk_at "i"; refine r_args ?_; walk_at "i"; refine r_args0 ?_
  refine x_mklist ⋯ ?_
  intro b6 G6 s6 le6 g6 S6
  refine r_args0 ?_
  refine x_mktup ⋯ ?_
  intro c6 H6 t6 lf6 h6 T6
  replace R0 := R0.mono (fun b o g => lf6 b o (le6 b o g))
  replace gA := lf6 _ _ (le6 _ _ gA)
  replace cs : All2 (Case H6) [.ref c0, .ref c1, .ref c2, .ref c3, .ref c4, .ref c5, .ref c6] [(134, 15, [0, 0, 1, 2, 9]), (141, 39, [9, 0]), (148, 41, [-1]), (120, 73, [0, 9]), (155, 128, [6]), (162, 129, [0, 6]), (113, 72, [9, 1])] := cs.app (fun b o g => lf6 b o (le6 b o g)) ⟨_, _, _, _, rfl, h6, lf6 _ _ g6, .cons ⟨_, rfl⟩ (.cons ⟨_, rfl⟩ .nil)⟩
  refine r_args (r_tupleE (r_args ?_)); refine r_glob ⋯ ⋯ (g_do_gc _) ?_; refine r_args ?_; walk_at "i"; refine r_args (r_listE (r_args ?_)); walk_at "i"; refine r_args0 ?_
  refine x_mklist ⋯ ?_
  intro b7 G7 s7 le7 g7 S7
  refine r_args0 ?_
  refine x_mktup ⋯ ?_
  intro c7 H7 t7 lf7 h7 T7
  replace R0 := R0.mono (fun b o g => lf7 b o (le7 b o g))
  replace gA := lf7 _ _ (le7 _ _ gA)
  replace cs : All2 (Case H7) [.ref c0, .ref c1, .ref c2, .ref c3, .ref c4, .ref c5, .ref c6, .ref c7] [(134, 15, [0, 0, 1, 2, 9]), (141, 39, [9, 0]), (148, 41, [-1]), (120, 73, [0, 9]), (155, 128, [6]), (162, 129, [0, 6]), (113, 72, [9, 1]), (106, 70, [9])] := cs.app (fun b o g => lf7 b o (le7 b o g)) ⟨_, _, _, _, rfl, h7, lf7 _ _ g7, .cons ⟨_, rfl⟩ .nil⟩
  refine r_args0 ?_
  refine x_mklist ⋯ ?_
  intro bB GB sB leB gB SB
  replace gA := leB _ _ gA
  replace cs := cs.mono fun _ _ => Case.mono leB
  replace R0 := R0.mono leB
  skip
  refine r_listAdd ⋯ (gIsL ⋯ gA) (gIsL ⋯ gB) (Nat.le_of_ble_eq_true rfl) ?_
  intro b9 s9 S9 hb9 N9
  obtain ⟨GF, leF, gF, SF⟩ := S9.addG' hb9 (still_lst _) N9.k
  replace cs := cs.mono fun _ _ => Case.mono leF
  replace R0 := R0.mono leF
  replace cs : All2 (Case GF) [.ref c0, .ref c1, .ref c2, .ref c3, .ref c4, .ref c5, .ref c6, .ref c7] tab := cs; have hall := cs; clear cs
  clear S9 gA gB SA SB S0 T0 g0 h0 S1 T1 g1 h1 S2 T2 g2 h2 S3 T3 g3 h3 S4 T4 g4 h4 S5 T5 g5 h5 S6 T6 g6 h6 S7 T7 g7 h7
  walk_at "t"; walk_at "n"
  let J : Inv := fun i loc' G' ad' ob' => Kn [("work", .ref a.w), ("rows", .ref a.rs)] loc' ∧ (∀ b o, GF b o → G' b o) ∧ ad' 90 = L ∧ (∀ vs, (ob' 90).data ≠ .fields vs) ∧ ∃ D' ns, Gt D D' ns D.q ∧ Rel D' a G' ad' ob'
  refine r_forListT (L := L1) (B := B) (Z := fun b o => Zp us ad s b o ∧ b ≠ L) (s₀ := s) (us := fun j => us j ∨ j = 90) 83 J (fun q => q.elim (hκ 83 (by decide)) (by decide)) ?_ hA1.h ?_
  · rintro i loc' G' ad' ob' b' o ⟨hl, hg, e90, h90, D', ns, gt, hR⟩
    exact ⟨hl, hg, (up_other _ _ (by decide)).trans e90, (by rw [up_other _ _ (by decide)]; exact h90), D', ns, gt, hR.upX (by decide)⟩
  walk_at "l"
  refine ⟨b9, _, _, _, GF, _, _, rfl, IsL.lst _, case_refs hall, gF, ⋯, ⟨⟨rfl, rfl, trivial⟩, fun _ _ g => g, up_same .., (by rw [up_same]; exact hLn), D, _, (by exact ⟨rfl, rfl, rfl, rfl, rfl, rfl, rfl, rfl⟩), R0⟩, ?_, ?_⟩
  · rintro i loc' G' ad' ob' v s3 hv ⟨hkn, hg, e90, h90, D', ns, gt, hR⟩ S3 gl
    obtain ⟨p, hp, hc⟩ := case_get hall hv
    obtain ⟨tt, tc, ll, ws, rfl, gtt, gll, hw⟩ := hc.mono hg
    have S4 := S3.sub hkn.sub
    clear S3 hc
    have hu3 : ∀ k, US k → ((us k ∨ k = 90) ∨ k = 83) := fun k u => .inl (.inl (hu k u))
    have O' : Ok D' := O.gt gt O.e0 O.e1
    have hwl : ws.length ≤ 5 := by rw [hw.length]; exact tab_len p hp
    refine r_unpack ⋯ (Rm.h ⋯) ((St.H ⋯).imm _ _ ⋯).1 ?_; intro _ _; refine r_inOrder (r_asName ?_); walk_at "t"; refine r_inOrder (r_asName ?_); walk_at "t"; refine r_inOrder (r_asName ?_); walk_at "t"; refine r_inOrder0 ?_; walk_at "c"; refine r_assignA ?_; refine r_callT ⋯ ⋯ (b_list _) bb_list ?_; refine r_args ?_; walk_at "l"; refine r_args0 ?_
    refine r_listCopy ⋯ gll (.inl (IsL.lst _)) (oq38 hwl) ?_
    intro b d G2 s5 le2 N2 S5
    have R5 := hR.mono le2
    refine r_attrN ?_; walk_at "l"; refine x_wsk ⋯ ⋯ ⋯ ⋯ ?_; intro _ _
    have S5' := N2.back ⋯
    refine y_nums (ns := p.2.2) (d := d) C S5' hR hu3 (N2.get ⋯) N2.n hw fun o s6 S6 R6 => ?_
    clear R5 S5 S5'
    walk_at "n"
    refine r_try ?_
    walk_at "c"; refine r_expr ?_
    refine r_callL C ⋯ rfl (k_tab w hp) ?_
    refine r_args ?_; walk_at "l"; refine r_args ?_; walk_at "l"; refine r_args0 ?_; walk_at "k"
    have e90' : up ad' 2 b 90 = L := (up_other _ _ (by decide)).trans e90
    have h90' : ∀ vs, (up (up ob' 1 o) 2 (listOf ws.toArray d) 90).data ≠ .fields vs := by rw [up_other _ _ (by decide), up_other _ _ (by decide)]; exact h90
    refine rz_any hp C ⋯ R6 hu3 (fun q => q.elim (fun q => q.elim (hκ 82 (by decide)) (by decide)) (by decide)) (fun q => q.elim (fun q => q.elim (hκ 91 (by decide)) (by decide)) (by decide)) (Rm.less hA1) hf1 rfl (by intro q; cases q)
      (by intro env he; rw [List.mem_singleton.mp he]; exact ⟨hk0, L, h0, .inr ⟨90, .inl (.inr rfl), by decide, e90', h90'⟩⟩) O'.z0 O'.z1 O'.z2 rfl O'.l ?_
    intro e s7 hE
    refine r_catch C hE hf1 ⟨rfl, rfl, rfl, rfl⟩ rfl (fun c hc => ?_) (.inl (.inr rfl)) h90' rfl ?_
    · have : frs [env0] = [L] := by unfold frs; simp [h0]
      rw [this] at hc
      exact (List.mem_singleton.mp hc).trans e90'.symm
    rintro A' G7 ad7 ob7 D7 s8 g7 K7 ⟨sl, e7⟩ S8 R8 ⟨ns7, gt7⟩
    have gt8 : Gt D D7 ns7 D.q := ⟨gt7.k.trans gt.k, gt7.f.trans gt.f, gt7.z0.trans gt.z0, gt7.z1.trans gt.z1, gt7.z2.trans gt.z2, gt7.l.trans gt.l, gt7.q.trans gt.q, gt7.n⟩
    walk_at "c"; refine r_assignA (r_listE (r_args0 ?_))
    refine x_hold ⋯ ?_
    intro b9 G9 s9 le9 N9 S9
    have R9 := R8.mono le9
    refine r_attrN ?_; walk_at "l"; refine x_wsk ⋯ ⋯ ⋯ ⋯ ?_; intro _ _
    refine nums_ [] C N9 ⋯ R8 hu3 .nil ?_
    intro D10 ad10 ob10 s10 gt10 K10 S10 R10
    replace gt10 := gt8.trans gt10
    rw [gt8.q] at gt10
    clear R9 S9 S8 R8 S6 R6 S4
    walk_at "e"; refine r_nil ?_; walk_at "n"; refine r_if (r_isNot ?_)
    refine r_isPlain ?_
    refine r_callG ⋯ ⋯ (g_law_told _) (k_law_told _) ?_; refine r_args ?_; walk_at "l"; refine r_args ?_; walk_at "l"; refine r_args (r_listE (r_args0 ?_))
    refine x_mklist ⋯ ?_
    intro b11 G11 s11 le11 g11 S11
    have R11 := R10.mono le11
    clear S10 R10
    refine r_args0 ?_; walk_at "k"
    refine sp_told (ds := []) C ⋯ R11 hu3 (Rm.less hA1) ?_ ?_ g11 ?_ ?_
    · rw [gt10.q]; exact O.e0
    · rw [gt10.q]; exact O.e1
    · rw [gt10.n]; exact .nil
    intro s12 S12
    refine r_truthy ?_; refine int ?_; refine r_nil ?_; walk_at "e"; refine r_nil ?_
    have K90 := K10 90 (.inl (.inr rfl)) (by decide)
    have K83 := K10 83 (.inr rfl) (by decide)
    have J90 := K7 90 (.inl (.inr rfl)) (by decide)
    have J83 := K7 83 (.inr rfl) (by decide)
    refine ⟨rfl, _, G11, ad10, ob10, S12, le11 _ _ (g7 _ _ gl), ⟨⟨rfl, rfl, trivial⟩, fun b o g => le11 _ _ (g7 _ _ (hg _ _ g)), K90.1.trans (J90.1.trans e90'), ?_, D10, _, gt10, R11⟩, K83.1.trans (J83.1.trans (up_other _ _ (by decide))), K83.2.trans ((J83.2 (by decide)).trans ((up_other _ _ (by decide)).trans (up_other _ _ (by decide))))⟩
    rw [K90.2, e7]; exact h90'
  · rintro loc' G' ad' ob' s3 ⟨hkn, hg, e90, h90, D', ns, gt, hR⟩ S3 gl
    walk_at "n"; refine r_ret ?_; refine r_bool ?_; refine nx_ret ⋯ ?_; clear Nc Qc; dsimp only
    exact k _ (fun b o e => (St.H ⋯).base b o e) (St.S ⋯)
end
section
variable {ad : Nat → Addr} {ob : Nat → Obj} {u : Tok} {l : Addr} {o : Obj} {x : Int}
theorem St.get (S : St B L loc Z G ad ob us s₀ s) {a : Addr} {o : Obj} (g : G a o) : s.heap.get? a = some o := (S.H.imm _ _ g).1
theorem foldl_app {α : Type} (v : α) : ∀ (n : Nat) (acc : Array α), List.foldl (fun x1 x2 => x1 ++ x2) acc (List.replicate n #[v]) = acc ++ (List.replicate n v).toArray
  | 0, acc => by simp
  | n + 1, acc => by
    rw [List.replicate_succ, List.foldl_cons, foldl_app v n]
    apply Array.ext'
    simp [List.replicate_succ]
theorem r_mul1 {v : Value} {d : Nat} (S : St B L loc Z G ad ob us s₀ s) (hl : s.heap.get? l = some (listOf #[v] d)) (hx : 0 ≤ x ∧ x ≤ 1000)
    (h : ∀ b s', St B L loc Z G ad ob us s₀ s' → s'.heap.get? b = some (lstO (List.replicate x.toNat v)) → New Z G ad us L b → Q (.ref b) s') : WP pw w A (binaryOp .Mult (.ref l) (.int x u)) Q E s := by
  delta WP
  have e2 : List.foldl (fun x1 x2 => x1 ++ x2) #[] (List.replicate (if (#[v] : Array Value).isEmpty = true then 0 else x.toNat) #[v]) = (List.replicate x.toNat v).toArray := by
    rw [if_neg (show ¬ ((#[v] : Array Value).isEmpty = true) by simp), foldl_app]; simp
  have fin := h s.heap.objs.size _ (S.push (lstO (List.replicate x.toNat v))) (Heap.get?_push_size _ rfl) (S.newAt (Nat.le_refl _))
  have hs : (#[v] : Array Value).size * x.toNat ≤ 2 ^ 24 := by show 1 * x.toNat ≤ 2 ^ 24; exact oq100 hx
  refine wpAny_binaryOp_repeat_ref (T := "list") (U := "int") (by decide) ⟨_, hl, rfl⟩ (fun s' => typeIs_int s' x u) noFill_list_mul F.fills_int_mul F.slot_int_rmul repeat_list F.slot_int_index.lookup ?_
  refine call_meets F.slot_int_rmul (typeIs_int s x u) F.entry_int_rmul (F.args_int_rmul_2 _ _) (int___rmul___int_list x u l #[v] d) ⟨hl, rfl, ⟨_, hl, rfl⟩, ?_⟩
  refine call_meets F.slot_list_mul ⟨_, hl, rfl⟩ F.entry_list_mul (F.args_list_mul_2 _ _) (AutoListH.list___mul___list_int_3 l #[v] d x u (by simp [Builtin.List.listFitsIndex]; exact oq101 hx) (oq102 hs) (by simp [Builtin.List.listTooLong, sizeLine]; exact oq103 hx)) ⟨hl, ?_⟩
  rw [e2]
  exact fin
theorem r_tupSame (S : St B L loc Z G ad ob us s₀ s) (g : G b (tupO vs)) (h : Q (.ref b) s) : WP pw w A (call (.type "tuple") [.ref b]) Q E s := by
  delta WP; exact call_tuple_tup (isTup_of (S.get g)) h
theorem r_isNone (h : Q (.bool true) s) : WP pw w A (compareOp .Is .none .none) Q E s := by
  delta WP; exact wpAny_is_self (by rfl) h
theorem r_isNoneR (h : Q (.bool false) s) : WP pw w A (compareOp .Is (.ref b) .none) Q E s := by
  delta WP; exact is_ref_none h
theorem r_newDict (S : St B L loc Z G ad ob us s₀ s) (h : ∀ b s', St B L loc Z G ad ob us s₀ s' → s'.heap.get? b = some emptyDict → New Z G ad us L b → Q (.ref b) s') : WP pw w A (eval (.Dict [] [] pos) env) Q E s := by
  delta WP
  refine wpAny_Dict_empty ?_
  exact h _ _ (S.push _) (Heap.get?_push_size _ rfl) (S.newAt (Nat.le_refl _))
end
theorem mk_S (w : World) : makesIn (KK w) 274 = true := by kernel_rfl
theorem mk_K (w : World) : makesIn (KK w) 330 = true := by kernel_rfl
theorem mk_W (w : World) : makesIn (KK w) 381 = true := by kernel_rfl
theorem mk_Z (w : World) : makesIn (KK w) 423 = true := by kernel_rfl
theorem mk_R (w : World) : makesIn (KK w) 218 = true := by kernel_rfl
theorem in_S (w : World) : findIn (KK w) (.ref 274) "__init__" = some (some (.ref 243)) := by kernel_rfl
theorem in_K (w : World) : findIn (KK w) (.ref 330) "__init__" = some (some (.ref 292)) := by kernel_rfl
theorem in_W (w : World) : findIn (KK w) (.ref 381) "__init__" = some (some (.ref 350)) := by kernel_rfl
theorem in_Z (w : World) : findIn (KK w) (.ref 423) "__init__" = some (some (.ref 399)) := by kernel_rfl
theorem in_R (w : World) : findIn (KK w) (.ref 218) "__init__" = some (some (.ref 208)) := by kernel_rfl
theorem ty_S (w : World) : typeIn (KK w) (.ref 243) = some (.type "function") := by kernel_rfl
theorem ty_K (w : World) : typeIn (KK w) (.ref 292) = some (.type "function") := by kernel_rfl
theorem ty_W (w : World) : typeIn (KK w) (.ref 350) = some (.type "function") := by kernel_rfl
theorem ty_Z (w : World) : typeIn (KK w) (.ref 399) = some (.type "function") := by kernel_rfl
theorem ty_R (w : World) : typeIn (KK w) (.ref 208) = some (.type "function") := by kernel_rfl
theorem kc_S (w : World) : keepIn (KK w) (.ref 274) = true := by kernel_rfl
theorem kc_K (w : World) : keepIn (KK w) (.ref 330) = true := by kernel_rfl
theorem kc_W (w : World) : keepIn (KK w) (.ref 381) = true := by kernel_rfl
theorem kc_Z (w : World) : keepIn (KK w) (.ref 423) = true := by kernel_rfl
theorem kc_R (w : World) : keepIn (KK w) (.ref 218) = true := by kernel_rfl
section
variable {ad : Nat → Addr} {ob : Nat → Obj} {u : Tok} {l : Addr} {o : Obj} {x : Int}
noncomputable abbrev upK (us : Nat → Prop) (κ : Nat) : Nat → Prop := fun j => us j ∨ j = κ
theorem upK_not {j k : Nat} (h : ¬ us j) (n : j ≠ k) : ¬ upK us k j := fun q => Or.elim q h n
theorem r_makeIn {Cc f : Addr} {κ n : Nat} {rest : List Value} {name qual : Str} {params : Arguments} {body : List Stmt} {scope : Scope} {dV kV doc pm cdv ct oc : Value} {an od : Option Addr} {osl : Array (Option Value)} (binds : Addr → List (Str × Value))
    (C : Cx w B) (S : St B L loc Z G ad ob us s₀ s) (hκ : ¬ us κ) (hA : Rm A (n + 2)) (hm : makesIn (KK w) Cc = true) (hi : findIn (KK w) (.ref Cc) "__init__" = some (some (.ref f))) (hf : typeIn (KK w) (.ref f) = some (.type "function"))
    (ho : (KK w).lookup f = some ⟨oc, od, .func (fnOf name qual params body scope dV kV doc pm an cdv ct), osl⟩) (hcd : codeIn (KK w) cdv qual = true)
    (hbind : ∀ x s', (KK w).In s'.heap → BindsTo s' (fnOf name qual params body scope dV kV doc pm an cdv ct) ⟨.ref x :: rest, []⟩ (binds x)) (hloc : ∀ x, ∀ y ∈ binds x, scope.names.lookup y.1 = some .local)
    (h : ∀ A' L1 x dx G2 s1 s2, Rm A' n → (∀ b o, G b o → G2 b o) → G2 x (instObj Cc (up ad κ dx κ)) → St B L loc Z G2 (up ad κ dx) (up ob κ emptyDict) (upK us κ) s₀ s1 → St B L1 (binds x).reverse (Zp (upK us κ) (up ad κ dx) s1) G2 (up ad κ dx) (up ob κ emptyDict) (upK us κ) s1 s2 →
      WP pw w A' (execs body (envX qual scope L1 f cdv [])) (fun fl s' => (match fl with | .ret v => v | _ => .none) = .none ∧ Q (.ref x) s') (fun _ _ => False) s2)
    (hco : scope.isCoroutine = false := by rfl) (hgen : scope.isGenerator = false := by rfl) (hk : scope.kind = .function := by rfl)
    (hcell : ∀ x ∈ scope.names, x.2 ≠ .cell := by decide) : WP pw w A (call (.ref Cc) rest) Q E s := by
  have X := S.K C
  have S1 := (S.newKey emptyDict rfl κ s.toks).push (instObj Cc s.heap.objs.size)
  have hx : ((s.heap.push emptyDict).push (instObj Cc s.heap.objs.size)).get? (s.heap.objs.size + 1) = some (instObj Cc s.heap.objs.size) := by
    have := Heap.get?_push_size (o := instObj Cc s.heap.objs.size) (s.heap.push emptyDict) rfl
    rwa [Heap.size_push] at this
  have S2 := S1.addG hx (still_inst _ _) fun k uk e => by
    rcases uk with uk | rfl
    · have h1 := S.H.ltOwn uk
      by_cases q : k = κ
      · exact hκ (q ▸ uk)
      · rw [up_other _ _ q] at e
        exact Nat.lt_irrefl _ (Nat.lt_trans (Nat.lt_succ_self _) (e ▸ h1))
    · rw [up_same] at e
      exact Nat.ne_of_lt (Nat.lt_succ_self _) e
  refine .of (wpAny_call ?_)
  obtain ⟨hh, g, d, t, os⟩ := s
  refine make_core (makes_of X hm) (looks_findIn X hi) (fun self => bind_fn X self hf) (.inl rfl) ?_
  refine r_enterE (binds (hh.objs.size + 1)) C S2.hpZ (Rm.under hA).d ho hcd (hbind _ _ (S2.K C)) (hloc _) (fun L1 s' S' => ?_) hco hgen hk hcell
  refine (h _ L1 (hh.objs.size + 1) hh.objs.size _ _ s' (Rm.under hA).deeper (fun _ _ q => .inl q) (.inr ⟨rfl, by rw [up_same]⟩) S2 S').mono (fun fl s' q => ?_) fun _ _ y => y.elim
  exact q
theorem St.congrK (S : St B L loc Z G ad' ob' us s₀ s) (h : ∀ k, us k → ad' k = ad k ∧ ob' k = ob k) : St B L loc Z G ad ob us s₀ s :=
  ⟨S.F, ⟨S.H.bs, S.H.bz, S.H.sil, S.H.imm, fun k u => by rw [← (h k u).1, ← (h k u).2]; exact S.H.own k u, fun k u => by rw [← (h k u).1]; exact S.H.dis k u, fun i j ui uj e => S.H.inj i j ui uj (by rw [(h i ui).1, (h j uj).1]; exact e)⟩, S.nz, fun k u => by rw [← (h k u).1]; exact S.na k u, S.S⟩
theorem dictIsL : DictIs emptyDict (fun y => ([] : List (Str × Value)).lookup y) 0 := ⟨[], 0, rfl, Nat.le_refl _, fun _ => rfl⟩
theorem r_seti {k n : Nat} {x Cc : Addr} {oc : Obj} {es : List (Str × Value)} {name : Str} {v : Value} {Q : Unit → Shared → Prop} (C : Cx w B) (S : St B L loc Z G ad (up ob k oc) us s₀ s) (gx : G x (instObj Cc (ad k))) (u : us k) (hd : DictIs oc (fun y => es.lookup y) n) (cf : ClsA w Cc name) (hn : n < 1000)
    (h : ∀ o s', DictIs o (fun y => ((name, v) :: es).lookup y) (n + 1) → St B L loc Z G ad (up ob k o) us s₀ s' → Q () s') : WP pw w A (setAttr (.ref x) name v) Q E s := by
  refine r_set C S gx u (by rw [up_same]; exact hd) cf hn fun o s' hd' S' => ?_
  rw [up_up] at S'
  refine h o s' ?_ S'
  obtain ⟨es', ep, e, hl, hf⟩ := hd'
  refine ⟨es', ep, e, Nat.le_trans hl (by split <;> omega), fun y => ?_⟩
  rw [hf]
  congr 1
  dsimp only
  rw [List.lookup_cons]
  by_cases q : y = name
  · subst q; rw [if_pos rfl]; simp
  · rw [if_neg q]
    have : (y == name) = false := by simpa using q
    rw [this]
end
section
variable {ad : Nat → Addr} {ob : Nat → Obj} {u : Tok} {l : Addr} {o : Obj} {x : Int}
theorem sp_rounding {v1 v2 v3 : Value} (C : Cx w B) (S : St B L loc Z G ad ob us s₀ s) (hκ : ¬ us 95) (hA : Rm A 2)
    (k : ∀ x s', St B L loc Z G ad ob us s₀ s' → Q (.ref x) s') : WP pw w A (call (.ref 218) [v1, v2, v3]) Q E s := by
  refine r_makeIn (κ := 95) (fun x => [("self", .ref x), ("period", v1), ("phase", v2), ("threshold", v3)]) C S hκ hA (mk_R w) (in_R w) (ty_R w) rfl rfl (fun _ _ _ => BindsTo.of_eq rfl) (fun _ => locs rfl) ?_
  intro A1 L1 x dx G2 s1 s2 hA1 le gx S1 S2
  have ux : upK us 95 95 := .inr rfl
  have D0 := dictIsL
  walk_at "c"; refine r_assignA ?_; walk_at "l"; walk_at "l"; refine r_seti ⋯ ⋯ ⋯ ⋯ ⋯ (a_R_period _) (by decide) ?_; intro _ _ _ _; walk_at "n"; refine r_assignA ?_; walk_at "l"; walk_at "l"; refine r_seti ⋯ ⋯ ⋯ ⋯ ⋯ (a_R_phase _) (by decide) ?_; intro _ _ _ _; walk_at "n"; refine r_assignA ?_; walk_at "l"; walk_at "l"; refine r_seti ⋯ ⋯ ⋯ ⋯ ⋯ (a_R_threshold _) (by decide) ?_; intro _ _ _ _; walk_at "e"; refine r_nil ?_; dsimp only
  rename_i S3
  refine ⟨rfl, k _ _ ((((S1.backZ S3.H S3.S).lessG le).lessU fun k u => .inl u).congrK fun k u => ?_)⟩
  have : k ≠ 95 := fun q => hκ (q ▸ u)
  exact ⟨up_other _ _ this, up_other _ _ this⟩
theorem r_callG0 {f : Str} {np : Pos} {fa : Addr} (C : Cx w B) (S : St B L loc Z G ad ob us s₀ s) (hg : nsIn (KK w) mainGlobals f = some (some (.ref fa))) (hk : keepIn (KK w) (.ref fa) = true)
    (h : WP pw w A (call (.ref fa) []) Q E s)
    (hE : EnvOk env L := by exact ⟨rfl, rfl, rfl, rfl⟩) (hx : env.kindOf f = some .globalImplicit := by rfl) (hd : (f == ("__debug__" : Str)) = false := by rfl)
    (hc : eval (.Call (.Name f np) [] [] pos) env = (do callWith pos (← eval (.Name f np) env) [] (backTo pos (starEach [] env)) (backToKw pos (keywordEach [] env))) := by rfl) :
    WP pw w A (eval (.Call (.Name f np) [] [] pos) env) Q E s := by
  refine .of (Call_ (WP.out (r_glob C S hg (callWith_K0 (S.K C) hk ?_) hE hx hd)) hc)
  delta WP at h; exact h
theorem r_dict {keys : List (Option Expr)} {values : List Expr} (C : Cx w B) (S : St B L loc Z G ad ob us s₀ s) (h96 : ¬ us 96)
    (h : ∀ d s₁, St B L loc Z G (up ad 96 d) (up ob 96 emptyDict) (upK us 96) s₀ s₁ → WP pw w A (evalPairs (pairTrees keys values env pos)) (fun vs s₂ => ∃ kvs G2, Carries (strKind pw w) vs kvs ∧ (∀ b o, G b o → G2 b o) ∧ St B L loc Z G2 (up ad 96 d) (up ob 96 emptyDict) (upK us 96) s₀ s₂ ∧
      ∀ o s₃, o.IsDictOf (strKind pw w) (merged [] kvs) → (d == sysModules) = false → St B L loc Z G2 (up ad 96 d) (up ob 96 o) (upK us 96) s₀ s₃ → Q (.ref d) s₃) E s₁)
    (hall : keys.all (·.isSome) = true := by rfl) (hl : keys.length = values.length := by rfl) (h0 : keys ≠ [] := by intro q; cases q) (hlen : keys.length ≤ 15 := by exact Nat.le_of_ble_eq_true rfl) : WP pw w A (eval (.Dict keys values pos) env) Q E s := by
  have S1 := S.newKey emptyDict rfl 96 s.toks
  have hd : (s.heap.objs.size == sysModules) = false := by
    obtain ⟨X, mean, mg, mb, T⟩ := id C
    exact beq_eq_false_iff_ne.mpr (Nat.ne_of_gt (Nat.lt_of_lt_of_le (PyProof.Rows.modules_low T.nolimit) S.H.bs))
  delta WP
  refine wpAny_Dict_walk (knd := strKind pw w) hall hl h0 hlen (wpAny_mono (h _ _ S1).out (fun vs s₂ q => ?_) fun _ _ e => e)
  obtain ⟨kvs, G2, hc, le, S2, fin⟩ := q
  have e2 := S2.H.own 96 (.inr rfl)
  rw [up_same, up_same] at e2
  refine ⟨kvs, hc, (Heap.DictOf.new s.heap).at (fun o q => ?_), fun h' hd' hs => ?_⟩
  · have : (s.heap.push emptyDict).get? s.heap.objs.size = some emptyDict := Heap.get?_push_size _ rfl
    rw [this] at q
    exact e2.trans q
  · obtain ⟨o, ho, hio⟩ := Heap.dictOf_iff.mp hd'
    refine fin o _ hio hd ?_
    have S3 := S2.turn (n := s₂.toks + vs.length) (k := 96) (o := o) (h' := h') (.inr rfl) (by rw [up_same]; exact hs) (by rw [up_same]; exact ho)
    rw [up_up] at S3
    exact S3
theorem r_kv {k v : Expr} {ks : List (Option Expr)} {vs : List Expr} {Q : List (Value × Value) → Shared → Prop}
    (h : WP pw w A (eval k env) (fun kv s₁ => WP pw w A (eval v env) (fun vv s₂ => WP pw w A (evalPairs (pairTrees ks vs env pos)) (fun r s₃ => Q ((kv, vv) :: r) s₃) E s₂) E s₁) E s) : WP pw w A (evalPairs (pairTrees (some k :: ks) (v :: vs) env pos)) Q E s := by
  delta WP at *; exact pairTrees_cons_walk h
theorem r_kv0 {Q : List (Value × Value) → Shared → Prop} (h : Q [] s) : WP pw w A (evalPairs (pairTrees [] [] env pos)) Q E s := by
  delta WP; exact pairTrees_nil_walk h
theorem r_notInD {κ : Nat} {x : Str} {t : Tok} {kvs : List (Str × Value)} (S : St B L loc Z G ad ob us s₀ s) (u : us κ) (hd : (ad κ == sysModules) = false) (ho : (ob κ).IsDictOf (strKind pw w) kvs) {v : Value} (hv : valueAt kvs x = some v)
    (h : ∀ s', St B L loc Z G ad ob us s₀ s' → Q (.bool false) s') (hk : (strKind pw w).is x (.str x t) = true := by rfl) : WP pw w A (compareOp .NotIn (.str x t) (.ref (ad κ))) Q E s := by
  delta WP
  refine wpAny_notIn_of hk hd (Heap.dictOf_iff.mpr ⟨_, S.H.own κ u, ho⟩).mapOf ?_
  rw [hv]
  exact h _ (S.toks _)
theorem r_itemD {κ : Nat} {x : Str} {t : Tok} {v : Value} {kvs : List (Str × Value)} {value slice : Expr} (S : St B L loc Z G ad ob us s₀ s) (u : us κ) (ho : (ob κ).IsDictOf (strKind pw w) kvs) (hv : valueAt kvs x = some v)
    (h : ∀ s', St B L loc Z G ad ob us s₀ s' → Q v s') (hk : (strKind pw w).is x (.str x t) = true := by rfl)
    (hs : subscripted slice false (.ref (ad κ)) (.str x t) = operate [.ref (ad κ), .str x t] (getItem (.ref (ad κ)) (.str x t)) := by with_unfolding_all rfl) : WP pw w A (subscriptTail value slice (.ref (ad κ)) (.str x t)) Q E s := by
  delta WP
  have hd := Heap.dictOf_iff.mpr ⟨_, S.H.own κ u, ho⟩
  exact tail_any hd.typeIs slot_dict_getitem.lookup (wpAny_getItem_of hk hd.mapOf hv (h _ (S.toks _))) hs
end
section
variable {ad : Nat → Addr} {ob : Nat → Obj} {u : Tok} {l : Addr} {o : Obj} {x : Int}
theorem val_grid {v1 v2 v3 v4 v5 v6 : Value} : valueAt (merged [] [(("grid" : Str), v1), ("half grid", v2), ("double grid", v3), ("down", v4), ("up", v5), ("off", v6)]) ("grid" : Str) = some v1 := by kernel_rfl
theorem sp_named {t : Tok} (C : Cx w B) (S : St B L loc Z G ad ob us s₀ s) (h95 : ¬ us 95) (h96 : ¬ us 96) (hA : Rm A 4)
    (k : ∀ x s', St B L loc Z G ad ob us s₀ s' → Q (.ref x) s') : WP pw w A (call (.ref 229) [.str "grid" t]) Q E s := by
  refine r_call [("word", .str "grid" t)] C S.hpZ hA rfl rfl (BindsTo.of_eq rfl) (locs rfl) ?_
  intro A1 L1 s1 hA1 S1
  walk_at "c"; refine r_assign ?_
  refine r_dict C ⋯ h96 ?_
  intro d s2 S2
  refine r_kv ?_; refine r_str ⋯ ?_; intro _ _ _; refine r_tupleE (r_args ?_); walk_at "i"; refine r_args ?_; walk_at "i"; refine r_args ?_; walk_at "i"; refine r_args0 ?_
  refine x_mktup ⋯ ?_
  intro b1 G1 s3 le1 g1 S3
  refine r_kv ?_; refine r_str ⋯ ?_; intro _ _ _; refine r_tupleE (r_args ?_); walk_at "i"; refine r_args ?_; walk_at "i"; refine r_args ?_; walk_at "i"; refine r_args0 ?_; refine r_tuple ⋯ ?_; intro _ _ _ _ _; refine r_kv ?_; refine r_str ⋯ ?_; intro _ _ _; refine r_tupleE (r_args ?_); walk_at "i"; refine r_args ?_; walk_at "i"; refine r_args ?_; walk_at "i"; refine r_args0 ?_; refine r_tuple ⋯ ?_; intro _ _ _ _ _; refine r_kv ?_; refine r_str ⋯ ?_; intro _ _ _; refine r_tupleE (r_args ?_); walk_at "i"; refine r_args ?_; walk_at "i"; refine r_args ?_; walk_at "i"; refine r_args0 ?_; refine r_tuple ⋯ ?_; intro _ _ _ _ _; refine r_kv ?_; refine r_str ⋯ ?_; intro _ _ _; refine r_tupleE (r_args ?_); walk_at "i"; refine r_args ?_; walk_at "i"; refine r_args ?_; walk_at "i"; refine r_args0 ?_; refine r_tuple ⋯ ?_; intro _ _ _ _ _; refine r_kv ?_; refine r_str ⋯ ?_; intro _ _ _; refine r_tupleE (r_args ?_); walk_at "i"; refine r_args ?_; walk_at "i"; refine r_args ?_; walk_at "i"; refine r_args0 ?_; refine r_tuple ⋯ ?_; intro _ _ _ _ _; refine r_kv0 ?_
  refine ⟨[("grid", _), ("half grid", _), ("double grid", _), ("down", _), ("up", _), ("off", _)], G1, ⟨rfl, rfl, rfl, rfl, rfl, rfl, rfl, rfl, rfl, rfl, rfl, rfl, trivial⟩, le1, ⋯, ?_⟩
  intro o s4 ho hd S4
  have e96 : up ad 96 d 96 = d := up_same ..
  have o96 : up ob 96 o 96 = o := up_same ..
  have hd' : (up ad 96 d 96 == sysModules) = false := by rw [e96]; exact hd
  have ho' := ho
  rw [← o96] at ho'
  rw [← e96]
  walk_at "t"; walk_at "n"; refine r_if (r_isCmp ?_); walk_at "l"; walk_at "l"
  have u96 : upK us 96 96 := Or.inr rfl
  refine r_notInD (κ := 96) (ad := up ad 96 d) (ob := up ob 96 o) (us := upK us 96) ⋯ u96 hd' ho' val_grid ?_
  intro s5 S5
  refine r_truthy ?_; refine itf ?_; refine r_nil ?_; walk_at "n"; refine r_assignT (Mine.r_sub ?_); walk_at "l"; walk_at "l"
  refine r_itemD (κ := 96) (ad := up ad 96 d) (ob := up ob 96 o) (us := upK us 96) ⋯ u96 ho' val_grid ?_
  intro s6 S6
  refine r_unpack ⋯ (Rm.h ⋯) ((St.H ⋯).imm _ _ ⋯).1 ?_; intro _ _; refine r_inOrder (r_asName ?_); walk_at "t"; refine r_inOrder (r_asName ?_); walk_at "t"; refine r_inOrder (r_asName ?_); walk_at "t"; refine r_inOrder0 ?_; walk_at "n"; refine r_ret ?_; refine r_callG ⋯ ⋯ (g_Rounding _) (kc_R _) ?_; refine r_args ?_; walk_at "l"; refine r_args ?_; walk_at "l"; refine r_args ?_; walk_at "l"; refine r_args0 ?_; walk_at "k"
  refine sp_rounding C ⋯ (upK_not h95 (by decide)) (Rm.less hA1) ?_
  intro x s7 S7
  refine nx_ret ⋯ ?_; clear Nc Qc; dsimp only
  refine k _ _ ((((S.backZ S7.H S7.S).lessG le1).lessU fun k u => .inl u).congrK fun k u => ?_)
  have : k ≠ 96 := fun q => h96 (q ▸ u)
  exact ⟨up_other _ _ this, up_other _ _ this⟩
end
section
variable {ad : Nat → Addr} {ob : Nat → Obj} {u : Tok} {l : Addr} {o : Obj} {x : Int}
theorem DictIs.le {o : Obj} {mf : Str → Option Value} {n m : Nat} (h : DictIs o mf n) (l : n ≤ m) : DictIs o mf m := let ⟨es, ep, e, hl, hf⟩ := h; ⟨es, ep, e, Nat.le_trans hl l, hf⟩
noncomputable def D00 : Dt := { s0 := 0, s1 := 0, nums := [], fr := (16384, 0), k := 0, z0 := 1, z1 := 1, z2 := 1, loop := 1, q := fun _ => ⟨[], [], [], []⟩ }
theorem sp_state (C : Cx w B) (S : St B L loc Z G ad ob us s₀ s) (h0 : ¬ us 0) (h95 : ¬ us 95) (h96 : ¬ us 96) (hA : Rm A 8)
    (k : ∀ x dx o G' s', (∀ b o, G b o → G' b o) → G' x (instObj 274 dx) → St B L loc Z G' (up ad 0 dx) (up ob 0 o) (upK us 0) s₀ s' → (∃ mf, DictIs o mf 50 ∧ SMap G' D00 mf) → Q (.ref x) s') : WP pw w A (call (.ref 274) []) Q E s := by
  refine r_makeIn (κ := 0) (fun x => [("self", .ref x)]) C S h0 hA (mk_S w) (in_S w) (ty_S w) rfl rfl (fun _ _ _ => BindsTo.of_eq rfl) (fun _ => locs rfl) ?_
  intro A1 L1 x dx G2 s1 s2 hA1 le gx S1 S2
  have ux : upK us 0 0 := Or.inr rfl
  have D0 := dictIsL
  walk_at "c"; refine r_assignA (r_tupleE (r_args ?_)); refine r_glob ⋯ ⋯ (g_ONE14 _) ?_; refine r_args ?_; walk_at "i"; refine r_args0 ?_
  refine x_mkpt ⋯ ?_
  intro b3 G3 s3 le3 p3 S3
  replace gx := le3 _ _ gx
  walk_at "l"; refine r_seti ⋯ ⋯ ⋯ ⋯ ⋯ (a_S_freedom _) (by decide) ?_; intro _ _ _ _; walk_at "n"; refine r_assignA (r_tupleE (r_args ?_)); refine r_glob ⋯ ⋯ (g_ONE14 _) ?_; refine r_args ?_; walk_at "i"; refine r_args0 ?_
  refine x_mkpt ⋯ ?_
  intro b4 G4 s4 le4 p4 S4
  replace gx := le4 _ _ gx
  replace p3 := p3.mono le4
  walk_at "l"; refine r_seti ⋯ ⋯ ⋯ ⋯ ⋯ (a_S_projection _) (by decide) ?_; intro _ _ _ _; walk_at "n"; refine r_assignA (r_tupleE (r_args ?_)); refine r_glob ⋯ ⋯ (g_ONE14 _) ?_; refine r_args ?_; walk_at "i"; refine r_args0 ?_
  refine x_mkpt ⋯ ?_
  intro b5 G5 s5 le5 p5 S5
  replace gx := le5 _ _ gx
  replace p3 := p3.mono le5
  replace p4 := p4.mono le5
  walk_at "l"; refine r_seti ⋯ ⋯ ⋯ ⋯ ⋯ (a_S_dual _) (by decide) ?_; intro _ _ _ _; walk_at "n"; refine r_assignA ?_; walk_at "i"; walk_at "l"; refine r_seti ⋯ ⋯ ⋯ ⋯ ⋯ (a_S_rp0 _) (by decide) ?_; intro _ _ _ _; walk_at "n"; refine r_assignA ?_; walk_at "i"; walk_at "l"; refine r_seti ⋯ ⋯ ⋯ ⋯ ⋯ (a_S_rp1 _) (by decide) ?_; intro _ _ _ _; walk_at "n"; refine r_assignA ?_; walk_at "i"; walk_at "l"; refine r_seti ⋯ ⋯ ⋯ ⋯ ⋯ (a_S_rp2 _) (by decide) ?_; intro _ _ _ _; walk_at "n"; refine r_assignA ?_; walk_at "i"; walk_at "l"; refine r_seti ⋯ ⋯ ⋯ ⋯ ⋯ (a_S_zp0 _) (by decide) ?_; intro _ _ _ _; walk_at "n"; refine r_assignA ?_; walk_at "i"; walk_at "l"; refine r_seti ⋯ ⋯ ⋯ ⋯ ⋯ (a_S_zp1 _) (by decide) ?_; intro _ _ _ _; walk_at "n"; refine r_assignA ?_; walk_at "i"; walk_at "l"; refine r_seti ⋯ ⋯ ⋯ ⋯ ⋯ (a_S_zp2 _) (by decide) ?_; intro _ _ _ _; walk_at "n"; refine r_assignA ?_; walk_at "i"; walk_at "l"; refine r_seti ⋯ ⋯ ⋯ ⋯ ⋯ (a_S_loop _) (by decide) ?_; intro _ _ _ _; walk_at "n"; refine r_assignA ?_; walk_at "i"; walk_at "l"; refine r_seti ⋯ ⋯ ⋯ ⋯ ⋯ (a_S_minimum _) (by decide) ?_; intro _ _ _ _; walk_at "n"; refine r_assignA ?_; walk_at "i"; walk_at "l"; refine r_seti ⋯ ⋯ ⋯ ⋯ ⋯ (a_S_cut_in _) (by decide) ?_; intro _ _ _ _; walk_at "n"; refine r_assignA ?_; walk_at "i"; walk_at "l"; refine r_seti ⋯ ⋯ ⋯ ⋯ ⋯ (a_S_single_cut_in _) (by decide) ?_; intro _ _ _ _; walk_at "n"; refine r_assignA ?_; walk_at "i"; walk_at "l"; refine r_seti ⋯ ⋯ ⋯ ⋯ ⋯ (a_S_single_width _) (by decide) ?_; intro _ _ _ _; walk_at "n"; refine r_assignA ?_; walk_at "i"; walk_at "l"; refine r_seti ⋯ ⋯ ⋯ ⋯ ⋯ (a_S_delta_base _) (by decide) ?_; intro _ _ _ _; walk_at "n"; refine r_assignA ?_; walk_at "i"; walk_at "l"; refine r_seti ⋯ ⋯ ⋯ ⋯ ⋯ (a_S_delta_shift _) (by decide) ?_; intro _ _ _ _; walk_at "n"; refine r_assignA ?_; refine r_bool ?_; walk_at "l"; refine r_seti ⋯ ⋯ ⋯ ⋯ ⋯ (a_S_auto_flip _) (by decide) ?_; intro _ _ _ _; walk_at "n"; refine r_assignA ?_; refine r_callG ⋯ ⋯ (g_named _) (k_named _) ?_; refine r_args ?_; refine r_str ⋯ ?_; intro _ _ _; refine r_args0 ?_; walk_at "k"
  refine sp_named C ⋯ (upK_not h95 (by decide)) (upK_not h96 (by decide)) (Rm.less hA1) ?_
  intro xr s6 S6
  walk_at "l"; refine r_seti ⋯ ⋯ ⋯ ⋯ ⋯ (a_S_rounding _) (by decide) ?_; intro _ _ _ _; walk_at "e"; refine r_nil ?_; dsimp only
  rename_i o7 s7 D7 S7
  have ex : up ad 0 dx 0 = dx := up_same ..
  rw [ex] at gx
  refine ⟨rfl, k _ dx o7 G5 _ (fun b o g => le5 _ _ (le4 _ _ (le3 _ _ (le _ _ g)))) gx ?_ ⟨_, D7.le (by decide), ?_⟩⟩
  · exact (S1.lessG (fun a o g => g)).backZ S7.H S7.S
  · exact ⟨⟨_, rfl, p3⟩, ⟨_, rfl, p4⟩, ⟨_, rfl, p5⟩, ⟨_, rfl⟩, ⟨_, rfl⟩, ⟨_, rfl⟩, ⟨_, rfl⟩, rfl, rfl, rfl⟩
theorem sp_stack {t : Tok} (C : Cx w B) (S : St B L loc Z G ad ob us s₀ s) (h1 : ¬ us 1) (h2 : ¬ us 2) (hA : Rm A 2)
    (k : ∀ x dx dl o G' s', (∀ b o, G b o → G' b o) → G' x (instObj 330 dx) → St B L loc Z G' (up (up ad 1 dx) 2 dl) (up (up ob 1 o) 2 (lstO [])) (upK (upK us 1) 2) s₀ s' →
      (∃ mf, DictIs o mf 50 ∧ mf "numbers" = some (.ref dl) ∧ (∃ t, mf "most" = some (.int 64 t)) ∧ mf "push" = none ∧ mf "pop" = none) → Q (.ref x) s') : WP pw w A (call (.ref 330) [.int 64 t]) Q E s := by
  refine r_makeIn (κ := 1) (fun x => [("self", .ref x), ("most", .int 64 t)]) C S h1 hA (mk_K w) (in_K w) (ty_K w) rfl rfl (fun _ _ _ => BindsTo.of_eq rfl) (fun _ => locs rfl) ?_
  intro A1 L1 x dx G2 s1 s2 hA1 le gx S1 S2
  have ux : upK us 1 1 := Or.inr rfl
  have D0 := dictIsL
  walk_at "c"; refine r_assignA ?_; walk_at "l"; walk_at "l"; refine r_seti ⋯ ⋯ ⋯ ⋯ ⋯ (a_K_most _) (by decide) ?_; intro _ _ _ _; walk_at "n"; refine r_assignA (r_listE (r_args0 ?_))
  refine x_hold ⋯ ?_
  intro b3 G3 s3 le3 N3 S3
  have gx3 := le3 _ _ gx
  walk_at "l"; refine r_seti ⋯ ⋯ ⋯ ⋯ ⋯ (a_K_numbers _) (by decide) ?_; intro _ _ _ _; walk_at "e"; refine r_nil ?_; dsimp only
  rename_i o7 s7 D7 S7
  have ex : up ad 1 dx 1 = dx := up_same ..
  rw [ex] at gx
  have S8 := (N3.back S7).key (k := 2) (N3.get S7) N3.n.z N3.n.g N3.n.k N3.n.l
  exact ⟨rfl, k _ dx b3 o7 G2 _ le gx (S1.backZ S8.H S8.S) ⟨_, D7.le (by decide), rfl, ⟨_, rfl⟩, rfl, rfl⟩⟩
end
section
variable {ad : Nat → Addr} {ob : Nat → Obj} {u : Tok} {l : Addr} {o : Obj} {x : Int}
theorem St.keyA (S : St B L loc Z G ad ob us s₀ s) (k : Nat) (hb : s.heap.get? b = some o) (N : New Z G ad us L b) :
    ∃ ad' ob', St B L loc Z G ad' ob' (upK us k) s₀ s ∧ ad' k = b ∧ ob' k = o ∧ ∀ j, j ≠ k → ad' j = ad j ∧ ob' j = ob j :=
  ⟨_, _, S.key hb N.z N.g N.k N.l, up_same .., up_same .., fun j h => ⟨up_other _ _ h, up_other _ _ h⟩⟩
theorem r_seta {k n : Nat} {x Cc : Addr} {es : List (Str × Value)} {name : Str} {v : Value} {Q : Unit → Shared → Prop} (C : Cx w B) (S : St B L loc Z G ad ob us s₀ s) (gx : G x (instObj Cc (ad k))) (u : us k) (hd : DictIs (ob k) (fun y => es.lookup y) n) (cf : ClsA w Cc name) (hn : n < 1000)
    (h : ∀ ob' s', DictIs (ob' k) (fun y => ((name, v) :: es).lookup y) (n + 1) → (∀ j, j ≠ k → ob' j = ob j) → St B L loc Z G ad ob' us s₀ s' → Q () s') : WP pw w A (setAttr (.ref x) name v) Q E s := by
  have e : ob = up ob k (ob k) := (up_self ob k).symm
  have S' := S
  rw [e] at S'
  exact r_seti C S' gx u hd cf hn fun o s' d S2 => h _ s' (by rw [up_same]; exact d) (fun j q => up_other _ _ q) S2
theorem sp_work {v1 v2 : Value} (C : Cx w B) (S : St B L loc Z G ad ob us s₀ s) (h4 : ¬ us 4) (h0 : ¬ us 0) (h1 : ¬ us 1) (h2 : ¬ us 2) (h95 : ¬ us 95) (h96 : ¬ us 96) (hA : Rm A 12)
    (k : ∀ x st kk G' ad' ob' s', (∀ b o, G b o → G' b o) → G' x (instObj 381 (ad' 4)) → G' st (instObj 274 (ad' 0)) → G' kk (instObj 330 (ad' 1)) → St B L loc Z G' ad' ob' (upK (upK (upK (upK us 4) 0) 1) 2) s₀ s' →
      (∀ j, j ≠ 4 → j ≠ 0 → j ≠ 1 → j ≠ 2 → ad' j = ad j ∧ ob' j = ob j) → (∃ mf, DictIs (ob' 0) mf 50 ∧ SMap G' D00 mf) → (∃ mf, DictIs (ob' 1) mf 50 ∧ mf "numbers" = some (.ref (ad' 2)) ∧ (∃ t, mf "most" = some (.int 64 t)) ∧ mf "push" = none ∧ mf "pop" = none) → ob' 2 = lstO [] →
      (∃ mf, DictIs (ob' 4) mf 50 ∧ mf "state" = some (.ref st) ∧ mf "stack" = some (.ref kk) ∧ mf "zones" = some v1 ∧ mf "zone" = none ∧ mf "next_loop" = none) → Q (.ref x) s') : WP pw w A (call (.ref 381) [v1, v2]) Q E s := by
  refine r_makeIn (κ := 4) (fun x => [("self", .ref x), ("zones", v1), ("cvt", v2), ("stack_most", _), ("ppem", _), ("point_size", _), ("scale", _)]) C S h4 hA (mk_W w) (in_W w) (ty_W w) rfl rfl (fun _ _ X => binds_K X rfl rfl rfl rfl rfl) (fun _ => locs rfl) ?_
  intro A1 L1 x dx G2 s1 s2 hA1 le gx S1 S2
  have ux : upK us 4 4 := Or.inr rfl
  have D0 : DictIs (up ob 4 emptyDict 4) (fun y => ([] : List (Str × Value)).lookup y) 0 := by rw [up_same]; exact dictIsL
  walk_at "c"; refine r_assignA ?_; refine r_callG0 ⋯ ⋯ (g_GraphicsState _) (kc_S _) ?_
  refine sp_state C ⋯ (upK_not h0 (by decide)) (upK_not h95 (by decide)) (upK_not h96 (by decide)) (Rm.less hA1) ?_
  rintro st d0 o0 G3 s3 le3 g3 S3 ⟨mf0, hd0, hm0⟩
  walk_at "l"
  refine r_seta (k := 4) C ⋯ (by rw [up_other _ _ (by decide)]; exact le3 _ _ gx) (show upK (upK us 4) 0 4 from Or.inl ux) (by rw [up_other _ _ (by decide)]; exact D0) (a_W_state w) (by decide) ?_
  intro ob4 s4 D4 E4 S4
  clear S3
  walk_at "n"; refine r_assignA ?_; refine r_callG ⋯ ⋯ (g_HintStack _) (kc_K _) ?_; refine r_args ?_; walk_at "l"; refine r_args0 ?_; walk_at "k"
  refine sp_stack C ⋯ (upK_not (upK_not h1 (by decide)) (by decide)) (upK_not (upK_not h2 (by decide)) (by decide)) (Rm.less hA1) ?_
  rintro kk d1 dl o1 G5 s5 le5 g5 S5 ⟨mf1, hd1, hn1, hm1, hp1, hq1⟩
  have gx5 : G5 x (instObj 381 (up (up (up (up ad 4 dx) 0 d0) 1 d1) 2 dl 4)) := by rw [up_other _ _ (by decide), up_other _ _ (by decide), up_other _ _ (by decide)]; exact le5 _ _ (le3 _ _ gx)
  have u5 : upK (upK (upK (upK us 4) 0) 1) 2 4 := Or.inl (Or.inl (Or.inl ux))
  have D5 := D4
  rw [show ob4 4 = up (up ob4 1 o1) 2 (lstO []) 4 by rw [up_other _ _ (by decide), up_other _ _ (by decide)]] at D5
  clear S4
  walk_at "l"
  refine r_seta (k := 4) C ⋯ gx5 u5 D5 (a_W_stack w) (by decide) ?_
  intro ob6 s6 D6 E6 S6
  walk_at "n"; refine r_assignA ?_; walk_at "l"; walk_at "l"
  refine r_seta (k := 4) C ⋯ gx5 u5 D6 (a_W_zones w) (by decide) ?_
  intro ob7 s7 D7 E7 S7
  walk_at "n"; refine r_assignA ?_; walk_at "l"; walk_at "l"
  refine r_seta (k := 4) C ⋯ gx5 u5 D7 (a_W_cvt w) (by decide) ?_
  intro ob8 s8 D8 E8 S8
  walk_at "n"; refine r_assignA ?_
  refine r_newDict ⋯ ?_
  intro b9 s9 S9 hb9 N9
  walk_at "l"
  refine r_seta (k := 4) C ⋯ gx5 u5 D8 (a_W_storage w) (by decide) ?_
  intro ob10 s10 D10 E10 S10
  walk_at "n"; refine r_assignA ?_; walk_at "l"; walk_at "l"
  refine r_seta (k := 4) C ⋯ gx5 u5 D10 (a_W_ppem w) (by decide) ?_
  intro ob11 s11 D11 E11 S11
  walk_at "n"; refine r_assignA ?_; walk_at "l"; walk_at "l"
  refine r_seta (k := 4) C ⋯ gx5 u5 D11 (a_W_point_size w) (by decide) ?_
  intro ob12 s12 D12 E12 S12
  walk_at "n"; refine r_assignA ?_; walk_at "l"; walk_at "l"
  refine r_seta (k := 4) C ⋯ gx5 u5 D12 (a_W_scale w) (by decide) ?_
  intro ob13 s13 D13 E13 S13
  walk_at "e"; refine r_nil ?_; dsimp only
  have E : ∀ j, j ≠ 4 → ob13 j = up (up ob4 1 o1) 2 (lstO []) j := fun j h => (E13 j h).trans ((E12 j h).trans ((E11 j h).trans ((E10 j h).trans ((E8 j h).trans ((E7 j h).trans (E6 j h))))))
  refine ⟨rfl, k x st kk G5 _ ob13 _ (fun b o g => le5 _ _ (le3 _ _ (le _ _ g))) gx5 ?_ ?_ (S1.backZ S13.H S13.S) (fun j h4 h0 h1 h2 => ⟨?_, ?_⟩) ⟨mf0, ?_, ?_⟩ ⟨mf1, ?_, ?_, hm1, hp1, hq1⟩ ?_ ⟨_, D13.le (by decide), rfl, rfl, rfl, rfl, rfl⟩⟩
  · rw [up_other _ _ (by decide), up_other _ _ (by decide), up_same]; exact le5 _ _ g3
  · rw [up_other _ _ (by decide), up_same]; exact g5
  · rw [up_other _ _ h2, up_other _ _ h1, up_other _ _ h0, up_other _ _ h4]
  · rw [E j h4, up_other _ _ h2, up_other _ _ h1, E4 j h4, up_other _ _ h0, up_other _ _ h4]
  · rw [E 0 (by decide), up_other _ _ (by decide), up_other _ _ (by decide), E4 0 (by decide), up_same]; exact hd0
  · exact hm0.mono le5
  · rw [E 1 (by decide), up_other _ _ (by decide), up_same]; exact hd1
  · rw [up_same]; exact hn1
  · rw [E 2 (by decide), up_same]
end
noncomputable abbrev tScope : Scope := { kind := .function, names := [(".0", .local), ("point", .local), ("tuple", .globalImplicit)], isGenerator := false, isCoroutine := false }
noncomputable abbrev fScope : Scope := { kind := .function, names := [(".0", .local), ("point", .local)], isGenerator := false, isCoroutine := false }
section
variable {ad : Nat → Addr} {ob : Nat → Obj} {u : Tok} {l : Addr} {o : Obj} {x : Int}
theorem r_getj {k n : Nat} {x Cc : Addr} {es : List (Str × Value)} {name : Str} {v : Value} {expr : Bool} (C : Cx w B) (S : St B L loc Z G ad ob us s₀ s) (gx : G x (instObj Cc (ad k))) (u : us k) (hd : DictIs (ob k) (fun y => es.lookup y) n) (cf : ClsA w Cc name) (hv : es.lookup name = some v) (hh : handedIn v = true)
    (h : ∀ s', St B L loc Z G ad ob us s₀ s' → Q v s') : WP pw w A (getAttr (.ref x) name expr) Q E s := r_get C S gx u hd cf hv hh h
noncomputable def zKeys (i : Nat) (j : Nat) : Prop := j = 5 + i ∨ (16 * i + 16 ≤ j ∧ j < 16 * i + 20)
noncomputable def Len (o : Obj) (n : Nat) : Prop := ∃ vs, IsL o vs ∧ vs.length = n
theorem x_own (C : Cx w B) (S : St B L loc Z G ad ob us s₀ s) {a : Addr} {o : Obj} (h : (KK w).lookup a = some o) (st : Still o) : ∃ G2, (∀ b o, G b o → G2 b o) ∧ G2 a o ∧ St B L loc Z G2 ad ob us s₀ s := by
  have hB := C.1 _ _ h
  exact S.addG' (S.H.base _ _ hB) st fun k u e => (S.H.dis k u).1 _ (e ▸ S.H.bz _ _ hB)
theorem compTuples {P1 P2 P3 P4 P5 P6 : Pos} {pts pt : Addr} {t1 t2 : Tok} {n : Nat} (C : Cx w B) (S : St B L loc Z G ad ob us s₀ s) (h84 : ¬ us 84) (h85 : ¬ us 85) (hh : A.handled = none) (hp : loc.lookup ("points" : Str) = some (.ref pts)) (hE : EnvOk env L) (hx : env.kindOf "points" = some .local)
    (gp : G pts (lstO (List.replicate n (.ref pt)))) (gt : G pt (tupO [.int 0 t1, .int 0 t2])) (hn : n ≤ 10) (hclos : closureFor tScope env = pure []) (hst : ∀ C', (cEnv tScope [] C' env).kindOf "tuple" = some .globalImplicit) (hpt : ∀ C', (cEnv tScope [] C' env).kindOf "point" = some .local)
    (h : ∀ b o s', St B L loc Z G ad ob us s₀ s' → s'.heap.get? b = some o → Len o n → New Z G ad us L b → Q (.ref b) s') : WP pw w A (eval (.ListComp (.Call (.Name "tuple" P1) [.Name "point" P2] [] P3) [⟨.Name "point" P4, .Name "points" P5, [], 0⟩] tScope P6) env) Q E s := by
  let J : InvC := fun c ys G' ad' ob' => ys.length = c ∧ G' = G ∧ ∀ j, j ≠ 84 → j ≠ 85 → ad' j = ad j ∧ ob' j = ob j
  refine r_compList (B := B) (Z := Z) (s₀ := s₀) (us := us) 84 J h84 h85 ?_ hh ?_ hE (by decide) rfl rfl (fun _ => rfl) hclos (by decide)
  · rintro c ys G' ad' ob' b o k hk ⟨h1, h2, h3⟩
    refine ⟨h1, h2, fun j n1 n2 => ?_⟩
    have : j ≠ k := fun e => by subst e; rcases hk with rfl | rfl <;> contradiction
    rw [up_other _ _ this, up_other _ _ this]
    exact h3 j n1 n2
  refine r_loc S hp ?_ hE hx
  refine ⟨pts, List.replicate n (.ref pt), loc, G, ad, ob, rfl, by rw [List.length_replicate]; exact oq0 hn, S, ⟨rfl, rfl, fun _ _ _ => ⟨rfl, rfl⟩⟩, ?_, ?_, ?_⟩
  · rintro c ys G' ad' ob' ⟨_, rfl, _⟩
    exact .inl ⟨_, gp, IsL.lst _⟩
  · rintro c ys G' ad' ob' C' Z' loc' s₂ s₃ v hv ⟨h1, rfl, h3⟩ S3
    have hE' : EnvOk (cEnv tScope [] C' env) C' := ⟨rfl, rfl, hE.g, hE.b⟩
    obtain rfl : v = .ref pt := by
      have := List.mem_of_getElem? hv
      exact (List.mem_replicate.mp this).2
    refine r_callT C S3 (b_tuple _) bb_tuple (r_args (r_loc S3 rfl (r_args0 ?_) hE' (hpt C'))) (by decide) hE' (hst C')
    refine r_tupSame S3 gt ?_
    exact ⟨_, _, _, _, S3, ⟨by rw [List.length_append, h1]; rfl, rfl, h3⟩, ⟨rfl, rfl⟩, rfl, rfl⟩
  · rintro ys m G' ad' ob' Dd s₂ ⟨h1, rfl, h3⟩ S4 hD N4
    rw [List.length_replicate] at h1
    have hk : ∀ j, us j → ad' j = ad j ∧ ob' j = ob j := fun j u => h3 j (fun e => h84 (e ▸ u)) (fun e => h85 (e ▸ u))
    exact h _ _ _ (S4.congrK hk) hD ⟨ys, ⟨rfl, _, rfl⟩, h1⟩ ⟨fun j u => by rw [← (hk j u).1]; exact N4.k j u, N4.z, N4.g, N4.l⟩
theorem compFalses {P1 P2 P3 P4 P5 P6 : Pos} {k1 k2 : Nat} {pts pt : Addr} {t1 t2 : Tok} {n : Nat} (C : Cx w B) (S : St B L loc Z G ad ob us s₀ s) (h84 : ¬ us 84) (h85 : ¬ us 85) (hh : A.handled = none) (hp : loc.lookup ("points" : Str) = some (.ref pts)) (hE : EnvOk env L) (hx : env.kindOf "points" = some .local)
    (gp : G pts (lstO (List.replicate n (.ref pt)))) (gt : G pt (tupO [.int 0 t1, .int 0 t2])) (hn : n ≤ 10) (hclos : closureFor fScope env = pure [])
    (h : ∀ b o s', St B L loc Z G ad ob us s₀ s' → s'.heap.get? b = some o → Len o n → New Z G ad us L b → Q (.ref b) s') : WP pw w A (eval (.ListComp (.List [.Constant (.bool false) k1 P1, .Constant (.bool false) k2 P2] P3) [⟨.Name "point" P4, .Name "points" P5, [], 0⟩] fScope P6) env) Q E s := by
  let J : InvC := fun c ys G' ad' ob' => ys.length = c ∧ G' = G ∧ ∀ j, j ≠ 84 → j ≠ 85 → ad' j = ad j ∧ ob' j = ob j
  refine r_compList (B := B) (Z := Z) (s₀ := s₀) (us := us) 84 J h84 h85 ?_ hh ?_ hE (by decide) rfl rfl (fun _ => rfl) hclos (by decide)
  · rintro c ys G' ad' ob' b o k hk ⟨h1, h2, h3⟩
    refine ⟨h1, h2, fun j n1 n2 => ?_⟩
    have : j ≠ k := fun e => by subst e; rcases hk with rfl | rfl <;> contradiction
    rw [up_other _ _ this, up_other _ _ this]
    exact h3 j n1 n2
  refine r_loc S hp ?_ hE hx
  refine ⟨pts, List.replicate n (.ref pt), loc, G, ad, ob, rfl, by rw [List.length_replicate]; exact oq0 hn, S, ⟨rfl, rfl, fun _ _ _ => ⟨rfl, rfl⟩⟩, ?_, ?_, ?_⟩
  · rintro c ys G' ad' ob' ⟨_, rfl, _⟩
    exact .inl ⟨_, gp, IsL.lst _⟩
  · rintro c ys G' ad' ob' C' Z' loc' s₂ s₃ v hv ⟨h1, rfl, h3⟩ S3
    have hE' : EnvOk (cEnv fScope [] C' env) C' := ⟨rfl, rfl, hE.g, hE.b⟩
    obtain rfl : v = .ref pt := by
      have := List.mem_of_getElem? hv
      exact (List.mem_replicate.mp this).2
    refine r_listE (r_args (r_bool (r_args (r_bool (r_args0 (r_list S3 fun bb s4 S4 _ _ => ?_))))))
    exact ⟨_, _, _, _, S4, ⟨by rw [List.length_append, h1]; rfl, rfl, h3⟩, ⟨rfl, rfl⟩, rfl, rfl⟩
  · rintro ys m G' ad' ob' Dd s₂ ⟨h1, rfl, h3⟩ S4 hD N4
    rw [List.length_replicate] at h1
    have hk : ∀ j, us j → ad' j = ad j ∧ ob' j = ob j := fun j u => h3 j (fun e => h84 (e ▸ u)) (fun e => h85 (e ▸ u))
    exact h _ _ _ (S4.congrK hk) hD ⟨ys, ⟨rfl, _, rfl⟩, h1⟩ ⟨fun j u => by rw [← (hk j u).1]; exact N4.k j u, N4.z, N4.g, N4.l⟩
end
section
variable {ad : Nat → Addr} {ob : Nat → Obj} {u : Tok} {l : Addr} {o : Obj} {x : Int}
theorem sp_zone0 {pts pt : Addr} {t1 t2 : Tok} {n i : Nat} (C : Cx w B) (S : St B L loc Z G ad ob us s₀ s) (hi : i < 2) (hz : ∀ j, zKeys i j → ¬ us j) (h81 : ∀ j, 81 ≤ j → ¬ us j) (hA : Rm A 6) (gp : G pts (lstO (List.replicate n (.ref pt)))) (gt : G pt (tupO [.int 0 t1, .int 0 t2])) (hn : n ≤ 10)
    (k : ∀ x G' ad' ob' s', (∀ b o, G b o → G' b o) → G' x (instObj 423 (ad' (5 + i))) → St B L loc Z G' ad' ob' (fun j => us j ∨ zKeys i j) s₀ s' → (∀ j, us j → ad' j = ad j ∧ ob' j = ob j) → ZMap (ob' (5 + i)) ad' (16 * i + 16) → (∀ c, c < 4 → Len (ob' (16 * i + 16 + c)) n) → Q (.ref x) s') : WP pw w A (call (.ref 423) [.ref pts]) Q E s := by
  refine r_makeIn (κ := 5 + i) (fun x => [("self", .ref x), ("points", .ref pts), ("ends", .ref 393), ("on_curve", .none)]) C S (hz _ (.inl rfl)) hA (mk_Z w) (in_Z w) (ty_Z w) rfl rfl (fun _ _ X => binds_K X rfl rfl rfl rfl rfl) (fun _ => locs rfl) ?_
  intro A1 L1 x dx G2 s1 s2 hA1 le gx S1 S2
  replace gp := le _ _ gp
  replace gt := le _ _ gt
  obtain ⟨G3, le3, ge, S2'⟩ := x_own (a := 393) (o := tupO []) C S2 rfl (still_tup _)
  replace gp := le3 _ _ gp
  replace gt := le3 _ _ gt
  replace gx := le3 _ _ gx
  replace le : ∀ b o, G b o → G3 b o := fun b o g => le3 _ _ (le _ _ g)
  clear S2
  have D2 : DictIs (up ob (5 + i) emptyDict (5 + i)) (fun y => ([] : List (Str × Value)).lookup y) 0 := by rw [up_same]; exact dictIsL
  have ux : upK us (5 + i) (5 + i) := Or.inr rfl
  have ho : ∀ j, us j → up ad (5 + i) dx j = ad j ∧ up ob (5 + i) emptyDict j = ob j := fun j u => ⟨up_other _ _ (fun e => hz (5 + i) (.inl rfl) (e ▸ u)), up_other _ _ (fun e => hz (5 + i) (.inl rfl) (e ▸ u))⟩
  have nza : ∀ j, upK us (5 + i) j → j < 81 ∧ ¬ (16 * i + 16 ≤ j ∧ j < 16 * i + 20) := fun j u => by
    rcases u with u | rfl
    · exact ⟨Nat.lt_of_not_le fun q => h81 j q u, fun q => hz j (.inr q) u⟩
    · exact ⟨by exact oq1 hi, by exact oq2⟩
  have n5 : ∀ j, us j → j ≠ 5 + i := fun j u e => hz (5 + i) (.inl rfl) (e ▸ u)
  clear h81 hz
  generalize up ad (5 + i) dx = ad2 at *
  generalize up ob (5 + i) emptyDict = ob2 at *
  walk_at "c"; refine r_assignA ?_
  refine compTuples C ⋯ (fun q => absurd (nza _ q).1 (by decide)) (fun q => absurd (nza _ q).1 (by decide)) hA1.h rfl ⟨rfl, rfl, rfl, rfl⟩ rfl gp gt hn rfl (fun _ => rfl) (fun _ => rfl) ?_
  intro bla ola sla Sla hla lla Nla
  obtain ⟨ad3, ob3, S3, eaa, eoa, eka⟩ := Sla.keyA (16 * i + 16 + 0) hla Nla
  have gxa : G3 x (instObj 423 (ad3 (5 + i))) := by rw [(eka _ (oq3)).1]; exact gx
  have D3 := D2
  rw [← (eka (5 + i) (oq3)).2] at D3
  clear Sla
  walk_at "l"
  refine r_seta (k := 5 + i) C ⋯ gxa (Or.inl (ux)) D3 (a_Z_original w) (by decide) ?_
  intro ob3b sba D3b Ea Sba
  clear S3 D3
  have nzb : ∀ j, upK (upK us (5 + i)) (16 * i + 16 + 0) j → j < 81 ∧ ¬ (16 * i + 16 + 1 ≤ j ∧ j < 16 * i + 20) := fun j u => by
    rcases u with u | rfl
    · have := nza j u; exact ⟨this.1, by exact oq4 this⟩
    · exact ⟨by exact oq5 hi, by exact oq6⟩
  walk_at "n"; refine r_assignA ?_
  refine compTuples C ⋯ (fun q => absurd (nzb _ q).1 (by decide)) (fun q => absurd (nzb _ q).1 (by decide)) hA1.h rfl ⟨rfl, rfl, rfl, rfl⟩ rfl gp gt hn rfl (fun _ => rfl) (fun _ => rfl) ?_
  intro blb olb slb Slb hlb llb Nlb
  obtain ⟨ad4, ob4, S4, eab, eob, ekb⟩ := Slb.keyA (16 * i + 16 + 1) hlb Nlb
  have gxb : G3 x (instObj 423 (ad4 (5 + i))) := by rw [(ekb _ (oq7)).1]; exact gxa
  have D4 := D3b
  rw [← (ekb (5 + i) (oq7)).2] at D4
  clear Slb
  walk_at "l"
  refine r_seta (k := 5 + i) C ⋯ gxb (Or.inl (Or.inl (ux))) D4 (a_Z_current w) (by decide) ?_
  intro ob4b sbb D4b Eb Sbb
  clear S4 D4
  have nzc : ∀ j, upK (upK (upK us (5 + i)) (16 * i + 16 + 0)) (16 * i + 16 + 1) j → j < 81 ∧ ¬ (16 * i + 16 + 2 ≤ j ∧ j < 16 * i + 20) := fun j u => by
    rcases u with u | rfl
    · have := nzb j u; exact ⟨this.1, by exact oq8 this⟩
    · exact ⟨by exact oq9 hi, by exact oq10⟩
  walk_at "n"; refine r_assignA ?_
  refine compFalses C ⋯ (fun q => absurd (nzc _ q).1 (by decide)) (fun q => absurd (nzc _ q).1 (by decide)) hA1.h rfl ⟨rfl, rfl, rfl, rfl⟩ rfl gp gt hn rfl ?_
  intro blc olc slc Slc hlc llc Nlc
  obtain ⟨ad5, ob5, S5, eac, eoc, ekc⟩ := Slc.keyA (16 * i + 16 + 2) hlc Nlc
  have gxc : G3 x (instObj 423 (ad5 (5 + i))) := by rw [(ekc _ (oq11)).1]; exact gxb
  have D5 := D4b
  rw [← (ekc (5 + i) (oq11)).2] at D5
  clear Slc
  walk_at "l"
  refine r_seta (k := 5 + i) C ⋯ gxc (Or.inl (Or.inl (Or.inl (ux)))) D5 (a_Z_touched w) (by decide) ?_
  intro ob5b sbc D5b Ec Sbc
  clear S5 D5
  have nzd : ∀ j, upK (upK (upK (upK us (5 + i)) (16 * i + 16 + 0)) (16 * i + 16 + 1)) (16 * i + 16 + 2) j → j < 81 ∧ ¬ (16 * i + 16 + 3 ≤ j ∧ j < 16 * i + 20) := fun j u => by
    rcases u with u | rfl
    · have := nzc j u; exact ⟨this.1, by exact oq12 this⟩
    · exact ⟨by exact oq13 hi, by exact oq14⟩
  walk_at "n"; refine r_assignA ?_; refine r_callT ⋯ ⋯ (b_list _) bb_list ?_; refine r_args ?_; walk_at "l"; refine r_args0 ?_
  refine r_listCopy ⋯ ge (.inr rfl) (by first | exact Nat.le_of_ble_eq_true rfl | omega) ?_
  intro be de Ge se lee Ne Se
  have gxe := lee _ _ gxc
  walk_at "l"
  refine r_seta (k := 5 + i) C ⋯ gxe (Or.inl (Or.inl (Or.inl ux))) D5b (a_Z_ends w) (by decide) ?_
  intro ob6 s6 D6 E6 S6
  replace S6 := Ne.back S6
  clear Se
  walk_at "n"; refine r_assignA (r_ifexp (r_isCmp ?_)); walk_at "l"; refine r_none ?_
  refine r_isNone ?_
  refine r_truthy ?_; refine itt ?_; refine r_bin (r_listE (r_args ?_)); refine r_bool ?_; refine r_args0 ?_
  refine x_mklist ⋯ ?_
  intro b7 G7 s7 le7 g7 S7
  have gx7 := le7 _ _ gxc
  refine r_callB ⋯ ⋯ (b_len _) bb_len ?_; refine r_args (r_attrN ?_); walk_at "l"
  refine r_getj (k := 5 + i) C ⋯ gx7 (Or.inl (Or.inl (Or.inl ux))) D6 (a_Z_original w) rfl rfl ?_
  intro s8 S8
  refine r_args0 ?_
  obtain ⟨vsa, hva, hna⟩ := lla
  have hga : s8.heap.get? bla = some ola := by
    have e1 := S8.H.own (16 * i + 16 + 0) (Or.inl (Or.inl (Or.inr rfl)))
    rw [(ekc _ (oq15)).1, (ekb _ (oq16)).1, eaa, E6 _ (oq17), Ec _ (oq17), (ekc _ (oq15)).2, Eb _ (oq17), (ekb _ (oq16)).2, Ea _ (oq17), eoa] at e1
    exact e1
  refine r_len ⋯ (IsL.at hga hva) (oq18 hn hna) ?_
  intro tl s9 S9
  skip
  refine r_mul1 ⋯ (S9.get g7) (oq19 hn hna) ?_
  intro b10 s10 S10 h10 N10
  obtain ⟨ad11, ob11, S11, ea11, eo11, ek11⟩ := S10.keyA (16 * i + 16 + 3) h10 N10
  have gx11 : G7 x (instObj 423 (ad11 (5 + i))) := by rw [(ek11 _ (oq20)).1]; exact gx7
  have D11 := D6
  rw [← (ek11 (5 + i) (oq20)).2] at D11
  clear S10
  walk_at "l"
  refine r_seta (k := 5 + i) C ⋯ gx11 (Or.inl (Or.inl (Or.inl (Or.inl ux)))) D11 (a_Z_on_curve w) (by decide) ?_
  intro ob12 s12 D12 E12 S12
  walk_at "e"; refine r_nil ?_; dsimp only
  have a0 : ad11 (16 * i + 16) = bla := (ek11 _ (oq21)).1.trans ((ekc _ (oq22)).1.trans ((ekb _ (oq23)).1.trans eaa))
  have a1 : ad11 (16 * i + 16 + 1) = blb := (ek11 _ (oq24)).1.trans ((ekc _ (oq25)).1.trans eab)
  have a2 : ad11 (16 * i + 16 + 2) = blc := (ek11 _ (oq26)).1.trans eac
  have o3 : ob12 (16 * i + 16 + 3) = _ := (E12 _ (oq27)).trans eo11
  have o2 : ob12 (16 * i + 16 + 2) = olc := (E12 _ (oq28)).trans ((ek11 _ (oq26)).2.trans ((E6 _ (oq28)).trans ((Ec _ (oq28)).trans eoc)))
  have o1 : ob12 (16 * i + 16 + 1) = olb := (E12 _ (oq29)).trans ((ek11 _ (oq24)).2.trans ((E6 _ (oq29)).trans ((Ec _ (oq29)).trans ((ekc _ (oq25)).2.trans ((Eb _ (oq29)).trans eob)))))
  have o0 : ob12 (16 * i + 16) = ola := (E12 _ (oq30)).trans ((ek11 _ (oq21)).2.trans ((E6 _ (oq30)).trans ((Ec _ (oq30)).trans ((ekc _ (oq22)).2.trans ((Eb _ (oq30)).trans ((ekb _ (oq23)).2.trans ((Ea _ (oq30)).trans eoa)))))))
  refine ⟨rfl, k x G7 ad11 ob12 s12 (fun b o g => le7 _ _ (le _ _ g)) gx11 ((S1.backZ S12.H S12.S).lessU fun j u => ?_) (fun j u => ?_) ⟨_, _, D12, ?_, ?_, ?_, ?_, rfl, rfl, rfl⟩ fun c hc => ?_⟩
  · rcases u with u | rfl | q
    · exact Or.inl (Or.inl (Or.inl (Or.inl (Or.inl u))))
    · exact Or.inl (Or.inl (Or.inl (Or.inl ux)))
    · rcases (by exact oq31 q : j = 16 * i + 16 + 0 ∨ j = 16 * i + 16 + 1 ∨ j = 16 * i + 16 + 2 ∨ j = 16 * i + 16 + 3) with q | q | q | q
      · exact Or.inl (Or.inl (Or.inl (Or.inr q)))
      · exact Or.inl (Or.inl (Or.inr q))
      · exact Or.inl (Or.inr q)
      · exact Or.inr q
  · have h1 := (nza j (Or.inl u)).2
    have h2 := n5 j u
    exact ⟨(ek11 _ (oq32 h1)).1.trans ((ekc _ (oq33 h1)).1.trans ((ekb _ (oq34 h1)).1.trans ((eka _ (oq35 h1)).1.trans (ho j u).1))),
      (E12 _ h2).trans ((ek11 _ (oq32 h1)).2.trans ((E6 _ h2).trans ((Ec _ h2).trans ((ekc _ (oq33 h1)).2.trans ((Eb _ h2).trans ((ekb _ (oq34 h1)).2.trans ((Ea _ h2).trans ((eka _ (oq35 h1)).2.trans (ho j u).2))))))))⟩
  · rw [a0]; rfl
  · rw [a1]; rfl
  · rw [a2]; rfl
  · rw [show ad11 (16 * i + 16 + 3) = b10 from ea11]; rfl
  · rcases (by exact oq36 hc : c = 0 ∨ c = 1 ∨ c = 2 ∨ c = 3) with rfl | rfl | rfl | rfl
    · show Len (ob12 (16 * i + 16)) n
      rw [o0]; exact ⟨vsa, hva, hna⟩
    · rw [o1]; exact llb
    · rw [o2]; exact llc
    · rw [o3]; exact ⟨_, IsL.lst _, by rw [List.length_replicate]; exact oq37 hna⟩
theorem sp_zone1 {pts pt en : Addr} {t1 t2 : Tok} {n i : Nat} (C : Cx w B) (S : St B L loc Z G ad ob us s₀ s) (hi : i < 2) (hz : ∀ j, zKeys i j → ¬ us j) (h81 : ∀ j, 81 ≤ j → ¬ us j) (hA : Rm A 6) (gp : G pts (lstO (List.replicate n (.ref pt)))) (gt : G pt (tupO [.int 0 t1, .int 0 t2])) (hn : n ≤ 10) {ws : List Value} (gen : G en (lstO ws)) (hws : ws.length ≤ 5)
    (k : ∀ x G' ad' ob' s', (∀ b o, G b o → G' b o) → G' x (instObj 423 (ad' (5 + i))) → St B L loc Z G' ad' ob' (fun j => us j ∨ zKeys i j) s₀ s' → (∀ j, us j → ad' j = ad j ∧ ob' j = ob j) → ZMap (ob' (5 + i)) ad' (16 * i + 16) → (∀ c, c < 4 → Len (ob' (16 * i + 16 + c)) n) → Q (.ref x) s') : WP pw w A (call (.ref 423) [.ref pts, .ref en]) Q E s := by
  refine r_makeIn (κ := 5 + i) (fun x => [("self", .ref x), ("points", .ref pts), ("ends", .ref en), ("on_curve", .none)]) C S (hz _ (.inl rfl)) hA (mk_Z w) (in_Z w) (ty_Z w) rfl rfl (fun _ _ X => binds_K X rfl rfl rfl rfl rfl) (fun _ => locs rfl) ?_
  intro A1 L1 x dx G2 s1 s2 hA1 le gx S1 S2
  replace gp := le _ _ gp
  replace gt := le _ _ gt
  have ge := le _ _ gen
  have D2 : DictIs (up ob (5 + i) emptyDict (5 + i)) (fun y => ([] : List (Str × Value)).lookup y) 0 := by rw [up_same]; exact dictIsL
  have ux : upK us (5 + i) (5 + i) := Or.inr rfl
  have ho : ∀ j, us j → up ad (5 + i) dx j = ad j ∧ up ob (5 + i) emptyDict j = ob j := fun j u => ⟨up_other _ _ (fun e => hz (5 + i) (.inl rfl) (e ▸ u)), up_other _ _ (fun e => hz (5 + i) (.inl rfl) (e ▸ u))⟩
  have nza : ∀ j, upK us (5 + i) j → j < 81 ∧ ¬ (16 * i + 16 ≤ j ∧ j < 16 * i + 20) := fun j u => by
    rcases u with u | rfl
    · exact ⟨Nat.lt_of_not_le fun q => h81 j q u, fun q => hz j (.inr q) u⟩
    · exact ⟨by exact oq1 hi, by exact oq2⟩
  have n5 : ∀ j, us j → j ≠ 5 + i := fun j u e => hz (5 + i) (.inl rfl) (e ▸ u)
  clear h81 hz
  generalize up ad (5 + i) dx = ad2 at *
  generalize up ob (5 + i) emptyDict = ob2 at *
  walk_at "c"; refine r_assignA ?_
  refine compTuples C ⋯ (fun q => absurd (nza _ q).1 (by decide)) (fun q => absurd (nza _ q).1 (by decide)) hA1.h rfl ⟨rfl, rfl, rfl, rfl⟩ rfl gp gt hn rfl (fun _ => rfl) (fun _ => rfl) ?_
  intro bla ola sla Sla hla lla Nla
  obtain ⟨ad3, ob3, S3, eaa, eoa, eka⟩ := Sla.keyA (16 * i + 16 + 0) hla Nla
  have gxa : G2 x (instObj 423 (ad3 (5 + i))) := by rw [(eka _ (oq3)).1]; exact gx
  have D3 := D2
  rw [← (eka (5 + i) (oq3)).2] at D3
  clear Sla
  walk_at "l"
  refine r_seta (k := 5 + i) C ⋯ gxa (Or.inl (ux)) D3 (a_Z_original w) (by decide) ?_
  intro ob3b sba D3b Ea Sba
  clear S3 D3
  have nzb : ∀ j, upK (upK us (5 + i)) (16 * i + 16 + 0) j → j < 81 ∧ ¬ (16 * i + 16 + 1 ≤ j ∧ j < 16 * i + 20) := fun j u => by
    rcases u with u | rfl
    · have := nza j u; exact ⟨this.1, by exact oq4 this⟩
    · exact ⟨by exact oq5 hi, by exact oq6⟩
  walk_at "n"; refine r_assignA ?_
  refine compTuples C ⋯ (fun q => absurd (nzb _ q).1 (by decide)) (fun q => absurd (nzb _ q).1 (by decide)) hA1.h rfl ⟨rfl, rfl, rfl, rfl⟩ rfl gp gt hn rfl (fun _ => rfl) (fun _ => rfl) ?_
  intro blb olb slb Slb hlb llb Nlb
  obtain ⟨ad4, ob4, S4, eab, eob, ekb⟩ := Slb.keyA (16 * i + 16 + 1) hlb Nlb
  have gxb : G2 x (instObj 423 (ad4 (5 + i))) := by rw [(ekb _ (oq7)).1]; exact gxa
  have D4 := D3b
  rw [← (ekb (5 + i) (oq7)).2] at D4
  clear Slb
  walk_at "l"
  refine r_seta (k := 5 + i) C ⋯ gxb (Or.inl (Or.inl (ux))) D4 (a_Z_current w) (by decide) ?_
  intro ob4b sbb D4b Eb Sbb
  clear S4 D4
  have nzc : ∀ j, upK (upK (upK us (5 + i)) (16 * i + 16 + 0)) (16 * i + 16 + 1) j → j < 81 ∧ ¬ (16 * i + 16 + 2 ≤ j ∧ j < 16 * i + 20) := fun j u => by
    rcases u with u | rfl
    · have := nzb j u; exact ⟨this.1, by exact oq8 this⟩
    · exact ⟨by exact oq9 hi, by exact oq10⟩
  walk_at "n"; refine r_assignA ?_
  refine compFalses C ⋯ (fun q => absurd (nzc _ q).1 (by decide)) (fun q => absurd (nzc _ q).1 (by decide)) hA1.h rfl ⟨rfl, rfl, rfl, rfl⟩ rfl gp gt hn rfl ?_
  intro blc olc slc Slc hlc llc Nlc
  obtain ⟨ad5, ob5, S5, eac, eoc, ekc⟩ := Slc.keyA (16 * i + 16 + 2) hlc Nlc
  have gxc : G2 x (instObj 423 (ad5 (5 + i))) := by rw [(ekc _ (oq11)).1]; exact gxb
  have D5 := D4b
  rw [← (ekc (5 + i) (oq11)).2] at D5
  clear Slc
  walk_at "l"
  refine r_seta (k := 5 + i) C ⋯ gxc (Or.inl (Or.inl (Or.inl (ux)))) D5 (a_Z_touched w) (by decide) ?_
  intro ob5b sbc D5b Ec Sbc
  clear S5 D5
  have nzd : ∀ j, upK (upK (upK (upK us (5 + i)) (16 * i + 16 + 0)) (16 * i + 16 + 1)) (16 * i + 16 + 2) j → j < 81 ∧ ¬ (16 * i + 16 + 3 ≤ j ∧ j < 16 * i + 20) := fun j u => by
    rcases u with u | rfl
    · have := nzc j u; exact ⟨this.1, by exact oq12 this⟩
    · exact ⟨by exact oq13 hi, by exact oq14⟩
  walk_at "n"; refine r_assignA ?_; refine r_callT ⋯ ⋯ (b_list _) bb_list ?_; refine r_args ?_; walk_at "l"; refine r_args0 ?_
  refine r_listCopy ⋯ ge (.inl (IsL.lst _)) (by first | exact Nat.le_of_ble_eq_true rfl | exact oq38 hws) ?_
  intro be de Ge se lee Ne Se
  have gxe := lee _ _ gxc
  walk_at "l"
  refine r_seta (k := 5 + i) C ⋯ gxe (Or.inl (Or.inl (Or.inl ux))) D5b (a_Z_ends w) (by decide) ?_
  intro ob6 s6 D6 E6 S6
  replace S6 := Ne.back S6
  clear Se
  walk_at "n"; refine r_assignA (r_ifexp (r_isCmp ?_)); walk_at "l"; refine r_none ?_
  refine r_isNone ?_
  refine r_truthy ?_; refine itt ?_; refine r_bin (r_listE (r_args ?_)); refine r_bool ?_; refine r_args0 ?_
  refine x_mklist ⋯ ?_
  intro b7 G7 s7 le7 g7 S7
  have gx7 := le7 _ _ gxc
  refine r_callB ⋯ ⋯ (b_len _) bb_len ?_; refine r_args (r_attrN ?_); walk_at "l"
  refine r_getj (k := 5 + i) C ⋯ gx7 (Or.inl (Or.inl (Or.inl ux))) D6 (a_Z_original w) rfl rfl ?_
  intro s8 S8
  refine r_args0 ?_
  obtain ⟨vsa, hva, hna⟩ := lla
  have hga : s8.heap.get? bla = some ola := by
    have e1 := S8.H.own (16 * i + 16 + 0) (Or.inl (Or.inl (Or.inr rfl)))
    rw [(ekc _ (oq15)).1, (ekb _ (oq16)).1, eaa, E6 _ (oq17), Ec _ (oq17), (ekc _ (oq15)).2, Eb _ (oq17), (ekb _ (oq16)).2, Ea _ (oq17), eoa] at e1
    exact e1
  refine r_len ⋯ (IsL.at hga hva) (oq18 hn hna) ?_
  intro tl s9 S9
  skip
  refine r_mul1 ⋯ (S9.get g7) (oq19 hn hna) ?_
  intro b10 s10 S10 h10 N10
  obtain ⟨ad11, ob11, S11, ea11, eo11, ek11⟩ := S10.keyA (16 * i + 16 + 3) h10 N10
  have gx11 : G7 x (instObj 423 (ad11 (5 + i))) := by rw [(ek11 _ (oq20)).1]; exact gx7
  have D11 := D6
  rw [← (ek11 (5 + i) (oq20)).2] at D11
  clear S10
  walk_at "l"
  refine r_seta (k := 5 + i) C ⋯ gx11 (Or.inl (Or.inl (Or.inl (Or.inl ux)))) D11 (a_Z_on_curve w) (by decide) ?_
  intro ob12 s12 D12 E12 S12
  walk_at "e"; refine r_nil ?_; dsimp only
  have a0 : ad11 (16 * i + 16) = bla := (ek11 _ (oq21)).1.trans ((ekc _ (oq22)).1.trans ((ekb _ (oq23)).1.trans eaa))
  have a1 : ad11 (16 * i + 16 + 1) = blb := (ek11 _ (oq24)).1.trans ((ekc _ (oq25)).1.trans eab)
  have a2 : ad11 (16 * i + 16 + 2) = blc := (ek11 _ (oq26)).1.trans eac
  have o3 : ob12 (16 * i + 16 + 3) = _ := (E12 _ (oq27)).trans eo11
  have o2 : ob12 (16 * i + 16 + 2) = olc := (E12 _ (oq28)).trans ((ek11 _ (oq26)).2.trans ((E6 _ (oq28)).trans ((Ec _ (oq28)).trans eoc)))
  have o1 : ob12 (16 * i + 16 + 1) = olb := (E12 _ (oq29)).trans ((ek11 _ (oq24)).2.trans ((E6 _ (oq29)).trans ((Ec _ (oq29)).trans ((ekc _ (oq25)).2.trans ((Eb _ (oq29)).trans eob)))))
  have o0 : ob12 (16 * i + 16) = ola := (E12 _ (oq30)).trans ((ek11 _ (oq21)).2.trans ((E6 _ (oq30)).trans ((Ec _ (oq30)).trans ((ekc _ (oq22)).2.trans ((Eb _ (oq30)).trans ((ekb _ (oq23)).2.trans ((Ea _ (oq30)).trans eoa)))))))
  refine ⟨rfl, k x G7 ad11 ob12 s12 (fun b o g => le7 _ _ (le _ _ g)) gx11 ((S1.backZ S12.H S12.S).lessU fun j u => ?_) (fun j u => ?_) ⟨_, _, D12, ?_, ?_, ?_, ?_, rfl, rfl, rfl⟩ fun c hc => ?_⟩
  · rcases u with u | rfl | q
    · exact Or.inl (Or.inl (Or.inl (Or.inl (Or.inl u))))
    · exact Or.inl (Or.inl (Or.inl (Or.inl ux)))
    · rcases (by exact oq31 q : j = 16 * i + 16 + 0 ∨ j = 16 * i + 16 + 1 ∨ j = 16 * i + 16 + 2 ∨ j = 16 * i + 16 + 3) with q | q | q | q
      · exact Or.inl (Or.inl (Or.inl (Or.inr q)))
      · exact Or.inl (Or.inl (Or.inr q))
      · exact Or.inl (Or.inr q)
      · exact Or.inr q
  · have h1 := (nza j (Or.inl u)).2
    have h2 := n5 j u
    exact ⟨(ek11 _ (oq32 h1)).1.trans ((ekc _ (oq33 h1)).1.trans ((ekb _ (oq34 h1)).1.trans ((eka _ (oq35 h1)).1.trans (ho j u).1))),
      (E12 _ h2).trans ((ek11 _ (oq32 h1)).2.trans ((E6 _ h2).trans ((Ec _ h2).trans ((ekc _ (oq33 h1)).2.trans ((Eb _ h2).trans ((ekb _ (oq34 h1)).2.trans ((Ea _ h2).trans ((eka _ (oq35 h1)).2.trans (ho j u).2))))))))⟩
  · rw [a0]; rfl
  · rw [a1]; rfl
  · rw [a2]; rfl
  · rw [show ad11 (16 * i + 16 + 3) = b10 from ea11]; rfl
  · rcases (by exact oq36 hc : c = 0 ∨ c = 1 ∨ c = 2 ∨ c = 3) with rfl | rfl | rfl | rfl
    · show Len (ob12 (16 * i + 16)) n
      rw [o0]; exact ⟨vsa, hva, hna⟩
    · rw [o1]; exact llb
    · rw [o2]; exact llc
    · rw [o3]; exact ⟨_, IsL.lst _, by rw [List.length_replicate]; exact oq37 hna⟩
end
section
variable {ad : Nat → Addr} {ob : Nat → Obj} {u : Tok} {l : Addr} {o : Obj} {x : Int}
theorem sp_one0 (C : Cx w B) (S : St B L loc Z G ad ob us s₀ s) (hu3 : us 3) (hs : SrcOk (ob 3)) (hA : Rm A 2) (g : G l (lstO vs)) (hl : 0 < vs.length ∧ vs.length < 100)
   (k : ∀ (r : Nat) v o s', vs[r]? = some v → SrcOk o → St B L loc Z G ad (up ob 3 o) us s₀ s' → Q v s') : WP pw w A (call (.ref 448) [.ref (ad 3), .ref l]) Q E s := by
  refine r_call [("source", .ref (ad 3)), ("things", .ref l)] C S.hpZ hA rfl rfl (BindsTo.of_eq rfl) (locs rfl) ?_
  intro A1 L1 s1 hA1 S1
  walk_at "c"; refine r_ret (Mine.r_sub ?_); walk_at "l"; refine r_callG ⋯ ⋯ (g_law_take _) (k_law_take _) ?_; refine r_args ?_; walk_at "l"; refine r_args ?_; refine r_callB ⋯ ⋯ (b_len _) bb_len ?_; refine r_args ?_; walk_at "l"; refine r_args0 ?_
  refine r_lenG ⋯ g (IsL.lst _) (oq67 hl) ?_
  intro t s2 S2
  refine r_args0 ?_; walk_at "k"
  refine sp_take C ⋯ hu3 hs (Rm.less hA1) (oq68 hl) ?_
  intro r t o s3 hr ho S3
  skip
  obtain ⟨v, hv⟩ : ∃ v, vs[r.toNat]? = some v := ⟨_, List.getElem?_eq_getElem (oq69 hr)⟩
  refine r_gitem ⋯ g (IsL.lst _) hr.1 (oq70 hl hr) hv ?_
  try refine nx_ret ⋯ ?_
  exact k _ _ o _ hv ho (S.backZ S3.H S3.S)
theorem spot_val {n : Nat} {v : Value} {t1 t2 t3 t4 t5 t6 : Tok} {x1 x2 x3 x4 x5 x6 : Int} (h : ∀ y ∈ [x1, x2, x3, x4, x5, x6], -100 ≤ y ∧ y ≤ 100) (hv : [Value.int x1 t1, .int x2 t2, .int x3 t3, .int x4 t4, .int x5 t5, .int x6 t6][n]? = some v) : ∃ y t, v = .int y t ∧ -100 ≤ y ∧ y ≤ 100 := by
  match n, hv with
  | 0, hv => cases hv; exact ⟨_, _, rfl, h _ (by simp)⟩
  | 1, hv => cases hv; exact ⟨_, _, rfl, h _ (by simp)⟩
  | 2, hv => cases hv; exact ⟨_, _, rfl, h _ (by simp)⟩
  | 3, hv => cases hv; exact ⟨_, _, rfl, h _ (by simp)⟩
  | 4, hv => cases hv; exact ⟨_, _, rfl, h _ (by simp)⟩
  | 5, hv => cases hv; exact ⟨_, _, rfl, h _ (by simp)⟩
  | n + 6, hv => cases hv
theorem sp_spot (C : Cx w B) (S : St B L loc Z G ad ob us s₀ s) (hu3 : us 3) (hs : SrcOk (ob 3)) (hA : Rm A 4)
   (k : ∀ v p G' o s', (∀ b o, G b o → G' b o) → IsPt G' v p → In 100 p → SrcOk o → St B L loc Z G' ad (up ob 3 o) us s₀ s' → Q v s') : WP pw w A (call (.ref 455) [.ref (ad 3)]) Q E s := by
  refine r_call [("source", .ref (ad 3))] C S.hpZ hA rfl rfl (BindsTo.of_eq rfl) (locs rfl) ?_
  intro A1 L1 s1 hA1 S1
  walk_at "c"; refine r_ret (r_tupleE (r_args ?_)); refine r_callG ⋯ ⋯ (g_law_one _) (k_law_one _) ?_; refine r_args ?_; walk_at "l"; refine r_args (r_listE (r_args ?_)); walk_at "i"; refine r_args ?_; walk_at "i"; refine r_args (r_unary ?_); walk_at "i"; refine n_neg ?_; walk_at "d"; refine r_args ?_; walk_at "i"; refine r_args ?_; walk_at "i"; refine r_args (r_unary ?_); walk_at "i"; refine n_neg ?_; walk_at "d"; refine r_args0 ?_
  refine x_mklist ⋯ ?_
  intro b2 G2 s2 le2 g2 S2
  refine r_args0 ?_; walk_at "k"
  refine sp_one0 C ⋯ hu3 hs (Rm.less hA1) g2 (by exact ⟨Nat.le_of_ble_eq_true rfl, Nat.le_of_ble_eq_true rfl⟩) ?_
  intro r v o3 s3 hv ho3 S3
  obtain ⟨y1, t1, rfl, hy1⟩ := spot_val (by decide) hv
  refine r_args ?_; refine r_callG ⋯ ⋯ (g_law_one _) (k_law_one _) ?_; refine r_args ?_; walk_at "l"; refine r_args (r_listE (r_args ?_)); walk_at "i"; refine r_args ?_; walk_at "i"; refine r_args (r_unary ?_); walk_at "i"; refine n_neg ?_; walk_at "d"; refine r_args ?_; walk_at "i"; refine r_args ?_; walk_at "i"; refine r_args (r_unary ?_); walk_at "i"; refine n_neg ?_; walk_at "d"; refine r_args0 ?_
  refine x_mklist ⋯ ?_
  intro b4 G4 s4 le4 g4 S4
  refine r_args0 ?_; walk_at "k"
  refine sp_one0 C ⋯ hu3 (by rw [up_same]; exact ho3) (Rm.less hA1) g4 (by exact ⟨Nat.le_of_ble_eq_true rfl, Nat.le_of_ble_eq_true rfl⟩) ?_
  intro r2 v2 o5 s5 hv2 ho5 S5
  obtain ⟨y2, t2, rfl, hy2⟩ := spot_val (by decide) hv2
  rw [up_up] at S5
  refine r_args0 ?_
  refine x_mkpt ⋯ ?_
  intro b6 G6 s6 le6 p6 S6
  refine nx_ret ⋯ ?_; clear Nc Qc; dsimp only
  exact k _ _ G6 o5 _ (fun b o g => le6 _ _ (le4 _ _ (le2 _ _ g))) p6 ⟨hy1, hy2⟩ ho5 (S.backZ S6.H S6.S)
theorem sp_count {z : Addr} {κ b n : Nat} {mf : Str → Option Value} {m : Nat} (C : Cx w B) (S : St B L loc Z G ad ob us s₀ s) (gz : G z (instObj 423 (ad κ))) (u : us κ) (hd : DictIs (ob κ) mf m) (hm : mf "current" = some (.ref (ad b))) (ub : us b) (hl : Len (ob b) n) (hn : n ≤ 10) (hA : Rm A 1)
   (k : ∀ t s', St B L loc Z G ad ob us s₀ s' → Q (.int n t) s') : WP pw w A (call (.ref 406) [.ref z]) Q E s := by
  refine r_call [("self", .ref z)] C S.hpZ hA rfl rfl (BindsTo.of_eq rfl) (locs rfl) ?_
  intro A1 L1 s1 hA1 S1
  walk_at "c"; refine r_ret ?_; refine r_callB ⋯ ⋯ (b_len _) bb_len ?_; refine r_args (r_attrN ?_); walk_at "l"
  refine r_get C ⋯ gz u hd (a_Z_current w) hm rfl ?_
  intro s2 S2
  refine r_args0 ?_
  obtain ⟨ws, h1, rfl⟩ := hl
  refine r_lenK ⋯ ub h1 (oq561 hn) ?_
  intro t s3 S3
  refine nx_ret ⋯ ?_; clear Nc Qc; dsimp only
  exact k _ _ (S.backZ S3.H S3.S)
theorem r_listCopyK {κ : Nat} (S : St B L loc Z G ad ob us s₀ s) (u : us κ) (hl : IsL (ob κ) vs) (hn : vs.length ≤ 1000)
    (h : ∀ b d s', St B L loc Z G ad ob us s₀ s' → s'.heap.get? b = some (listOf vs.toArray d) → New Z G ad us L b → Q (.ref b) s') : WP pw w A (call (.type "list") [.ref (ad κ)]) Q E s := by
  delta WP
  have ho := S.H.own κ u
  obtain ⟨h1, n, h2⟩ := hl
  have hsz : vs.toArray.size ≤ sizeLine := by rw [List.size_toArray, sizeLine_eq]; exact oq96 hn
  exact call_list_seq (hsz := hsz) (ad κ) (.inl rfl) ho h1 h2 fun h' c' hk hD => h _ c' _ (S.ext hk s.toks) hD (S.newAt (Nat.le_refl _))
noncomputable def addK {α : Type} (f : Nat → α) (base : Nat) (l : List α) : Nat → α := fun j => if base ≤ j then (l[j - base]?).getD (f j) else f j
theorem addK_in {α : Type} (f : Nat → α) (base : Nat) (l : List α) {j : Nat} {a : α} (h : l[j]? = some a) : addK f base l (base + j) = a := by
  unfold addK; rw [if_pos (Nat.le_add_right ..), Nat.add_sub_cancel_left, h]; rfl
theorem addK_out {α : Type} (f : Nat → α) (base : Nat) (l : List α) {j : Nat} (h : j < base ∨ base + l.length ≤ j) : addK f base l j = f j := by
  unfold addK
  split
  · rw [List.getElem?_eq_none (oq562 h ⋯)]; rfl
  · rfl
theorem St.keys (S : St B L loc Z G ad ob us s₀ s) (base : Nat) (bs : List Addr) (os : List Obj) (hlen : os.length = bs.length) (hd : bs.Nodup) (hus : ∀ j, base ≤ j → j < base + bs.length → ¬ us j)
    (hb : ∀ (j : Nat) b o, bs[j]? = some b → os[j]? = some o → s.heap.get? b = some o ∧ (∀ o, ¬ Z b o) ∧ (∀ o, ¬ G b o) ∧ (∀ k, us k → ad k ≠ b) ∧ b ≠ L) :
    St B L loc Z G (addK ad base bs) (addK ob base os) (fun j => us j ∨ (base ≤ j ∧ j < base + bs.length)) s₀ s := by
  have old : ∀ j, us j → addK ad base bs j = ad j ∧ addK ob base os j = ob j := fun j u => by
    have : j < base ∨ base + bs.length ≤ j := by
      by_cases q : base ≤ j
      · exact .inr (Nat.le_of_not_lt fun q2 => hus j q q2 u)
      · exact .inl (oq563 q)
    exact ⟨addK_out _ _ _ this, addK_out _ _ _ (by rw [hlen]; exact this)⟩
  have new : ∀ j, base ≤ j → j < base + bs.length → ∃ b o, bs[j - base]? = some b ∧ os[j - base]? = some o ∧ addK ad base bs j = b ∧ addK ob base os j = o := fun j h1 h2 => by
    obtain ⟨b, e1⟩ : ∃ b, bs[j - base]? = some b := ⟨_, List.getElem?_eq_getElem (oq564 h1 h2)⟩
    obtain ⟨o, e2⟩ : ∃ o, os[j - base]? = some o := ⟨_, List.getElem?_eq_getElem (oq565 hlen h1 h2)⟩
    have ej : j = base + (j - base) := oq566 h1
    exact ⟨b, o, e1, e2, by conv => lhs; rw [ej]
                            exact addK_in _ _ _ e1, by conv => lhs; rw [ej]
                                                       exact addK_in _ _ _ e2⟩
  refine ⟨S.F, ⟨S.H.bs, S.H.bz, S.H.sil, S.H.imm, fun j u => ?_, fun j u => ?_, fun i j ui uj e => ?_⟩, S.nz, fun j u => ?_, S.S⟩
  · rcases u with u | ⟨h1, h2⟩
    · rw [(old j u).1, (old j u).2]; exact S.H.own j u
    · obtain ⟨b, o, e1, e2, e3, e4⟩ := new j h1 h2
      rw [e3, e4]; exact (hb _ _ _ e1 e2).1
  · rcases u with u | ⟨h1, h2⟩
    · rw [(old j u).1]; exact S.H.dis j u
    · obtain ⟨b, o, e1, e2, e3, e4⟩ := new j h1 h2
      rw [e3]; exact ⟨(hb _ _ _ e1 e2).2.1, (hb _ _ _ e1 e2).2.2.1⟩
  · rcases ui with ui | ⟨h1, h2⟩ <;> rcases uj with uj | ⟨h3, h4⟩
    · rw [(old i ui).1, (old j uj).1] at e; exact S.H.inj i j ui uj e
    · obtain ⟨b, o, e1, e2, e3, e4⟩ := new j h3 h4
      rw [(old i ui).1, e3] at e
      exact absurd e ((hb _ _ _ e1 e2).2.2.2.1 i ui)
    · obtain ⟨b, o, e1, e2, e3, e4⟩ := new i h1 h2
      rw [(old j uj).1, e3] at e
      exact absurd e.symm ((hb _ _ _ e1 e2).2.2.2.1 j uj)
    · obtain ⟨b, o, e1, e2, e3, e4⟩ := new i h1 h2
      obtain ⟨b', o', f1, f2, f3, f4⟩ := new j h3 h4
      rw [e3, f3] at e
      subst e
      have h5 : i - base < bs.length := oq564 h1 h2
      have h6 : j - base < bs.length := oq564 h3 h4
      rw [List.getElem?_eq_getElem h5] at e1
      rw [List.getElem?_eq_getElem h6] at f1
      have e5 : bs[i - base] = bs[j - base] := by rw [Option.some.inj e1, Option.some.inj f1]
      have hp := List.pairwise_iff_getElem.mp hd
      rcases Nat.lt_trichotomy (i - base) (j - base) with q | q | q
      · exact absurd e5 (hp _ _ h5 h6 q)
      · exact oq567 h1 h3 q
      · exact absurd e5.symm (hp _ _ h6 h5 q)
  · rcases u with u | ⟨h1, h2⟩
    · rw [(old j u).1]; exact S.na j u
    · obtain ⟨b, o, e1, e2, e3, e4⟩ := new j h1 h2
      rw [e3]; exact (hb _ _ _ e1 e2).2.2.2.2
theorem r_assignM {t1 t2 t3 value : Expr} {Q : Flow → Shared → Prop} (h : WP pw w A (eval value env) (fun v s₁ => WP pw w A (assign t1 env v) (fun _ s₂ => WP pw w A (assign t2 env v) (fun _ s₃ => WP pw w A (assign t3 env v) (fun _ => Q .next) E s₃) E s₂) E s₁) E s)
    (he : (assignEach [t1, t2, t3] env).map (·.2) = [assign t1 env, assign t2 env, assign t3 env] := by rfl) (hw : swappedStores [t1, t2, t3] value env = pure none := by rfl) :
    WP pw w A (exec (.Assign [t1, t2, t3] value pos) env) Q E s := by
  delta WP at *; exact wpAny_Assign_three h he hw
end
section
variable {ad : Nat → Addr} {ob : Nat → Obj} {u : Tok} {l : Addr} {o : Obj} {x : Int}
theorem r_pow18 {t u : Tok} (S : St B L loc Z G ad ob us s₀ s) (h : ∀ t s', St B L loc Z G ad ob us s₀ s' → Q (.int (10 ^ 18) t) s') : WP pw w A (binaryOp .Pow (.int 10 t) (.int 18 u)) Q E s := by
  delta WP; exact pow_int (by decide) (by decide +kernel) (h _ _ (S.toks _))
theorem ok_bool {i : Int} (b : Bool) : IntMulOk i (if b = true then 1 else 0) := by cases b <;> exact IntMulOk.of_right (by decide)
theorem New.out {Z : Addr → Obj → Prop} {L L1 : Addr} {s : Shared} {G : Addr → Obj → Prop} (S : St B L loc Z G ad ob us s₀ s) {G' : Addr → Obj → Prop} {ad' : Nat → Addr} {us' : Nat → Prop} (N : New (Zp us ad s) G' ad' us' L1 b) : New Z G' ad' us' L b := by
  refine ⟨N.k, fun o z => N.z o ⟨S.H.sil _ _ z, fun k u q => (S.H.dis k u).1 o (q ▸ z)⟩, N.g, ?_⟩
  rintro rfl
  obtain ⟨m, F, _⟩ := S.F
  obtain ⟨oL, _, _, hL, _⟩ := F.ns
  exact N.z oL ⟨hL, S.na⟩
theorem sp_pool {ol : Obj} (C : Cx w B) (S : St B L loc Z G ad ob us s₀ s) (hA : Rm A 1) (g : G l ol) (hl : IsL ol vs) (hv : ∀ v ∈ vs, ∃ i t, v = .int i t) (hn : vs.length < 2 ^ 62)
   (k : ∀ b x y t0 t1 s', St B L loc Z G ad ob us s₀ s' → s'.heap.get? b = some (lstO [.int x t0, .int y t1]) → New Z G ad us L b → Q (.ref b) s') : WP pw w A (call (.ref 434) [.ref l]) Q E s := by
  refine r_call [("script", .ref l)] C S.hpZ hA rfl rfl (BindsTo.of_eq rfl) (locs rfl) ?_
  intro A1 L1 s1 hA1 S1
  walk_at "c"; refine r_assign ?_; walk_at "i"; walk_at "t"; walk_at "n"; refine r_if (r_isCmp ?_); refine r_callB ⋯ ⋯ (b_len _) bb_len ?_; refine r_args ?_; walk_at "l"; refine r_args0 ?_
  refine r_lenG ⋯ g hl hn ?_
  intro t s2 S2
  walk_at "i"; refine r_gt (r_truthy ?_); (refine br ?_ ?_ <;> intro _); walk_at "c"; refine r_assign (Mine.r_sub ?_); walk_at "l"; walk_at "i"; rotate_left; refine r_nil ?_; walk_at "n"; refine r_assign ?_; refine r_callB ⋯ ⋯ (b_max _) bb_max ?_; refine r_args ?_; refine r_callT ⋯ ⋯ (b_int _) bb_int ?_; refine r_args ?_; walk_at "l"; refine r_args0 ?_; refine r_intint ?_; refine r_args ?_; refine r_callT ⋯ ⋯ (b_int _) bb_int ?_; refine r_args (r_bin (r_unary ?_)); walk_at "i"; refine n_neg ?_; walk_at "d"; walk_at "l"; refine n_sub ?_; walk_at "d"; refine r_args0 ?_; refine r_intint ?_; refine r_args0 ?_; rotate_left
  · rename_i hlen _ _ _
    obtain ⟨v, hv0⟩ : ∃ v, vs[(0 : Int).toNat]? = some v := ⟨_, List.getElem?_eq_getElem (by show 0 < vs.length; exact oq438 ⋯)⟩
    obtain ⟨c, tc, rfl⟩ := hv v (List.mem_of_getElem? hv0)
    refine r_gitem ⋯ g hl (by decide) (by decide) hv0 ?_
    walk_at "t"; walk_at "e"; refine r_nil ?_; walk_at "n"; refine r_assign ?_; refine r_callB ⋯ ⋯ (b_max _) bb_max ?_; refine r_args ?_; refine r_callT ⋯ ⋯ (b_int _) bb_int ?_; refine r_args ?_; walk_at "l"; refine r_args0 ?_; refine r_intint ?_; refine r_args ?_; refine r_callT ⋯ ⋯ (b_int _) bb_int ?_; refine r_args (r_bin (r_unary ?_)); walk_at "i"; refine n_neg ?_; walk_at "d"; walk_at "l"; refine n_sub ?_; walk_at "d"; refine r_args0 ?_; refine r_intint ?_; refine r_args0 ?_
    refine r_max ⋯ hA1.h ?_
    intro t3 s3 S3
    have hm1 : IntMulOk ((if -1 - c > c then -1 - c else c).fmod 2147483629 + 17) 48271 := IntMulOk.of_right (by decide)
    walk_at "t"; walk_at "n"; refine r_ret (r_listE (r_args (r_bin ?_))); walk_at "l"; refine r_callT ⋯ ⋯ (b_int _) bb_int ?_; refine r_args (r_cmp ?_); walk_at "l"; refine r_bin ?_; walk_at "i"; walk_at "i"
    refine r_pow18 ⋯ ?_
    intro t4 s4 S4
    refine r_ge (r_args0 ?_)
    refine r_intbool ⋯ ?_
    intro t5 s5 S5
    refine r_mul ⋯ ?_ ?_
    · exact ok_bool _
    intro t6 s6 S6
    refine r_args (r_bin ?_); refine r_callT ⋯ ⋯ (b_int _) bb_int ?_; refine r_args (r_bin (r_bin (r_bin ?_))); walk_at "l"; walk_at "i"; refine n_mod (by decide) ?_; walk_at "d"; walk_at "i"; refine n_add ?_; walk_at "d"; walk_at "i"; refine n_mul (ok_r _ (by decide)) ?_; walk_at "d"; refine r_args0 ?_; refine r_intint ?_; walk_at "i"; refine n_mod (by decide) ?_; walk_at "d"; refine r_args0 ?_; refine r_list ⋯ ?_; intro _ _ _ _ _; refine nx_ret ⋯ ?_; clear Nc Qc; dsimp only
    exact k _ _ _ _ _ _ (S.backZ (St.H ⋯) (St.S ⋯)) ⋯ (New.out S ⋯)
  · refine r_max ⋯ hA1.h ?_
    intro t3 s3 S3
    have hm1 : IntMulOk ((if -1 - 0 > (0 : Int) then -1 - 0 else 0).fmod 2147483629 + 17) 48271 := IntMulOk.of_right (by decide)
    walk_at "t"; walk_at "n"; refine r_ret (r_listE (r_args (r_bin ?_))); walk_at "l"; refine r_callT ⋯ ⋯ (b_int _) bb_int ?_; refine r_args (r_cmp ?_); walk_at "l"; refine r_bin ?_; walk_at "i"; walk_at "i"
    refine r_pow18 ⋯ ?_
    intro t4 s4 S4
    refine r_ge (r_args0 ?_)
    refine r_intbool ⋯ ?_
    intro t5 s5 S5
    refine r_mul ⋯ ?_ ?_
    · exact ok_bool _
    intro t6 s6 S6
    refine r_args (r_bin ?_); refine r_callT ⋯ ⋯ (b_int _) bb_int ?_; refine r_args (r_bin (r_bin (r_bin ?_))); walk_at "l"; walk_at "i"; refine n_mod (by decide) ?_; walk_at "d"; walk_at "i"; refine n_add ?_; walk_at "d"; walk_at "i"; refine n_mul (ok_r _ (by decide)) ?_; walk_at "d"; refine r_args0 ?_; refine r_intint ?_; walk_at "i"; refine n_mod (by decide) ?_; walk_at "d"; refine r_args0 ?_; refine r_list ⋯ ?_; intro _ _ _ _ _; refine nx_ret ⋯ ?_; clear Nc Qc; dsimp only
    exact k _ _ _ _ _ _ (S.backZ (St.H ⋯) (St.S ⋯)) ⋯ (New.out S ⋯)
end
noncomputable def Pre {α : Type} (R : Value → α → Prop) (vs : List Value) (zs : List α) (n : Nat) : Prop := vs.length = n ∧ ∀ (c : Nat) (p : α), zs[c]? = some p → ∃ v, vs[c]? = some v ∧ R v p
theorem Pre.nil {α : Type} {R : Value → α → Prop} {vs : List Value} {n : Nat} (h : vs.length = n) : Pre R vs ([] : List α) n := ⟨h, fun _ _ e => by simp at e⟩
theorem Pre.mono {α : Type} {R R' : Value → α → Prop} {vs : List Value} {zs : List α} {n : Nat} (h : Pre R vs zs n) (l : ∀ v p, R v p → R' v p) : Pre R' vs zs n := ⟨h.1, fun c p e => let ⟨v, e', r⟩ := h.2 c p e; ⟨v, e', l v p r⟩⟩
theorem Pre.set {α : Type} {R : Value → α → Prop} {vs : List Value} {zs : List α} {n j : Nat} (h : Pre R vs zs n) (hz : zs.length = j) (hj : j < n) {v : Value} {p : α} (r : R v p) : Pre R (vs.set j v) (zs ++ [p]) n := by
  refine ⟨by rw [List.length_set]; exact h.1, fun c q e => ?_⟩
  by_cases hc : c = j
  · subst hc
    rw [List.getElem?_append_right (oq71 hz), hz, Nat.sub_self] at e
    simp only [List.getElem?_cons_zero, Option.some.injEq] at e
    subst e
    exact ⟨v, List.getElem?_set_self (by rw [h.1]; exact hj), r⟩
  · have hlt : c < zs.length := by
      have := (List.getElem?_eq_some_iff.mp e).1
      rw [List.length_append, List.length_singleton] at this
      exact oq72 hz hc this
    rw [List.getElem?_append_left hlt] at e
    obtain ⟨v', e', r'⟩ := h.2 c q e
    exact ⟨v', by rw [List.getElem?_set_ne (Ne.symm hc)]; exact e', r'⟩
theorem Pre.all {α : Type} {R : Value → α → Prop} : ∀ {vs : List Value} {zs : List α} {n : Nat}, Pre R vs zs n → zs.length = n → All2 R vs zs
  | [], [], _, _, _ => .nil
  | [], _ :: _, n, h, e => by have := h.1; simp at this e; exact (oq73 e this).elim
  | _ :: _, [], n, h, e => by have := h.1; simp at this e; exact (oq74 e this).elim
  | v :: vs, z :: zs, n, h, e => by
    obtain ⟨v', e1, r⟩ := h.2 0 z rfl
    simp only [List.getElem?_cons_zero, Option.some.injEq] at e1
    subst e1
    refine .cons r (Pre.all (n := zs.length) ⟨?_, fun c p q => ?_⟩ rfl)
    · have := h.1; simp at this e; exact oq75 e this
    · exact h.2 (c + 1) p q
theorem all2_bools {vs : List Value} {bs : List Bool} (h : All2 (fun v x => v = Value.bool x) vs bs) : vs = bs.map .bool := by
  induction h with
  | nil => rfl
  | cons r _ ih => rw [r, ih]; rfl
structure FilZ (b n j : Nat) (G : Addr → Obj → Prop) (ad : Nat → Addr) (ob : Nat → Obj) (z : ZD) : Prop where
  lo : z.orig.length = j
  lc : z.cur.length = j
  lt : z.tou.length = j
  ln : z.on.length = j
  o : ∃ vs, IsL (ob b) vs ∧ Pre (IsPt G) vs z.orig n
  c : ∃ vs, IsL (ob (b + 1)) vs ∧ Pre (IsPt G) vs z.cur n
  bd : ∀ p ∈ z.cur, In 100 p
  t : ∃ vs, IsL (ob (b + 2)) vs ∧ vs.length = n ∧ ∀ c, c < j → vs[c]? = some (.ref (ad (b + 4 + c)))
  m : ∀ c p, z.tou[c]? = some p → IsL (ob (b + 4 + c)) [.bool p.1, .bool p.2]
  v : ∃ vs, IsL (ob (b + 3)) vs ∧ Pre (fun v x => v = .bool x) vs z.on n
theorem FilZ.start {b n : Nat} {G : Addr → Obj → Prop} {ad : Nat → Addr} {ob : Nat → Obj} (h : ∀ c, c < 4 → Len (ob (b + c)) n) : FilZ b n 0 G ad ob ⟨[], [], [], []⟩ := by
  obtain ⟨v0, h0, l0⟩ := h 0 (by decide)
  obtain ⟨v1, h1, l1⟩ := h 1 (by decide)
  obtain ⟨v2, h2, l2⟩ := h 2 (by decide)
  obtain ⟨v3, h3, l3⟩ := h 3 (by decide)
  exact ⟨rfl, rfl, rfl, rfl, ⟨v0, h0, .nil l0⟩, ⟨v1, h1, .nil l1⟩, fun _ h => by simp at h, ⟨v2, h2, l2, fun _ h => absurd h (Nat.not_lt_zero _)⟩, fun _ _ e => by simp at e, ⟨v3, h3, .nil l3⟩⟩
theorem FilZ.congr {b n j : Nat} {G : Addr → Obj → Prop} {ad ad' : Nat → Addr} {ob ob' : Nat → Obj} {z : ZD} (h : FilZ b n j G ad ob z) (ha : ∀ k, b ≤ k → k < b + 4 + j → ad' k = ad k) (ho : ∀ k, b ≤ k → k < b + 4 + j → ob' k = ob k) : FilZ b n j G ad' ob' z := by
  obtain ⟨l1, l2, l3, l4, ⟨v0, h0, p0⟩, ⟨v1, h1, p1⟩, bd, ⟨v2, h2, k2, p2⟩, m, ⟨v3, h3, p3⟩⟩ := h
  refine ⟨l1, l2, l3, l4, ⟨v0, by rw [ho _ (oq76) (oq77)]; exact h0, p0⟩, ⟨v1, by rw [ho _ (oq78) (oq79)]; exact h1, p1⟩, bd, ⟨v2, by rw [ho _ (oq80) (oq81)]; exact h2, k2, fun c hc => by rw [ha _ (oq82) (oq83 hc)]; exact p2 c hc⟩, fun c p e => ?_, ⟨v3, by rw [ho _ (oq84) (oq85)]; exact h3, p3⟩⟩
  have : c < j := by rw [← l3]; exact (List.getElem?_eq_some_iff.mp e).1
  rw [ho _ (oq82) (oq83 this)]; exact m c p e
theorem FilZ.quad {b n : Nat} {G : Addr → Obj → Prop} {ad : Nat → Addr} {ob : Nat → Obj} {z : ZD} (h : FilZ b n n G ad ob z) : Quad G ad ob b n z := by
  obtain ⟨l1, l2, l3, l4, ⟨v0, h0, p0⟩, ⟨v1, h1, p1⟩, bd, ⟨v2, h2, k2, p2⟩, m, ⟨v3, h3, p3⟩⟩ := h
  refine ⟨⟨v0, h0, p0.all l1⟩, ⟨v1, h1, p1.all l2⟩, ⟨v2, h2, k2, p2⟩, m, ?_, l1, l2, l3, l4⟩
  rw [← all2_bools (p3.all l4)]; exact h3
theorem FilZ.step {b n j : Nat} {G G' : Addr → Obj → Prop} {ad : Nat → Addr} {ob : Nat → Obj} {z : ZD} (h : FilZ b n j G ad ob z) (hj : j < n) (le : ∀ a o, G a o → G' a o) {p q : Int × Int} {vp vq : Value} (hp : IsPt G' vp p) (hq : IsPt G' vq q) (bq : In 100 q) {m1 m2 m3 : Bool}
    {nb : Addr} {oo oc ot on om : Obj} (ho : ∀ vs, IsL (ob b) vs → IsL oo (vs.set j vp)) (hc : ∀ vs, IsL (ob (b + 1)) vs → IsL oc (vs.set j vq)) (ht : ∀ vs, IsL (ob (b + 2)) vs → IsL ot (vs.set j (.ref nb))) (hm : IsL om [.bool m1, .bool m2]) (hn : ∀ vs, IsL (ob (b + 3)) vs → IsL on (vs.set j (.bool m3)))
    {ad' : Nat → Addr} {ob' : Nat → Obj} (ea : ad' (b + 4 + j) = nb) (eo : ob' (b + 4 + j) = om) (ka : ∀ k, k ≠ b + 4 + j → ad' k = ad k) (k0 : ob' b = oo) (k1 : ob' (b + 1) = oc) (k2 : ob' (b + 2) = ot) (k3 : ob' (b + 3) = on) (kk : ∀ k, b + 4 ≤ k → k < b + 4 + j → ob' k = ob k) :
    FilZ b n (j + 1) G' ad' ob' ⟨z.orig ++ [p], z.cur ++ [q], z.tou ++ [(m1, m2)], z.on ++ [m3]⟩ := by
  obtain ⟨l1, l2, l3, l4, ⟨v0, h0, p0⟩, ⟨v1, h1, p1⟩, bd, ⟨v2, h2, e2, p2⟩, m, ⟨v3, h3, p3⟩⟩ := h
  refine ⟨by simp [l1], by simp [l2], by simp [l3], by simp [l4], ⟨_, by rw [k0]; exact ho _ h0, (p0.mono fun _ _ => IsPt.mono le).set l1 hj hp⟩, ⟨_, by rw [k1]; exact hc _ h1, (p1.mono fun _ _ => IsPt.mono le).set l2 hj hq⟩, fun r hr => ?_, ⟨_, by rw [k2]; exact ht _ h2, by rw [List.length_set]; exact e2, fun c hc => ?_⟩, fun c r e => ?_, ⟨_, by rw [k3]; exact hn _ h3, p3.set l4 hj rfl⟩⟩
  · rcases List.mem_append.mp hr with hr | hr
    · exact bd r hr
    · rw [List.mem_singleton.mp hr]; exact bq
  · by_cases q : c = j
    · subst q
      rw [List.getElem?_set_self (by rw [e2]; exact hj), ea]
    · rw [List.getElem?_set_ne (Ne.symm q), ka _ (oq86 q)]; exact p2 c (oq87 hc q)
  · by_cases q : c = j
    · subst q
      rw [List.getElem?_append_right (by rw [l3]; exact Nat.le_refl _), l3, Nat.sub_self] at e
      simp only [List.getElem?_cons_zero, Option.some.injEq] at e
      subst e
      rw [eo]; exact hm
    · have hlt : c < z.tou.length := by
        have := (List.getElem?_eq_some_iff.mp e).1
        simp [l3] at this
        exact oq88 l3 q this
      rw [List.getElem?_append_left hlt] at e
      rw [kk _ (oq89) (oq90 l3 hlt)]; exact m c r e
noncomputable abbrev mScope : Scope := { kind := .function, names := [(".0", .local), ("pair", .local), ("list", .globalImplicit)], isGenerator := false, isCoroutine := false }
section
variable {ad : Nat → Addr} {ob : Nat → Obj} {u : Tok} {l : Addr} {o : Obj} {x : Int}
theorem still_list (vs : List Value) (d : Nat) : Still (listOf vs.toArray d) := fun _ _ e => by cases e
theorem compMarks {Q : Flow → Shared → Prop} {P1 P2 P3 P4 P5 P6 P7 P8 spos : Pos} {κ b n : Nat} {ms : List (Bool × Bool)} {zx : Addr} (C : Cx w B) (S : St B L loc Z G ad ob us s₀ s) (h84 : ¬ us 84) (h85 : ¬ us 85) (hh : A.handled = none) (hp : loc.lookup ("zone" : Str) = some (.ref zx))
    (gz : G zx (instObj 423 (ad κ))) (uz : us κ) (zd : ZMap (ob κ) ad b) (ub : us (b + 2)) (ht : ∃ vs, IsL (ob (b + 2)) vs ∧ vs.length = n ∧ ∀ c, c < n → vs[c]? = some (.ref (ad (b + 4 + c)))) (um : ∀ c, c < n → us (b + 4 + c))
    (hm : ∀ c p, ms[c]? = some p → IsL (ob (b + 4 + c)) [.bool p.1, .bool p.2]) (hl : ms.length = n) (hn : n ≤ 10)
    (hE : EnvOk env L) (hx : env.kindOf "zone" = some .local) (hclos : closureFor mScope env = pure []) (hst : ∀ C', (cEnv mScope [] C' env).kindOf "list" = some .globalImplicit) (hpt : ∀ C', (cEnv mScope [] C' env).kindOf "pair" = some .local)
    (hy : env.kindOf "marks" = some .local) (hsw : swapsWith (.ListComp (.Call (.Name "list" P1) [.Name "pair" P2] [] P3) [⟨.Name "pair" P4, .Attribute (.Name "zone" P5) "touched" P6, [], 0⟩] mScope P7) (some (.Name "marks" P8)) spos.line env = pure true)
    (h : ∀ (bs : List Addr) (os : List Obj) D d s', St B L (("marks", .ref D) :: loc) Z G ad ob us s₀ s' → s'.heap.get? D = some (listOf (bs.map Value.ref).toArray d) → New Z G ad us L D → bs.Nodup → bs.length = n → os.length = n →
      (∀ (c : Nat) b, bs[c]? = some b → b ≠ D ∧ ∃ o, os[c]? = some o ∧ s'.heap.get? b = some o ∧ New Z G ad us L b) → (∀ (c : Nat) o p, os[c]? = some o → ms[c]? = some p → IsL o [.bool p.1, .bool p.2]) → Q .next s') :
    WP pw w A (exec (.Assign [.Name "marks" P8] (.ListComp (.Call (.Name "list" P1) [.Name "pair" P2] [] P3) [⟨.Name "pair" P4, .Attribute (.Name "zone" P5) "touched" P6, [], 0⟩] mScope P7) spos) env) Q E s := by
  obtain ⟨vt, ht, hvt, htc⟩ := ht
  obtain ⟨mf, nn, hd, _, _, hmt, _⟩ := zd
  let J : InvC := fun i ys G' ad' ob' => ∃ (bs : List Addr) (os : List Obj), ys = bs.map Value.ref ∧ bs.length = i ∧ os.length = i ∧ bs.Nodup ∧ (∀ (c : Nat) b, bs[c]? = some b → ∃ o, os[c]? = some o ∧ G' b o ∧ (∀ o, ¬ Z b o) ∧ (∀ o, ¬ G b o) ∧ (∀ k, us k → ad k ≠ b) ∧ Still o) ∧
    (∀ (c : Nat) o p, os[c]? = some o → ms[c]? = some p → IsL o [.bool p.1, .bool p.2]) ∧ (∀ a o, G a o → G' a o) ∧ ∀ j, j ≠ 84 → j ≠ 85 → ad' j = ad j ∧ ob' j = ob j
  refine r_compListU (B := B) (Z := Z) (s₀ := s₀) (us := us) 84 J h84 h85 ?_ hh ?_ hE (by decide) rfl rfl (fun _ => rfl) hclos (by decide) hy hsw
  · rintro c ys G' ad' ob' b o k hk ⟨bs, os, h1, h2, h3, h4, h5, h6, h7, h8⟩
    refine ⟨bs, os, h1, h2, h3, h4, h5, h6, h7, fun j n1 n2 => ?_⟩
    have : j ≠ k := fun e => by subst e; rcases hk with rfl | rfl <;> contradiction
    rw [up_other _ _ this, up_other _ _ this]
    exact h8 j n1 n2
  refine r_attrN (r_loc S hp (r_get C S gz uz hd (a_Z_touched w) hmt rfl fun s1 S1 => ?_) hE hx)
  refine ⟨ad (b + 2), vt, loc, G, ad, ob, rfl, by exact oq113 hn hvt, S1, ⟨[], [], rfl, rfl, rfl, .nil, fun _ _ e => by simp at e, fun _ _ _ e => by simp at e, fun _ _ g => g, fun _ _ _ => ⟨rfl, rfl⟩⟩, ?_, ?_, ?_⟩
  · rintro c ys G' ad' ob' ⟨bs, os, h1, h2, h3, h4, h5, h6, h7, h8⟩
    have hk : ∀ j, us j → ad' j = ad j ∧ ob' j = ob j := fun j u => h8 j (fun e => h84 (e ▸ u)) (fun e => h85 (e ▸ u))
    exact .inr ⟨b + 2, ub, (hk _ ub).1, by rw [(hk _ ub).2]; exact ht⟩
  · rintro c ys G' ad' ob' C' Z' loc' s₂ s₃ v hv ⟨bs, os, h1, h2, h3, h4, h5, h6, h7, h8⟩ zle S3
    have hk : ∀ j, us j → ad' j = ad j ∧ ob' j = ob j := fun j u => h8 j (fun e => h84 (e ▸ u)) (fun e => h85 (e ▸ u))
    have hE' : EnvOk (cEnv mScope [] C' env) C' := ⟨rfl, rfl, hE.g, hE.b⟩
    have hc : c < n := by rw [← hvt]; exact (List.getElem?_eq_some_iff.mp hv).1
    obtain rfl : v = .ref (ad' (b + 4 + c)) := by
      rw [(hk _ (um c hc)).1]; rw [htc c hc] at hv; exact (Option.some.inj hv).symm
    obtain ⟨p, hp⟩ : ∃ p, ms[c]? = some p := ⟨_, List.getElem?_eq_getElem (oq114 hl hc)⟩
    refine r_callT C S3 (b_list _) bb_list (r_args (r_loc S3 rfl (r_args0 ?_) hE' (hpt C'))) (by decide) hE' (hst C')
    refine r_listCopyK S3 (κ := b + 4 + c) (.inl (.inl (um c hc))) (by rw [(hk _ (um c hc)).2]; exact hm c p hp) (Nat.le_of_ble_eq_true rfl) ?_
    intro nb d s4 S4 hb N4
    obtain ⟨G2, le2, g2, S5⟩ := S4.addG' hb (still_list _ _) N4.k
    refine ⟨G2, ad', ob', _, S5, ⟨bs ++ [nb], os ++ [listOf [.bool p.1, .bool p.2].toArray d], by rw [h1, List.map_append]; rfl, by simp [h2], by simp [h3], ?_, fun j b' e => ?_, fun j o' p' e e' => ?_, fun a o g => le2 _ _ (h7 _ _ g), h8⟩, ⟨rfl, rfl⟩, rfl, rfl⟩
    · refine List.nodup_append.mpr ⟨h4, by simp, fun a ha b' hb' e => ?_⟩
      rw [List.mem_singleton.mp hb'] at e
      subst e
      obtain ⟨i, hi, e⟩ := List.getElem_of_mem ha
      obtain ⟨o', _, g, _⟩ := h5 i a (List.getElem?_eq_some_iff.mpr ⟨hi, e⟩)
      exact N4.g o' g
    · by_cases q : j < bs.length
      · rw [List.getElem?_append_left q] at e
        obtain ⟨o', e', g, r⟩ := h5 j b' e
        exact ⟨o', by rw [List.getElem?_append_left (oq115 h2 h3 q)]; exact e', le2 _ _ g, r⟩
      · rw [List.getElem?_append_right (oq116 q)] at e
        obtain ⟨q2, rfl⟩ : j - bs.length = 0 ∧ b' = nb := by
          cases hq : j - bs.length with
          | zero => rw [hq] at e; simp at e; exact ⟨rfl, e.symm⟩
          | succ i => rw [hq] at e; simp at e
        refine ⟨_, by rw [List.getElem?_append_right (oq117 h2 h3 q), show j - os.length = 0 by exact oq118 h2 h3 q2]; rfl, g2, fun o z => N4.z o (zle _ _ z), fun o g => N4.g o (h7 _ _ g), fun k u e => ?_, still_list _ _⟩
        exact N4.k k (.inl (.inl u)) (by rw [(hk k u).1]; exact e)
    · by_cases q : j < os.length
      · rw [List.getElem?_append_left q] at e
        exact h6 j o' p' e e'
      · rw [List.getElem?_append_right (oq116 q)] at e
        obtain ⟨q2, rfl⟩ : j - os.length = 0 ∧ o' = listOf [.bool p.1, .bool p.2].toArray d := by
          cases hq : j - os.length with
          | zero => rw [hq] at e; simp at e; exact ⟨rfl, e.symm⟩
          | succ i => rw [hq] at e; simp at e
        have : j = c := oq119 h3 q q2
        subst this
        rw [hp] at e'; cases e'
        exact ⟨rfl, _, rfl⟩
  · rintro ys m G' ad' ob' Dd s₂ ⟨bs, os, h1, h2, h3, h4, h5, h6, h7, h8⟩ S4 hD N4
    have hk : ∀ j, us j → ad' j = ad j ∧ ob' j = ob j := fun j u => h8 j (fun e => h84 (e ▸ u)) (fun e => h85 (e ▸ u))
    subst h1
    refine h bs os Dd m s₂ ((S4.congrK hk).lessG h7) hD ⟨fun j u => by rw [← (hk j u).1]; exact N4.k j u, N4.z, fun o g => N4.g o (h7 _ _ g), N4.l⟩ h4 (oq120 hvt h2) (oq120 hvt h3) (fun c b' e => ?_) h6
    obtain ⟨o', e', g, z1, z2, z3, st⟩ := h5 c b' e
    have hb := (S4.H.imm _ _ g).1
    refine ⟨fun q => N4.g o' (q ▸ g), o', e', hb, z3, z1, z2, ?_⟩
    rintro rfl
    obtain ⟨m', F, _⟩ := S4.F
    obtain ⟨oL, es, ep, hL, hd', _⟩ := F.ns
    rw [hb] at hL; cases hL
    exact st _ _ hd'
end
noncomputable def BU (i k : Nat) : Prop := k < 7 ∨ k = 97 ∨ (16 ≤ k ∧ k < 20) ∨ (32 ≤ k ∧ k < 36) ∨ (1 ≤ i ∧ ((20 ≤ k ∧ k < 23) ∨ (48 ≤ k ∧ k < 55))) ∨ (2 ≤ i ∧ ((36 ≤ k ∧ k < 42) ∨ (64 ≤ k ∧ k < 74)))
theorem bu0 {i k : Nat} (h : k < 7) : BU i k := .inl h
theorem bu97 {i : Nat} : BU i 97 := .inr (.inl rfl)
theorem buq {i j : Nat} (c : Nat) (hj : j < 2) (hc : c < 4) : BU i (16 * j + 16 + c) :=
  match j, hj with
  | 0, _ => .inr (.inr (.inl ⟨by exact oq333, by exact oq334 hc⟩))
  | 1, _ => .inr (.inr (.inr (.inl ⟨by exact oq335, by exact oq336 hc⟩)))
theorem bu1 {c : Nat} (h : (16 ≤ c ∧ c < 23) ∨ (48 ≤ c ∧ c < 55)) : BU 1 c := by
  by_cases q : c < 20
  · exact .inr (.inr (.inl (oq337 h q)))
  · exact .inr (.inr (.inr (.inr (.inl ⟨by decide, by exact oq338 h q⟩))))
theorem buN {i k : Nat} (hi : i < 2) (h : BU i k) : (k < 16 * i + 20 ∨ 16 * i + 26 ≤ k) ∧ (k < 16 * i + 48 ∨ 16 * i + 58 ≤ k) := by
  unfold BU at h
  match i, hi with
  | 0, _ => exact oq339 h
  | 1, _ => exact oq340 h
theorem buT {i k : Nat} (h : BU i k) : k < 80 ∨ k = 97 := by
  unfold BU at h; exact oq341 h
theorem buB {i k : Nat} (h : BU i k ∨ k = 91) : k < 98 := by
  rcases h with h | h
  · have := buT h; exact oq342 this
  · exact oq343 h
set_option synthInstance.maxSize 4000 in
set_option synthInstance.maxHeartbeats 400000 in
theorem buL {i k n : Nat} (hi : (i = 0 ∧ n = 3) ∨ (i = 1 ∧ n = 6)) (h : BU (i + 1) k ∨ k = 91) : ((((((BU i k ∨ k = 91) ∨ (16 * i + 20 ≤ k ∧ k < 16 * i + 20 + n)) ∨ k = 16 * i + 50) ∨ (16 * i + 52 ≤ k ∧ k < 16 * i + 52 + n)) ∨ k = 16 * i + 48) ∨ k = 16 * i + 49) ∨ k = 16 * i + 51 := by
  have hk := buB h
  rcases hi with ⟨rfl, rfl⟩ | ⟨rfl, rfl⟩
  · revert h; revert hk; revert k; delta BU; decide
  · revert h; revert hk; revert k; delta BU; decide
theorem buM {i k : Nat} (hi : i < 2) (h : BU i k ∨ k = 91) : k < 16 * i + 20 ∨ 16 * i + 26 ≤ k := by
  rcases h with h | h
  · exact (buN hi h).1
  · exact oq344 h
structure Bg (a : Adr) (i : Nat) (G : Addr → Obj → Prop) (ad : Nat → Addr) (ob : Nat → Obj) : Prop where
  gw : G a.w (instObj 381 (ad 4))
  gs : G a.s (instObj 274 (ad 0))
  gk : G a.k (instObj 330 (ad 1))
  gz : ∀ i, i < 2 → G (a.z i) (instObj 423 (ad (5 + i)))
  gzs : ∃ o, G a.zs o ∧ IsL o [.ref (a.z 0), .ref (a.z 1)]
  src : ad 3 = a.src
  sd : ∃ mf, DictIs (ob 0) mf 50 ∧ SMap G D00 mf
  kd : ∃ mf, DictIs (ob 1) mf 50 ∧ mf "numbers" = some (.ref (ad 2)) ∧ (∃ t, mf "most" = some (.int 64 t)) ∧ mf "push" = none ∧ mf "pop" = none
  nm : ob 2 = lstO []
  sr : SrcOk (ob 3)
  wd : ∃ mf, DictIs (ob 4) mf 50 ∧ mf "state" = some (.ref a.s) ∧ mf "stack" = some (.ref a.k) ∧ mf "zones" = some (.ref a.zs) ∧ mf "zone" = none ∧ mf "next_loop" = none
  zd : ∀ j, j < 2 → ZMap (ob (5 + j)) ad (16 * j + 16)
  todo : ∀ j, i ≤ j → j < 2 → ∀ c, c < 4 → Len (ob (16 * j + 16 + c)) (nq j)
  don : ∀ j, j < i → ∃ z, Quad G ad ob (16 * j + 16) (nq j) z ∧ Quad G ad ob (16 * (j + 2) + 16) (nq j) z ∧ ∀ p ∈ z.cur, In 100 p
  rl : ad 97 = a.rs
  rows : ∃ (rr : List Addr) (d : Nat), ob 97 = listOf (rr.map Value.ref).toArray d ∧ rr.length = i ∧ ∀ (j : Nat) r, rr[j]? = some r → ∃ o, G r o ∧ IsL o [.ref (ad (16 * (j + 2) + 16)), .ref (ad (16 * (j + 2) + 17)), .ref (ad (16 * (j + 2) + 18)), .ref (ad (16 * (j + 2) + 19))]
section
variable {a : Adr} {i : Nat} {ad : Nat → Addr} {ob : Nat → Obj}
theorem Bg.congr (h : Bg a i G ad ob) (hi : i ≤ 2) (e : ∀ k, k < 80 ∨ k = 97 → ad' k = ad k ∧ ob' k = ob k) : Bg a i G ad' ob' := by
  have ea : ∀ k, k < 80 → ad' k = ad k := fun k h => (e k (.inl h)).1
  have eo : ∀ k, k < 80 → ob' k = ob k := fun k h => (e k (.inl h)).2
  obtain ⟨gw, gs, gk, gz, gzs, src, sd, kd, nm, sr, wd, zd, todo, don, rl, rr, d, r1, r2, r3⟩ := h
  refine ⟨by rw [ea 4 (oq345)]; exact gw, by rw [ea 0 (oq162)]; exact gs, by rw [ea 1 (oq346)]; exact gk, fun j hj => by rw [ea (5 + j) (oq347 hj)]; exact gz j hj, gzs, by rw [ea 3 (oq58)]; exact src, by rw [eo 0 (oq162)]; exact sd, by rw [eo 1 (oq346), ea 2 (oq155)]; exact kd, by rw [eo 2 (oq155)]; exact nm, by rw [eo 3 (oq58)]; exact sr, by rw [eo 4 (oq345)]; exact wd,
    fun j hj => by rw [eo (5 + j) (oq347 hj)]; exact (zd j hj).congr fun c hc => ea _ (oq348 hj hc), fun j h1 h2 c hc => by rw [eo _ (oq348 h2 hc)]; exact todo j h1 h2 c hc, fun j hj => ?_, by rw [(e 97 (.inr rfl)).1]; exact rl, rr, d, by rw [(e 97 (.inr rfl)).2]; exact r1, r2, fun j r q => ?_⟩
  · obtain ⟨z, q1, q2, b⟩ := don j hj
    exact ⟨z, q1.congr (nq_le j) (fun c hc => ea _ (oq349 hi hj hc)) fun c hc => eo _ (oq350 hi hj hc), q2.congr (nq_le j) (fun c hc => ea _ (oq351 hi hj hc)) fun c hc => eo _ (oq352 hi hj hc), b⟩
  · have hj : j < rr.length := (List.getElem?_eq_some_iff.mp q).1
    rw [ea _ (oq353 hi r2 hj), ea _ (oq354 hi r2 hj), ea _ (oq355 hi r2 hj), ea _ (oq356 hi r2 hj)]; exact r3 j r q
theorem Bg.mono (h : Bg a i G ad ob) (l : ∀ b o, G b o → G' b o) : Bg a i G' ad ob := by
  obtain ⟨gw, gs, gk, gz, ⟨o1, g1, l1⟩, src, ⟨mf, d1, m1⟩, kd, nm, sr, wd, zd, todo, don, rl, rr, d, r1, r2, r3⟩ := h
  refine ⟨l _ _ gw, l _ _ gs, l _ _ gk, fun j hj => l _ _ (gz j hj), ⟨o1, l _ _ g1, l1⟩, src, ⟨mf, d1, m1.mono l⟩, kd, nm, sr, wd, zd, todo, fun j hj => ?_, rl, rr, d, r1, r2, fun j r q => let ⟨o, g, il⟩ := r3 j r q; ⟨o, l _ _ g, il⟩⟩
  obtain ⟨z, q1, q2, b⟩ := don j hj
  exact ⟨z, q1.mono l, q2.mono l, b⟩
theorem Bg.next (h : Bg a i G ad ob) (hi : i < 2) (l : ∀ b o, G b o → G' b o) (e : ∀ k, BU i k → k ≠ 3 → k ≠ 97 → ¬ (16 * i + 16 ≤ k ∧ k < 16 * i + 20) → ob' k = ob k) (ea : ∀ k, BU i k → ad' k = ad k) (sr : SrcOk (ob' 3)) {z : ZD}
    (q1 : Quad G' ad' ob' (16 * i + 16) (nq i) z) (q2 : Quad G' ad' ob' (16 * (i + 2) + 16) (nq i) z) (bd : ∀ p ∈ z.cur, In 100 p) {r : Addr} {o : Obj} (gr : G' r o) (il : IsL o [.ref (ad' (16 * (i + 2) + 16)), .ref (ad' (16 * (i + 2) + 17)), .ref (ad' (16 * (i + 2) + 18)), .ref (ad' (16 * (i + 2) + 19))])
    (hr : ∀ (rr : List Addr) d, ob 97 = listOf (rr.map Value.ref).toArray d → ∃ d', ob' 97 = listOf ((rr ++ [r]).map Value.ref).toArray d') : Bg a (i + 1) G' ad' ob' := by
  obtain ⟨gw, gs, gk, gz, ⟨o1, g1, l1⟩, src, ⟨mf, d1, m1⟩, kd, nm, _, wd, zd, todo, don, rl, rr, d, r1, r2, r3⟩ := h
  obtain ⟨d', hr⟩ := hr rr d r1
  have n0 : nq 0 = 3 := rfl
  have n1 : nq 1 = 6 := rfl
  refine ⟨by rw [ea 4 (bu0 (oq357))]; exact l _ _ gw, by rw [ea 0 (bu0 (oq358))]; exact l _ _ gs, by rw [ea 1 (bu0 (oq359))]; exact l _ _ gk, fun j hj => by rw [ea (5 + j) (bu0 (oq187 hj))]; exact l _ _ (gz j hj), ⟨o1, l _ _ g1, l1⟩, by rw [ea 3 (bu0 (oq360))]; exact src,
    ⟨mf, by rw [e 0 (bu0 (oq358)) (oq361) (oq362) (oq363)]; exact d1, m1.mono l⟩, by rw [e 1 (bu0 (oq359)) (oq364) (oq365) (oq366), ea 2 (bu0 (oq367))]; exact kd, by rw [e 2 (bu0 (oq367)) (oq368) (oq369) (oq370)]; exact nm, sr, by rw [e 4 (bu0 (oq357)) (oq371) (oq372) (oq373)]; exact wd,
    fun j hj => by rw [e (5 + j) (bu0 (oq187 hj)) (oq193) (oq374 hj) (oq375 hj)]; exact (zd j hj).congr fun c hc => ea _ (buq c hj hc), fun j h1 h2 c hc => by rw [e _ (buq c h2 hc) (oq376) (oq377 h2 hc) (oq378 h1)]; exact todo j (oq379 h1) h2 c hc, fun j hj => ?_, by rw [ea 97 bu97]; exact rl, rr ++ [r], d', hr, by simp [r2], fun j r' q => ?_⟩
  · by_cases q : j = i
    · subst q; exact ⟨z, q1, q2, bd⟩
    · obtain ⟨z, h1, h2, b⟩ := don j (oq87 hj q)
      have ji : j = 0 ∧ i = 1 := oq380 hi hj q
      obtain ⟨rfl, rfl⟩ := ji
      have hm : ∀ c p, z.tou[c]? = some p → c < 3 := fun c p e => by have := (List.getElem?_eq_some_iff.mp e).1; rw [h1.lt] at this; exact this
      obtain ⟨⟨v1, a1, b1⟩, ⟨v2, a2, b2⟩, ⟨v3, a3, b3, c3⟩, m3, v4, k1, k2, k3, k4⟩ := h1.mono l
      obtain ⟨⟨w1, x1, y1⟩, ⟨w2, x2, y2⟩, ⟨w3, x3, y3, t3⟩, u3, w4, o1, o2, o3, o4⟩ := h2.mono l
      have eo : ∀ c, (16 ≤ c ∧ c < 23) ∨ (48 ≤ c ∧ c < 55) → ob' c = ob c := fun c hc => e c (bu1 hc) (oq381 hc) (oq382 hc) (oq383 hc)
      have eb : ∀ c, (16 ≤ c ∧ c < 23) ∨ (48 ≤ c ∧ c < 55) → ad' c = ad c := fun c hc => ea c (bu1 hc)
      refine ⟨z, ⟨⟨v1, by rw [eo _ (by decide)]; exact a1, b1⟩, ⟨v2, by rw [eo _ (by decide)]; exact a2, b2⟩, ⟨v3, by rw [eo _ (by decide)]; exact a3, b3, fun c hc => by rw [n0] at hc; rw [eb _ (oq384 hc)]; exact c3 c (by rw [n0]; exact hc)⟩, fun c p q => by have := hm c p q; rw [eo _ (oq384 this)]; exact m3 c p q, by rw [eo _ (by decide)]; exact v4, k1, k2, k3, k4⟩,
        ⟨⟨w1, by rw [eo _ (by decide)]; exact x1, y1⟩, ⟨w2, by rw [eo _ (by decide)]; exact x2, y2⟩, ⟨w3, by rw [eo _ (by decide)]; exact x3, y3, fun c hc => by rw [n0] at hc; rw [eb _ (oq385 hc)]; exact t3 c (by rw [n0]; exact hc)⟩, fun c p q => by have := hm c p q; rw [eo _ (oq385 this)]; exact u3 c p q, by rw [eo _ (by decide)]; exact w4, o1, o2, o3, o4⟩, b⟩
  · by_cases q' : j < rr.length
    · rw [List.getElem?_append_left q'] at q
      have ji : j = 0 ∧ i = 1 := oq386 hi r2 q'
      obtain ⟨rfl, rfl⟩ := ji
      obtain ⟨o, g, il⟩ := r3 0 r' q
      refine ⟨o, l _ _ g, ?_⟩
      rw [ea _ (bu1 (by decide)), ea _ (bu1 (by decide)), ea _ (bu1 (by decide)), ea _ (bu1 (by decide))]; exact il
    · have hj := (List.getElem?_eq_some_iff.mp q).1
      rw [List.length_append, List.length_singleton] at hj
      have : j = i := oq387 r2 q' hj
      subst this
      rw [List.getElem?_append_right (oq116 q'), r2, Nat.sub_self] at q
      simp only [List.getElem?_cons_zero, Option.some.injEq] at q
      subst q
      exact ⟨o, gr, il⟩
end
section
variable {ad : Nat → Addr} {ob : Nat → Obj} {a : Adr}
set_option synthInstance.maxSize 4000 in
set_option synthInstance.maxHeartbeats 400000 in
theorem us_bu (k : Nat) (h : US k) : BU 2 k := by
  have hk : k < 80 := by unfold US at h; exact oq388 h
  have d : ∀ k, k < 80 → (k < 7 ∨ (16 ≤ k ∧ k < 80 ∧ k % 16 < 4 + if (k / 16 - 1) % 2 = 0 then 3 else 6)) → BU 2 k := by delta BU; decide
  exact d k hk h
theorem bd_c {l : List (Int × Int)} (h : ∀ p ∈ l, In 100 p) (j : Nat) : In 100 (l.getD j (0, 0)) := by
  rw [List.getD_eq_getElem?_getD]
  cases e : l[j]? with
  | none => exact ⟨⟨by decide, by decide⟩, by decide, by decide⟩
  | some p => exact h p (List.mem_of_getElem? e)
theorem Bg.fin {ax : Int} {mf : Str → Option Value} (h : Bg a 2 G ad ob) (S : St B L loc Z G ad ob' (BU 2) s₀ s) (ho : ∀ k, k ≠ 0 → ob' k = ob k) (hd : DictIs (ob' 0) mf 50) (hm : SMap G { D00 with fr := axv ax, k := ax } mf) (hx : ax = 0 ∨ ax = 1) :
    ∃ D r G', (∀ b o, G b o → G' b o) ∧ St B L loc Z G' ad ob' US s₀ s ∧ Rel D { a with r := r } G' ad ob' ∧ Ok D ∧ Bd 100 D ∧ D.k = ax := by
  obtain ⟨gw, gs, gk, gz, gzs, src, _, kd, nm, ⟨x, y, t0, t1, sr⟩, wd, zd, _, don, rl, rr, d, r1, r2, r3⟩ := h
  obtain ⟨zA, qA, qA', bA⟩ := don 0 (by decide)
  obtain ⟨zB, qB, qB', bB⟩ := don 1 (by decide)
  match rr, r2, r1, r3 with
  | [ra, rb], _, r1, r3 =>
  obtain ⟨oa, ga, la⟩ := r3 0 ra rfl
  obtain ⟨ob1, gb, lb⟩ := r3 1 rb rfl
  have u97 : BU 2 97 := .inr (.inl rfl)
  have hr := S.H.own 97 u97
  rw [ho 97 (by decide), r1, rl] at hr
  obtain ⟨G2, le2, g2, S2⟩ := (S.lessU us_bu).addG' hr (fun _ _ e => by cases e) fun k hk e => by
    rw [← rl] at e
    have := S.H.inj k 97 (us_bu k hk) u97 e
    subst this
    unfold US nq at hk; exact (oq389 hk).elim
  refine ⟨{ D00 with s0 := x, s1 := y, fr := axv ax, k := ax, q := fun i => if i % 2 = 0 then zA else zB }, fun i => if i = 0 then ra else rb, G2, le2, S2, ⟨le2 _ _ gw, le2 _ _ gs, le2 _ _ gk, fun j hj => le2 _ _ (gz j hj), ?_, ⟨_, g2, rfl, _, rfl⟩, ?_, src, ⟨mf, hd, hm.mono le2⟩, by rw [ho 1 (by decide)]; exact kd, ⟨[], 0, by rw [ho 2 (by decide)]; exact nm, .nil⟩, ⟨t0, t1, by rw [ho 3 (by decide)]; exact sr⟩, by rw [ho 4 (by decide)]; exact wd, fun j hj => by rw [ho (5 + j) (oq390)]; exact zd j hj, ?_⟩, ⟨rfl, rfl, rfl, hx, .inr rfl, .inr rfl, .inr rfl, rfl⟩, ?_, rfl⟩
  · obtain ⟨o, g, l⟩ := gzs; exact ⟨o, le2 _ _ g, l⟩
  · intro j hj
    rcases (show j = 0 ∨ j = 1 by exact oq49 hj) with rfl | rfl
    · exact ⟨oa, le2 _ _ ga, la⟩
    · exact ⟨ob1, le2 _ _ gb, lb⟩
  · intro j hj
    rcases (show j = 0 ∨ j = 1 ∨ j = 2 ∨ j = 3 by exact oq36 hj) with rfl | rfl | rfl | rfl
    · exact (qA.mono le2).congr (by decide) (fun _ _ => rfl) fun c hc => ho _ (oq391)
    · exact (qB.mono le2).congr (by decide) (fun _ _ => rfl) fun c hc => ho _ (oq392)
    · exact (qA'.mono le2).congr (by decide) (fun _ _ => rfl) fun c hc => ho _ (oq393)
    · exact (qB'.mono le2).congr (by decide) (fun _ _ => rfl) fun c hc => ho _ (oq394)
  · intro j hj n
    rcases (show j = 0 ∨ j = 1 by exact oq49 hj) with rfl | rfl
    · exact bd_c bA _
    · exact bd_c bB _
theorem smap3 {ax : Int} {v : Value} {mf : Str → Option Value} (h : SMap G D00 mf) (hp : IsPt G v (axv ax)) : SMap G { D00 with fr := axv ax, k := ax } (fun y => if y = ("dual" : Str) then some v else if y = ("projection" : Str) then some v else if y = ("freedom" : Str) then some v else mf y) := by
  obtain ⟨_, _, _, ⟨t1, h1⟩, ⟨t2, h2⟩, ⟨t3, h3⟩, ⟨t4, h4⟩, h5, h6, h7⟩ := h
  have ne : ∀ {x y : Str} {p q : Option Value}, (x == y) = false → (if x = y then p else q) = q := fun h => if_neg (by simpa using h)
  have th : ∀ {x : Str} {r : Option Value}, (x == ("dual" : Str)) = false → (x == ("projection" : Str)) = false → (x == ("freedom" : Str)) = false → mf x = r → (if x = ("dual" : Str) then some v else if x = ("projection" : Str) then some v else if x = ("freedom" : Str) then some v else mf x) = r := fun a b c e => (ne a).trans ((ne b).trans ((ne c).trans e))
  exact ⟨⟨v, (ne rfl).trans ((ne rfl).trans (if_pos rfl)), hp⟩, ⟨v, (ne rfl).trans (if_pos rfl), hp⟩, ⟨v, if_pos rfl, hp⟩, ⟨t1, th rfl rfl rfl h1⟩, ⟨t2, th rfl rfl rfl h2⟩, ⟨t3, th rfl rfl rfl h3⟩, ⟨t4, th rfl rfl rfl h4⟩, th rfl rfl rfl h5, th rfl rfl rfl h6, th rfl rfl rfl h7⟩
theorem smapS {D : Dt} {mf : Str → Option Value} (h : SMap G D mf) : (mf "freedom").isSome = true ∧ (mf "projection").isSome = true ∧ (mf "dual").isSome = true := by
  obtain ⟨⟨_, e1, _⟩, ⟨_, e2, _⟩, ⟨_, e3, _⟩, _⟩ := h
  rw [e1, e2, e3]; exact ⟨rfl, rfl, rfl⟩
end
theorem IsL.uniq {o : Obj} {vs vs' : List Value} (h : IsL o vs) (h' : IsL o vs') : vs = vs' := by
  obtain ⟨_, n, e⟩ := h; obtain ⟨_, n', e'⟩ := h'
  rw [e] at e'; injection e' with e'; exact by simpa using e'
section
variable {ad : Nat → Addr} {ob : Nat → Obj} {u : Tok} {l : Addr} {o : Obj} {x : Int}
theorem sp_begun (C : Cx w B) (S : St B L loc Z G ad ob us s₀ s) (hus : ∀ k, us k ↔ k = 3) (hs : SrcOk (ob 3)) (hA : Rm A 20)
   (k : ∀ b D a G' ad' ob' t s', (∀ b o, G b o → G' b o) → St B L loc Z G' ad' ob' US s₀ s' → Rel D a G' ad' ob' → Ok D → Bd 100 D → a.src = ad 3 → G' b (lstO [.ref a.w, .ref a.rs, .int D.k t]) → Q (.ref b) s') :
   WP pw w A (call (.ref 460) [.ref (ad 3)]) Q E s := by
  have hu3 : us 3 := (hus 3).mpr rfl
  refine r_call [("source", .ref (ad 3))] C S.hpZ hA rfl rfl (BindsTo.of_eq rfl) (locs rfl) ?_
  intro A1 L1 s1 hA1 S1
  walk_at "c"; refine r_assign2 (r_tupleE (r_args ?_)); refine r_callG ⋯ ⋯ (g_law_take _) (k_law_take _) ?_; refine r_args ?_; walk_at "l"; refine r_args ?_; walk_at "i"; refine r_args0 ?_; walk_at "k"
  refine sp_take C ⋯ hu3 hs (Rm.less hA1) (by decide) ?_
  intro ax t1 o2 s2 hax ho2 S2
  refine r_args ?_; refine r_callG ⋯ ⋯ (g_HintWork _) (kc_W _) ?_; refine r_args (r_listE (r_args ?_)); refine r_callG ⋯ ⋯ (g_Zone _) (kc_Z _) ?_; refine r_args (r_bin (r_listE (r_args (r_tupleE (r_args ?_))))); walk_at "i"; refine r_args ?_; walk_at "i"; refine r_args0 ?_
  refine x_mkpt ⋯ ?_
  intro b3 G3 s3 le3 p3 S3
  refine r_args0 ?_
  refine x_mklist ⋯ ?_
  intro b4 G4 s4 le4 g4 S4
  walk_at "i"
  refine r_mul1 ⋯ (St.get ⋯ g4) (by decide) ?_
  intro b5 s5 S5 h5 N5
  obtain ⟨G5, le5, g5, S6⟩ := S5.addG' h5 (still_lst _) N5.k
  clear S5 N5 h5
  refine r_args0 ?_; walk_at "k"
  obtain ⟨pa, pt1, pt2, e3, gp⟩ := p3
  cases e3
  refine sp_zone0 (i := 0) (n := 3) C ⋯ (by decide) (fun j h q => by rw [hus j] at q; rcases h with h | h <;> omega) (fun j h q => by rw [hus j] at q; exact (oq163 h q).elim) (Rm.less hA1) g5 (le5 _ _ (le4 _ _ gp)) (by decide) ?_
  intro z0 G7 ad7 ob7 s7 le7 gz0 S7 e7 zm0 ln0
  clear S6
  refine r_args ?_; refine r_callG ⋯ ⋯ (g_Zone _) (kc_Z _) ?_; refine r_args (r_bin (r_listE (r_args (r_tupleE (r_args ?_))))); walk_at "i"; refine r_args ?_; walk_at "i"; refine r_args0 ?_
  refine x_mkpt ⋯ ?_
  intro b8 G8 s8 le8 p8 S8
  refine r_args0 ?_
  refine x_mklist ⋯ ?_
  intro b9 G9 s9 le9 g9 S9
  walk_at "i"
  refine r_mul1 ⋯ (St.get ⋯ g9) (by decide) ?_
  intro b10 s10 S10 h10 N10
  obtain ⟨G10, le10, g10, S11⟩ := S10.addG' h10 (still_lst _) N10.k
  clear S10 N10 h10
  refine r_args (r_listE (r_args ?_)); walk_at "i"; refine r_args0 ?_
  refine x_mklist ⋯ ?_
  intro b12 G12 s12 le12 g12 S12
  clear S11
  refine r_args0 ?_; walk_at "k"
  obtain ⟨pb, pt3, pt4, e8, gq⟩ := p8
  cases e8
  refine sp_zone1 (i := 1) (n := 6) C ⋯ (by decide) (fun j h q => ?_) (fun j h q => ?_) (Rm.less hA1) (le12 _ _ g10) (le12 _ _ (le10 _ _ (le9 _ _ gq))) (by decide) g12 (Nat.le_of_ble_eq_true rfl) ?_
  · rw [hus j] at q; unfold zKeys at h q; exact (oq164 h q).elim
  · rw [hus j] at q; unfold zKeys at q; exact (oq165 h q).elim
  intro z1 G13 ad13 ob13 s13 le13 gz1 S13 e13 zm1 ln1
  clear S12
  refine r_args0 ?_
  refine x_mklist ⋯ ?_
  intro b14 G14 s14 le14 g14 S14
  clear S13
  refine r_args (r_listE (r_args0 ?_))
  refine x_mklist ⋯ ?_
  intro b15 G15 s15 le15 g15 S15
  clear S14
  refine r_args0 ?_; walk_at "k"
  refine sp_work C ⋯ ?_ ?_ ?_ ?_ ?_ ?_ (Rm.less hA1) ?_
  iterate 6 (· intro q; rw [hus _] at q; unfold zKeys at q; omega)
  intro wk st kk G16 ad16 ob16 s16 le16 gw gs gk S16 e16 sd kd nm wd
  clear S15
  refine r_args0 ?_; refine r_tuple ⋯ ?_; intro _ _ _ _ _; refine r_unpackN ⋯ (Rm.h ⋯) ⋯ ?_; intro _ _; refine r_inOrder (r_bindName ?_); walk_at "t"; refine r_inOrder (r_bindName ?_); walk_at "t"; refine r_inOrder0 ?_; walk_at "n"; refine r_assign (r_listE (r_args0 ?_))
  refine r_list ⋯ ?_
  intro b17 s17 S17 h17 N17
  obtain ⟨ad17, ob17, S18, ea, eo, ek⟩ := S17.keyA 97 h17 N17
  clear S17
  subst ea
  walk_at "t"; walk_at "n"
  rename_i s19 S19
  clear S18
  have l16 : ∀ b o, G7 b o → G16 b o := fun b o g => le16 _ _ (le15 _ _ (le14 _ _ (le13 _ _ (le12 _ _ (le10 _ _ (le9 _ _ (le8 _ _ g)))))))
  have E0 : ∀ j, (j = 3 ∨ j = 5 ∨ (16 ≤ j ∧ j < 20)) → ad17 j = ad7 j ∧ ob17 j = ob7 j := fun j hj => by
    have h1 := ek j (oq166 hj)
    have h2 := e16 j (oq167 hj) (oq168 hj) (oq169 hj) (oq170 hj)
    have h3 := e13 j (by rw [hus j]; unfold zKeys; exact oq171 hj)
    exact ⟨h1.1.trans (h2.1.trans h3.1), h1.2.trans (h2.2.trans h3.2)⟩
  have E1 : ∀ j, zKeys 1 j → ad17 j = ad13 j ∧ ob17 j = ob13 j := fun j hj => by
    unfold zKeys at hj
    have h1 := ek j (oq172 hj)
    have h2 := e16 j (oq173 hj) (oq174 hj) (oq175 hj) (oq176 hj)
    exact ⟨h1.1.trans h2.1, h1.2.trans h2.2⟩
  let a0 : Adr := ⟨wk, st, kk, b14, ad17 97, ad 3, fun i => if i = 0 then z0 else z1, fun _ => 0⟩
  have hb : Bg a0 0 G16 ad17 ob17 := by
    have o3 : ob17 3 = o2 := by rw [(E0 3 (oq177)).2, (e7 3 hu3).2, up_same]
    refine ⟨by rw [(ek 4 (by decide)).1]; exact gw, by rw [(ek 0 (by decide)).1]; exact gs, by rw [(ek 1 (by decide)).1]; exact gk, fun j hj => ?_, ⟨_, le16 _ _ (le15 _ _ g14), IsL.lst _⟩, by rw [(E0 3 (oq177)).1]; exact (e7 3 hu3).1, by rw [(ek 0 (by decide)).2]; exact sd, by rw [(ek 1 (by decide)).2, (ek 2 (by decide)).1]; exact kd, by rw [(ek 2 (by decide)).2]; exact nm, by rw [o3]; exact ho2, by rw [(ek 4 (by decide)).2]; exact wd, fun j hj => ?_, fun j _ hj c hc => ?_, fun j hj => absurd hj (Nat.not_lt_zero _), rfl, [], 0, eo, rfl, fun j r q => by simp at q⟩
    · rcases (show j = 0 ∨ j = 1 by exact oq49 hj) with rfl | rfl
      · rw [(E0 (5 + 0) (by decide)).1]; exact l16 _ _ gz0
      · rw [(E1 (5 + 1) (by unfold zKeys; decide)).1]; exact le16 _ _ (le15 _ _ (le14 _ _ gz1))
    · rcases (show j = 0 ∨ j = 1 by exact oq49 hj) with rfl | rfl
      · rw [(E0 (5 + 0) (by decide)).2]; exact zm0.congr fun c hc => (E0 _ (oq178 hc)).1
      · rw [(E1 (5 + 1) (by unfold zKeys; decide)).2]; exact zm1.congr fun c hc => (E1 _ (by unfold zKeys; exact oq179 hc)).1
    · rcases (show j = 0 ∨ j = 1 by exact oq49 hj) with rfl | rfl
      · rw [(E0 _ (oq178 hc)).2]; exact ln0 c hc
      · rw [(E1 _ (by unfold zKeys; exact oq179 hc)).2]; exact ln1 c hc
  have S20 := S19.lessU (us' := BU 0) fun k h => by
    unfold BU at h
    show ((((((us k ∨ zKeys 0 k) ∨ zKeys 1 k) ∨ k = 4) ∨ k = 0) ∨ k = 1) ∨ k = 2) ∨ k = 97
    rw [hus k]; unfold zKeys; exact oq180 h
  have lG : ∀ b o, G b o → G16 b o := fun b o g => l16 _ _ (le7 _ _ (le5 _ _ (le4 _ _ (le3 _ _ g))))
  clear S19 S16 e7 e13 e16 ek zm0 zm1 ln0 ln1 gz0 gz1 gw gs gk sd kd nm wd E0 E1 l16
  have a0src : a0.src = ad 3 := rfl
  have a0rs : a0.rs = ad17 97 := rfl
  have a0w : a0.w = wk := rfl
  have a0zs : a0.zs = b14 := rfl
  have azs : [Value.ref z0, .ref z1] = [.ref (a0.z 0), .ref (a0.z 1)] := rfl
  let J : InvV := fun i loc' G' ad' ob' us' => i ≤ 2 ∧ Kn [("work", .ref wk), ("rows", .ref a0.rs), ("axis", .int ax t1), ("source", .ref (ad 3))] loc' ∧ (∀ b o, G16 b o → G' b o) ∧ us' = BU i ∧ Bg a0 i G' ad' ob'
  refine r_forListV (B := B) (Z := Zp us ad s) (s₀ := s) (L := L1) 91 J ?_ ?_ hA1.h ?_
  · rintro i loc' G' ad' ob' us' ⟨h1, h2, h3, rfl, h4⟩
    unfold BU; exact oq181
  · rintro i loc' G' ad' ob' us' b o ⟨h1, h2, h3, rfl, h4⟩
    exact ⟨h1, h2, h3, rfl, h4.congr h1 fun k hk => ⟨up_other _ _ (oq182 hk), up_other _ _ (oq182 hk)⟩⟩
  obtain ⟨mfw, hdw, _, _, hzs, _, _⟩ := hb.wd
  refine r_attrN (r_loc S20 rfl (r_get C S20 hb.gw (.inl (by decide)) hdw (a_W_zones w) hzs rfl fun s21 S21 => ?_))
  refine ⟨b14, lstO [.ref z0, .ref z1], [.ref z0, .ref z1], _, G16, ad17, ob17, _, rfl, IsL.lst _, trivial, le16 _ _ (le15 _ _ g14), S21, ⟨by decide, ⟨rfl, rfl, rfl, rfl, trivial⟩, fun _ _ g => g, rfl, hb⟩, ?_, ?_⟩
  · clear S20 S21 hb
    rintro i loc2 G2 ad2 ob2 us2 v s22 hv ⟨hi2, hkn, hg2, rfl, hb⟩ S22 gb14
    have hi : i < 2 := (List.getElem?_eq_some_iff.mp hv).1
    obtain rfl : v = .ref (a0.z i) := by
      rcases (show i = 0 ∨ i = 1 by exact oq49 hi) with rfl | rfl
      · exact (Option.some.inj hv).symm
      · exact (Option.some.inj hv).symm
    have S23 := S22.sub hkn.sub
    clear S22 hkn
    refine r_asName ?_; walk_at "t"; walk_at "c"
    rename_i s24 S24
    clear S23
    have hin : (i = 0 ∧ nq i = 3) ∨ (i = 1 ∧ nq i = 6) := by
      rcases (show i = 0 ∨ i = 1 by exact oq49 hi) with rfl | rfl
      · exact .inl ⟨rfl, rfl⟩
      · exact .inr ⟨rfl, rfl⟩
    have htd := hb.todo i (Nat.le_refl _) hi
    have hnx := fun G' ad' ob' => hb.next (G' := G') (ad' := ad') (ob' := ob') hi
    have hsr := hb.sr
    have hz := hb.gz i hi
    have hzd := hb.zd i hi
    obtain ⟨mz, nz, hdz, hzo, hzc, hzt, hzn, hzk, _, _⟩ := id hzd
    generalize nq i = n at hin htd hnx
    have u0 : ∀ k, BU i k → BU i k ∨ k = 91 := fun k h => .inl h
    let J2 : InvV := fun j loc' G' ad' ob' us' => j ≤ n ∧ Kn [("zone", .ref (a0.z i)), ("work", .ref wk), ("rows", .ref a0.rs), ("axis", .int ax t1), ("source", .ref (ad 3))] loc' ∧ (∀ b o, G2 b o → G' b o) ∧ us' = (fun k => (BU i k ∨ k = 91) ∨ (16 * i + 20 ≤ k ∧ k < 16 * i + 20 + j)) ∧ SrcOk (ob' 3) ∧
      (∃ z, FilZ (16 * i + 16) n j G' ad' ob' z) ∧ (∀ k, (BU i k ∨ k = 91) → ad' k = ad2 k ∧ (k ≠ 3 → ¬ (16 * i + 16 ≤ k ∧ k < 16 * i + 20) → ob' k = ob2 k))
    refine r_forRangeV (B := B) (Z := Zp us ad s) (s₀ := s) (L := L1) 92 J2 ?_ ?_ hA1.h ?_
    · rintro j loc' G' ad' ob' us' ⟨h1, h2, h3, rfl, h4⟩
      unfold BU; exact oq183 hin h1
    · rintro j loc' G' ad' ob' us' b o ⟨h1, h2, h3, rfl, h4, ⟨z, h5⟩, h6⟩
      refine ⟨h1, h2, h3, rfl, by rw [up_other _ _ (oq184)]; exact h4, ⟨z, h5.congr (fun k _ _ => up_other _ _ (oq185 hin h1 ⋯)) fun k _ _ => up_other _ _ (oq185 hin h1 ⋯)⟩, fun k hk => ?_⟩
      have : k ≠ 92 := by unfold BU at hk; exact oq186 hk
      rw [up_other _ _ this, up_other _ _ this]
      exact h6 k hk
    refine r_callT ⋯ ⋯ (b_range _) bb_range ?_; refine r_args (r_callM ?_); walk_at "l"
    refine r_meth C ⋯ hz (u0 (5 + i) (bu0 (oq187 hi))) hdz (m_Z_count w) hzk ?_
    refine r_cwK0 ⋯ ⋯ (m_Z_count _).kp ?_; dsimp only
    refine sp_count C ⋯ hz (u0 (5 + i) (bu0 (oq187 hi))) hdz hzc (u0 (16 * i + 16 + 1) (buq 1 ⋯ (by decide))) (htd 1 (by decide)) (oq188 hin) (Rm.less hA1) ?_
    intro t25 s25 S25
    refine r_args0 ?_
    refine r_range1 ⋯ ?_
    intro r t26 t27 t28 s26 S26 hr
    refine ⟨r, 0, n, t26, t27, t28, _, G2, ad2, ob2, _, rfl, hr, ⟨by decide, by decide, by exact oq189, by exact oq190 hin⟩, S26, ⟨Nat.zero_le _, ⟨rfl, rfl, rfl, rfl, rfl, trivial⟩, fun _ _ g => g, ?_, hsr, ⟨_, FilZ.start htd⟩, fun k _ => ⟨rfl, fun _ _ => rfl⟩⟩, ?_, ?_⟩
    · funext k; exact propext ⟨.inl, fun h => h.resolve_right (oq191)⟩
    · clear S24 S25 S26 hr
      rintro j loc3 G3 ad3 ob3 us3 t30 s30 hj ⟨hjn, hkn, hg3, rfl, hs3, ⟨z, hF⟩, hfr⟩ S30
      have hj : j < n := oq192 hj
      have S31 := S30.sub (Kn.cons hkn rfl).sub
      clear S30 hkn
      have e3 : ad3 3 = ad 3 := ((hfr 3 (.inl (bu0 (by decide)))).1.trans hb.src)
      have hz3 : G3 (a0.z i) (instObj 423 (ad3 (5 + i))) := by rw [(hfr (5 + i) (.inl (bu0 (oq187 hi)))).1]; exact hg3 _ _ hz
      have eo5 : ob3 (5 + i) = ob2 (5 + i) := (hfr (5 + i) (.inl (bu0 (oq187 hi)))).2 (oq193) (oq2)
      rw [← eo5] at hdz
      rw [← (hfr (16 * i + 16) (.inl (buq 0 ⋯ (by decide)))).1] at hzo
      rw [← (hfr (16 * i + 16 + 1) (.inl (buq 1 ⋯ (by decide)))).1] at hzc
      rw [← (hfr (16 * i + 16 + 2) (.inl (buq 2 ⋯ (by decide)))).1] at hzt
      rw [← (hfr (16 * i + 16 + 3) (.inl (buq 3 ⋯ (by decide)))).1] at hzn
      have hu : ∀ k, BU i k → ((BU i k ∨ k = 91) ∨ (16 * i + 20 ≤ k ∧ k < 16 * i + 20 + j)) ∨ k = 92 := fun k h => .inl (.inl (.inl h))
      obtain ⟨vso, ho, po⟩ := hF.o
      obtain ⟨vsc, hc, pc⟩ := hF.c
      obtain ⟨vst, ht, lt, pt⟩ := hF.t
      obtain ⟨vsn, hn, pn⟩ := hF.v
      have ij : ((0 : Int) + (j : Int)).toNat = j := oq194
      walk_at "c"; refine r_assignT (r_tupleE (r_args ?_)); refine r_callG ⋯ ⋯ (g_law_spot _) (k_law_spot _) ?_; refine r_args ?_; walk_at "l"; refine r_args0 ?_; walk_at "k"
      rw [← e3]
      refine sp_spot C ⋯ (hu 3 (bu0 (by decide))) hs3 (Rm.less hA1) ?_
      intro v1 p1 G4 o4 s32 le4 hp1 hb1 ho4 S32
      refine r_args ?_; refine r_callG ⋯ ⋯ (g_law_spot _) (k_law_spot _) ?_; refine r_args ?_; walk_at "l"; refine r_args0 ?_; walk_at "k"
      rw [← e3]
      refine sp_spot C ⋯ (hu 3 (bu0 (by decide))) (by rw [up_same]; exact ho4) (Rm.less hA1) ?_
      intro v2 p2 G5 o5 s33 le5 hp2 hb2 ho5 S33
      rw [up_up] at S33
      clear S31 S32
      refine r_args0 ?_
      refine r_tuple ⋯ ?_
      intro b34 s34 S34 h34 f34
      refine r_unpack ⋯ (Rm.h ⋯) ⋯ ?_; intro _ _; refine r_inOrder ?_; refine r_asSub ?_; refine r_attrN ?_; walk_at "l"
      have hz5 := le5 _ _ (le4 _ _ hz3)
      refine r_get C ⋯ hz5 (hu (5 + i) (bu0 (oq187 hi))) (by rw [up_other _ _ (oq193)]; exact hdz) (a_Z_original w) hzo rfl ?_
      intro s35 S35
      walk_at "l"
      refine r_setitem ⋯ (hu (16 * i + 16) (buq 0 ⋯ (by decide))) (by rw [up_other _ _ (oq195)]; exact ho) (oq196) (by rw [po.1]; exact oq197 hj) (by rw [po.1]; exact oq198 hin) ?_
      intro oo s36 hoo S36
      rw [ij] at hoo
      clear S35 S34 S33 h34 f34
      refine r_inOrder ?_; refine r_asSub ?_; refine r_attrN ?_; walk_at "l"
      refine r_get C ⋯ hz5 (hu (5 + i) (bu0 (oq187 hi))) (by rw [up_other _ _ (oq199), up_other _ _ (oq193)]; exact hdz) (a_Z_current w) hzc rfl ?_
      intro s37 S37
      walk_at "l"
      refine r_setitem ⋯ (hu (16 * i + 16 + 1) (buq 1 ⋯ (by decide))) (by rw [up_other _ _ (oq200), up_other _ _ (oq201)]; exact hc) (oq196) (by rw [pc.1]; exact oq197 hj) (by rw [pc.1]; exact oq198 hin) ?_
      intro oc s38 hoc S38
      rw [ij] at hoc
      clear S37 S36
      refine r_inOrder0 ?_; walk_at "n"; refine r_assignS (r_listE (r_args (r_cmp ?_))); refine r_callG ⋯ ⋯ (g_law_take _) (k_law_take _) ?_; refine r_args ?_; walk_at "l"; refine r_args ?_; walk_at "i"; refine r_args0 ?_; walk_at "k"
      rw [← e3]
      refine sp_take C ⋯ (hu 3 (bu0 (by decide))) (by rw [up_other _ _ (oq202), up_other _ _ (oq203), up_same]; exact ho5) (Rm.less hA1) (by decide) ?_
      intro r39 t39 o39 s39 hr39 ho39 S39
      walk_at "i"; refine r_eq (r_args (r_cmp ?_)); refine r_callG ⋯ ⋯ (g_law_take _) (k_law_take _) ?_; refine r_args ?_; walk_at "l"; refine r_args ?_; walk_at "i"; refine r_args0 ?_; walk_at "k"
      rw [← e3]
      refine sp_take C ⋯ (hu 3 (bu0 (by decide))) (by rw [up_same]; exact ho39) (Rm.less hA1) (by decide) ?_
      intro r40 t40 o40 s40 hr40 ho40 S40
      rw [up_up] at S40
      clear S38 S39
      walk_at "i"; refine r_eq (r_args0 ?_)
      refine r_list ⋯ ?_
      intro b41 s41 S41 h41 N41
      obtain ⟨ad4, ob4, S42, ea4, eo4, ek4⟩ := S41.keyA (16 * i + 20 + j) h41 N41
      clear S40 S41
      subst ea4
      have hz6 : G5 (a0.z i) (instObj 423 (ad4 (5 + i))) := by rw [(ek4 _ (oq204)).1]; exact hz5
      rw [← (ek4 (16 * i + 16 + 2) (oq205)).1] at hzt
      rw [← (ek4 (16 * i + 16 + 3) (oq206)).1] at hzn
      rw [← (ek4 3 (oq207)).1] at e3
      have hu' : ∀ k, BU i k → upK (fun k => ((BU i k ∨ k = 91) ∨ (16 * i + 20 ≤ k ∧ k < 16 * i + 20 + j)) ∨ k = 92) (16 * i + 20 + j) k := fun k h => .inl (hu k h)
      have eb : ∀ k, k ≠ 16 * i + 20 + j → k ≠ 3 → k ≠ 16 * i + 16 → k ≠ 16 * i + 16 + 1 → ob4 k = ob3 k := fun k h1 h2 h3 h4 => by
        rw [(ek4 k h1).2, up_other _ _ h2, up_other _ _ h4, up_other _ _ h3, up_other _ _ h2]
      have eb0 : ob4 (16 * i + 16) = oo := by rw [(ek4 _ (oq208)).2, up_other _ _ (oq195), up_other _ _ (oq23), up_same]
      have eb1 : ob4 (16 * i + 16 + 1) = oc := by rw [(ek4 _ (oq209)).2, up_other _ _ (oq201), up_same]
      have eb3 : ob4 3 = o40 := by rw [(ek4 _ (oq207)).2, up_same]
      refine r_attrN ?_; walk_at "l"
      refine r_get C ⋯ hz6 (hu' (5 + i) (bu0 (oq187 hi))) (by rw [eb _ (oq204) (oq193) (oq199) (oq7)]; exact hdz) (a_Z_touched w) hzt rfl ?_
      intro s43 S43
      walk_at "l"
      refine r_setitem ⋯ (hu' (16 * i + 16 + 2) (buq 2 ⋯ (by decide))) (by rw [eb _ (oq205) (oq210) (oq211) (oq212)]; exact ht) (oq196) (by rw [lt]; exact oq197 hj) (by rw [lt]; exact oq198 hin) ?_
      intro ot s44 hot S44
      rw [ij] at hot
      clear S43 S42 h41
      walk_at "n"; refine r_assignS (r_cmp ?_); refine r_callG ⋯ ⋯ (g_law_take _) (k_law_take _) ?_; refine r_args ?_; walk_at "l"; refine r_args ?_; walk_at "i"; refine r_args0 ?_; walk_at "k"
      rw [← e3]
      refine sp_take C ⋯ (hu' 3 (bu0 (by decide))) (by rw [up_other _ _ (oq213), eb3]; exact ho40) (Rm.less hA1) (by decide) ?_
      intro r45 t45 o45 s45 hr45 ho45 S45
      clear S44
      walk_at "i"; refine r_eq (r_attrN ?_); walk_at "l"
      refine r_get C ⋯ hz6 (hu' (5 + i) (bu0 (oq187 hi))) (by rw [up_other _ _ (oq193), up_other _ _ (oq11), eb _ (oq204) (oq193) (oq199) (oq7)]; exact hdz) (a_Z_on_curve w) hzn rfl ?_
      intro s46 S46
      walk_at "l"
      refine r_setitem ⋯ (hu' (16 * i + 16 + 3) (buq 3 ⋯ (by decide))) (by rw [up_other _ _ (oq214), up_other _ _ (oq215), eb _ (oq206) (oq214) (oq216) (oq217)]; exact hn) (oq196) (by rw [pn.1]; exact oq197 hj) (by rw [pn.1]; exact oq198 hin) ?_
      intro on s47 hon S47
      rw [ij] at hon
      clear S45 S46
      walk_at "e"; refine r_nil ?_
      refine ⟨rfl, _, G5, ad4, _, (fun k => (BU i k ∨ k = 91) ∨ (16 * i + 20 ≤ k ∧ k < 16 * i + 20 + (j + 1))), S47.lessU ?_, ⟨hj, ⟨rfl, rfl, rfl, rfl, rfl, trivial⟩, fun b o g => le5 _ _ (le4 _ _ (hg3 _ _ g)), rfl, ?_, ⟨_, hF.step (p := p1) (q := p2) (m1 := r39 == 0) (m2 := r40 == 0) (m3 := r45 == 0) hj (fun b o g => le5 _ _ (le4 _ _ g)) (hp1.mono le5) hp2 hb2 (oo := oo) (oc := oc) (ot := ot) (on := on) ?_ ?_ ?_ (IsL.lst _) ?_ rfl ?_ ?_ ?_ ?_ ?_ ?_ ?_⟩, ?_⟩, ?_, ?_⟩
      · intro k h
        have h' : ((BU i k ∨ k = 91) ∨ 16 * i + 20 ≤ k ∧ k < 16 * i + 20 + (j + 1)) ∨ k = 92 := h
        show (((BU i k ∨ k = 91) ∨ 16 * i + 20 ≤ k ∧ k < 16 * i + 20 + j) ∨ k = 92) ∨ k = 16 * i + 20 + j
        by_cases q : k = 16 * i + 20 + j
        · exact .inr q
        · rcases h' with (h | h) | h
          · exact .inl (.inl (.inl h))
          · exact .inl (.inl (.inr ⟨h.1, by exact oq218 q h⟩))
          · exact .inl (.inr h)
      · rw [up_other _ _ (oq219), up_same]; exact ho45
      · intro vs h; rw [h.uniq ho]; exact hoo
      · intro vs h; rw [h.uniq hc]; exact hoc
      · intro vs h
        rw [h.uniq ht, show 16 * i + 16 + 4 + j = 16 * i + 20 + j by exact oq220]; exact hot
      · intro vs h; rw [h.uniq hn]; exact hon
      · rw [up_other _ _ (oq221), up_other _ _ (oq222), up_other _ _ (oq223), show 16 * i + 16 + 4 + j = 16 * i + 20 + j by exact oq220]; exact eo4
      · intro k hk; exact (ek4 k (oq224 hk)).1
      · rw [up_other _ _ (oq21), up_other _ _ (oq195), up_other _ _ (oq22)]; exact eb0
      · rw [up_other _ _ (oq24), up_other _ _ (oq201), up_other _ _ (oq25)]; exact eb1
      · rw [up_other _ _ (oq26), up_other _ _ (oq210), up_same]
      · rw [up_same]
      · intro k h1 h2
        rw [up_other _ _ (oq225 h1), up_other _ _ (oq226 h1), up_other _ _ (oq227 h1)]; exact eb k (oq228 h2) (oq226 h1) (oq229 h1) (oq230 h1)
      · intro k hk
        have hn0 : k ≠ 16 * i + 20 + j := by have := buM ⋯ hk; exact oq231 hin hj this
        refine ⟨(ek4 k hn0).1.trans (hfr k hk).1, fun h1 h2 => ?_⟩
        rw [up_other _ _ (oq32 h2), up_other _ _ (oq232 h1), up_other _ _ (oq33 h2), eb k hn0 h1 (oq233 h2) (oq34 h2)]
        exact (hfr k hk).2 h1 h2
      · exact (ek4 92 (oq234 hin hj)).1
      · rw [up_other _ _ (oq235), up_other _ _ (oq236), up_other _ _ (oq237)]; exact eb 92 (oq234 hin hj) (oq236) (oq238) (oq239)
    · clear S24 S25 S26 hr htd hsr
      rintro loc3 G3 ad3 ob3 us3 s30 ⟨hjn, hkn, hg3, rfl, hs3, ⟨z, hF⟩, hfr⟩ S30
      rw [show ((n : Int) - 0).toNat = n by omega] at *
      have S31 := S30.sub hkn.sub
      clear S30 hkn J2
      have hz3 : G3 (a0.z i) (instObj 423 (ad3 (5 + i))) := by rw [(hfr (5 + i) (.inl (bu0 (oq187 hi)))).1]; exact hg3 _ _ hz
      have zd3 : ZMap (ob3 (5 + i)) ad3 (16 * i + 16) := by
        rw [(hfr (5 + i) (.inl (bu0 (oq187 hi)))).2 (oq193) (oq2)]
        exact hzd.congr fun c hc => (hfr _ (.inl (buq c ⋯ hc))).1
      have hu : ∀ k, BU i k → (BU i k ∨ k = 91) ∨ (16 * i + 20 ≤ k ∧ k < 16 * i + 20 + n) := fun k h => .inl (.inl h)
      have hmk : ∀ c, c < n → (BU i (16 * i + 16 + 4 + c) ∨ 16 * i + 16 + 4 + c = 91) ∨ (16 * i + 20 ≤ 16 * i + 16 + 4 + c ∧ 16 * i + 16 + 4 + c < 16 * i + 20 + n) := fun c hc => .inr ⟨by exact oq240, by exact oq241 hc⟩
      walk_at "n"
      refine compMarks (κ := 5 + i) (b := 16 * i + 16) (n := n) (ms := z.tou) C ⋯ (by unfold BU; exact oq242 hin) (by unfold BU; exact oq243 hin) hA1.h rfl hz3 (hu (5 + i) (bu0 (oq187 hi))) zd3 (hu (16 * i + 16 + 2) (buq 2 ⋯ (by decide))) hF.t hmk hF.m hF.lt (oq188 hin) ⟨rfl, rfl, rfl, rfl⟩ rfl rfl (fun _ => rfl) (fun _ => rfl) rfl rfl ?_
      intro bs os D d s32 S32 hD ND hnd hbl hol hbs hos
      obtain ⟨ad4, ob4, S33, ea4, eo4, ek4⟩ := S32.keyA (16 * i + 50) hD ND
      have S34 := S33.keys (16 * i + 52) bs os (oq244 hbl hol) hnd (fun j h1 h2 => by
        rintro (((h | h) | h) | h)
        · have := (buN (i := i) ⋯ h).2; exact (oq245 hin hbl h1 h2 this).elim
        · exact (oq246 hin hbl h2 h).elim
        · exact (oq247 hin h1 h).elim
        · exact (oq248 h1 h).elim) (fun c b o e1 e2 => by
        obtain ⟨nb, o', e3, hb', Nb⟩ := hbs c b e1
        obtain rfl : o = o' := Option.some.inj (e2.symm.trans e3)
        refine ⟨hb', Nb.z, Nb.g, fun k hk => ?_, Nb.l⟩
        by_cases q : k = 16 * i + 50
        · rw [q, ea4]; exact Ne.symm nb
        · rw [(ek4 k q).1]; exact Nb.k k (hk.resolve_right q))
      have e5 : ∀ (c : Nat) b, bs[c]? = some b → addK ad4 (16 * i + 52) bs (16 * i + 52 + c) = b := fun c b e => addK_in _ _ _ e
      have o5 : ∀ (c : Nat) o, os[c]? = some o → addK ob4 (16 * i + 52) os (16 * i + 52 + c) = o := fun c o e => addK_in _ _ _ e
      have k5 : ∀ k, (k < 16 * i + 52 ∨ 16 * i + 52 + n ≤ k) → addK ad4 (16 * i + 52) bs k = ad4 k ∧ addK ob4 (16 * i + 52) os k = ob4 k := fun k hk => ⟨addK_out _ _ _ (oq249 hbl hk), addK_out _ _ _ (oq249 hol hk)⟩
      generalize addK ad4 (16 * i + 52) bs = ad5 at *
      generalize addK ob4 (16 * i + 52) os = ob5 at *
      clear S31 S32 S33 hbs
      have K5 : ∀ k, k ≠ 16 * i + 50 → (k < 16 * i + 52 ∨ 16 * i + 52 + n ≤ k) → ad5 k = ad3 k ∧ ob5 k = ob3 k := fun k h1 h2 => ⟨(k5 k h2).1.trans (ek4 k h1).1, (k5 k h2).2.trans (ek4 k h1).2⟩
      have f50 := k5 (16 * i + 50) (oq250)
      rw [ea4, eo4] at f50
      clear k5 ek4 ea4 eo4
      have hz5 : G3 (a0.z i) (instObj 423 (ad5 (5 + i))) := by rw [(K5 (5 + i) (oq251) (oq252)).1]; exact hz3
      have zd5 : ZMap (ob5 (5 + i)) ad5 (16 * i + 16) := by
        rw [(K5 (5 + i) (oq251) (oq252)).2]
        exact zd3.congr fun c hc => (K5 _ (oq253 hc) (oq254 hc)).1
      have hF5 := hF.congr (fun k h1 h2 => (K5 k (oq255 hin h2) (oq256 hin h2)).1) (fun k h1 h2 => (K5 k (oq255 hin h2) (oq256 hin h2)).2)
      have F97 : ad5 97 = a0.rs ∧ ob5 97 = ob2 97 := by
        have h1 := K5 97 (oq257) (oq258 hin)
        have h2 := hfr 97 (.inl bu97)
        exact ⟨h1.1.trans (h2.1.trans hb.rl), h1.2.trans (h2.2 (oq259) (oq260 hi))⟩
      have e35 : ob5 3 = ob3 3 := (K5 3 (oq261) (oq262)).2
      have U5 : ∀ k, (BU i k ∨ k = 91 ∨ (16 * i + 20 ≤ k ∧ k < 16 * i + 20 + n) ∨ k = 16 * i + 50 ∨ (16 * i + 52 ≤ k ∧ k < 16 * i + 52 + n)) → (((BU i k ∨ k = 91) ∨ (16 * i + 20 ≤ k ∧ k < 16 * i + 20 + n)) ∨ k = 16 * i + 50) ∨ (16 * i + 52 ≤ k ∧ k < 16 * i + 52 + bs.length) := fun k h => by
        rw [hbl]
        rcases h with h | h | h | h | h
        · exact .inl (.inl (.inl (.inl h)))
        · exact .inl (.inl (.inl (.inr h)))
        · exact .inl (.inl (.inr h))
        · exact .inl (.inr h)
        · exact .inr h
      have fr5 : ∀ k, BU i k → ad5 k = ad2 k ∧ (k ≠ 3 → ¬ (16 * i + 16 ≤ k ∧ k < 16 * i + 20) → ob5 k = ob2 k) := fun k hk => by
        have h1 := hfr k (.inl hk)
        have h3 := (buN ⋯ hk).2
        have h2 := K5 k (oq263 h3) (oq264 hin h3)
        exact ⟨h2.1.trans h1.1, fun q1 q2 => h2.2.trans (h1.2 q1 q2)⟩
      have f91 : ad5 91 = ad2 91 ∧ ob5 91 = ob2 91 := by
        have h1 := K5 91 (oq265) (oq266 hin)
        have h2 := hfr 91 (.inr rfl)
        exact ⟨h1.1.trans h2.1, h1.2.trans (h2.2 (oq267) (oq268))⟩
      clear K5 hfr hz3 zd3 hu hmk hF
      walk_at "n"; refine r_expr (r_callM ?_); walk_at "l"
      obtain ⟨rr, dr, hr97, _, _⟩ := hb.rows
      have h97 : ob5 97 = listOf (rr.map Value.ref).toArray dr := F97.2.trans hr97
      rw [← F97.1]
      refine r_lmeth ⋯ (U5 97 (.inl bu97)) h97 PySem.F.slot_list_append rfl ?_
      obtain ⟨mz5, nz5, hdz5, hzo5, hzc5, hzt5, hzn5, _⟩ := zd5
      obtain ⟨vso, ho, po⟩ := hF5.o
      obtain ⟨vsc, hc, pc⟩ := hF5.c
      obtain ⟨vsn, hn, pn⟩ := hF5.v
      refine r_cwB ?_; refine r_args (r_listE (r_args ?_)); refine r_callT ⋯ ⋯ (b_list _) bb_list ?_; refine r_args (r_attrN ?_); walk_at "l"
      refine r_get C ⋯ hz5 (U5 (5 + i) (.inl (bu0 (oq187 hi)))) hdz5 (a_Z_original w) hzo5 rfl ?_
      intro s40 S40
      refine r_args0 ?_
      refine r_listCopyK ⋯ (κ := 16 * i + 16) (U5 (16 * i + 16) (.inl (buq 0 ⋯ (by decide)))) ho (by rw [po.1]; exact oq269 hin) ?_
      intro b41 d41 s41 S41 h41 N41
      obtain ⟨ad61, ob61, S42, ea1, eo1, ek1⟩ := S41.keyA (16 * i + 48) h41 N41
      subst ea1
      clear S34 S40 S41 h41 N41
      refine r_args ?_; refine r_callT ⋯ ⋯ (b_list _) bb_list ?_; refine r_args (r_attrN ?_); walk_at "l"
      refine r_get (mf := mz5) (v := .ref (ad61 (16 * i + 16 + 1))) C ⋯ (by rw [(ek1 (5 + i) (oq270)).1]; exact hz5) (by exact .inl (U5 (5 + i) (.inl (bu0 (oq187 hi))))) (by rw [(ek1 (5 + i) (oq270)).2]; exact hdz5) (a_Z_current w) (by rw [(ek1 (16 * i + 16 + 1) (oq271)).1]; exact hzc5) rfl ?_
      intro s43 S43
      refine r_args0 ?_
      refine r_listCopyK ⋯ (κ := 16 * i + 16 + 1) (by exact .inl (U5 (16 * i + 16 + 1) (.inl (buq 1 ⋯ (by decide))))) (by rw [(ek1 (16 * i + 16 + 1) (oq271)).2]; exact hc) (by rw [pc.1]; exact oq269 hin) ?_
      intro b44 d44 s44 S44 h44 N44
      obtain ⟨ad62, ob62, S45, ea2, eo2, ek2⟩ := S44.keyA (16 * i + 49) h44 N44
      subst ea2
      clear S42 S43 S44 h44 N44
      refine r_args ?_; walk_at "l"; refine r_args ?_; refine r_callT ⋯ ⋯ (b_list _) bb_list ?_; refine r_args (r_attrN ?_); walk_at "l"
      refine r_get (mf := mz5) (v := .ref (ad62 (16 * i + 16 + 3))) C ⋯ (by rw [(ek2 (5 + i) (oq272)).1, (ek1 (5 + i) (oq270)).1]; exact hz5) (by exact .inl (.inl (U5 (5 + i) (.inl (bu0 (oq187 hi)))))) (by rw [(ek2 (5 + i) (oq272)).2, (ek1 (5 + i) (oq270)).2]; exact hdz5) (a_Z_on_curve w) (by rw [(ek2 (16 * i + 16 + 3) (oq273)).1, (ek1 (16 * i + 16 + 3) (oq274)).1]; exact hzn5) rfl ?_
      intro s46 S46
      refine r_args0 ?_
      refine r_listCopyK ⋯ (κ := 16 * i + 16 + 3) (by exact .inl (.inl (U5 (16 * i + 16 + 3) (.inl (buq 3 ⋯ (by decide)))))) (by rw [(ek2 (16 * i + 16 + 3) (oq273)).2, (ek1 (16 * i + 16 + 3) (oq274)).2]; exact hn) (by rw [pn.1]; exact oq269 hin) ?_
      intro b47 d47 s47 S47 h47 N47
      obtain ⟨ad63, ob63, S48, ea3, eo3, ek3⟩ := S47.keyA (16 * i + 51) h47 N47
      subst ea3
      clear S45 S46 S47 h47 N47
      refine r_args0 ?_
      refine x_mklist ⋯ ?_
      intro b49 G6 s49 le6 g49 S49
      clear S48
      refine r_args0 ?_
      have e63 : ∀ k, k ≠ 16 * i + 48 → k ≠ 16 * i + 49 → k ≠ 16 * i + 51 → ad63 k = ad5 k ∧ ob63 k = ob5 k := fun k h1 h2 h3 => by
        have q1 := ek1 k h1
        have q2 := ek2 k h2
        have q3 := ek3 k h3
        exact ⟨q3.1.trans (q2.1.trans q1.1), q3.2.trans (q2.2.trans q1.2)⟩
      show WP _ _ _ (call (.builtin "list.append") [.ref (ad5 97), .ref b49]) _ _ _
      rw [← (e63 97 (oq275) (oq276 hi) (oq277)).1]
      refine r_append ⋯ (by exact .inl (.inl (.inl (U5 97 (.inl bu97))))) ((e63 97 (oq275) (oq276 hi) (oq277)).2.trans h97) (by simp; have := hb.rows; exact oq278 hi ⋯) ?_
      intro s50 S50
      clear S49
      walk_at "e"; refine r_nil ?_
      have j1 : 16 * (i + 2) + 16 = 16 * i + 48 := oq279
      have j2 : 16 * (i + 2) + 16 + 1 = 16 * i + 49 := oq280
      have j3 : 16 * (i + 2) + 16 + 2 = 16 * i + 50 := oq281
      have j4 : 16 * (i + 2) + 16 + 3 = 16 * i + 51 := oq282
      have d1 : ob63 (16 * i + 48) = listOf vso.toArray d41 := ((ek3 _ (oq283)).2.trans (ek2 _ (oq284)).2).trans eo1
      have d2 : ob63 (16 * i + 49) = listOf vsc.toArray d44 := (ek3 _ (oq285)).2.trans eo2
      have d3 : ob63 (16 * i + 50) = listOf (bs.map Value.ref).toArray d := (e63 _ (oq286) (oq287) (oq288)).2.trans f50.2
      have c1 : ad63 (16 * i + 48) = ad61 (16 * i + 48) := (ek3 _ (oq283)).1.trans (ek2 _ (oq284)).1
      have c2 : ad63 (16 * i + 49) = ad62 (16 * i + 49) := (ek3 _ (oq285)).1
      have c3 : ad63 (16 * i + 50) = D := (e63 _ (oq286) (oq287) (oq288)).1.trans f50.1
      refine ⟨rfl, _, G6, ad63, _, BU (i + 1), S50.lessU ?_, le6 _ _ (hg3 _ _ gb14), ⟨by exact oq289 hi, ⟨rfl, rfl, rfl, rfl, trivial⟩, fun b o g => le6 _ _ (hg3 _ _ (hg2 _ _ g)), rfl, hnx G6 ad63 _ (fun b o g => le6 _ _ (hg3 _ _ g)) ?_ ?_ ?_ (z := z) ?_ ?_ hF5.bd g49 ?_ ?_⟩, ?_, ?_⟩
      · intro k h
        have h' : BU (i + 1) k ∨ k = 91 := h
        show ((((((BU i k ∨ k = 91) ∨ (16 * i + 20 ≤ k ∧ k < 16 * i + 20 + n)) ∨ k = 16 * i + 50) ∨ (16 * i + 52 ≤ k ∧ k < 16 * i + 52 + bs.length)) ∨ k = 16 * i + 48) ∨ k = 16 * i + 49) ∨ k = 16 * i + 51
        rw [hbl]
        exact buL ⋯ h'
      · intro k h1 h2 h3 h4
        have h7 := (buN ⋯ h1).2
        have q := e63 k (oq290 h7) (oq291 h7) (oq292 h7)
        rw [up_other _ _ h3, q.2]
        exact (fr5 k h1).2 h2 h4
      · intro k h1
        have h7 := (buN ⋯ h1).2
        have q := e63 k (oq290 h7) (oq291 h7) (oq292 h7)
        exact q.1.trans (fr5 k h1).1
      · rw [up_other _ _ (oq293), (e63 3 (oq294) (oq295) (oq296)).2, e35]; exact hs3
      · exact ((hF5.congr (fun k h1 h2 => (e63 k (oq297 hin h2) (oq298 hin h2) (oq299 hin h2)).1) fun k h1 h2 => by rw [up_other _ _ (oq300 hin h2)]; exact (e63 k (oq297 hin h2) (oq298 hin h2) (oq299 hin h2)).2).quad).mono le6
      · obtain ⟨q1, q2, q3, q4, q5, r1, r2, r3, r4⟩ := hF5.quad.mono le6
        refine ⟨⟨vso, ?_, (po.mono fun _ _ => IsPt.mono le6).all hF5.lo⟩, ⟨vsc, ?_, (pc.mono fun _ _ => IsPt.mono le6).all hF5.lc⟩, ⟨bs.map Value.ref, ?_, by rw [List.length_map]; exact hbl, fun c hc => ?_⟩, fun c p e => ?_, ?_, r1, r2, r3, r4⟩
        · rw [up_other _ _ (oq301), j1, d1]; exact ⟨rfl, _, rfl⟩
        · rw [up_other _ _ (oq302 hi), j2, d2]; exact ⟨rfl, _, rfl⟩
        · rw [up_other _ _ (oq303), j3, d3]; exact ⟨rfl, _, rfl⟩
        · obtain ⟨b, eb⟩ : ∃ b, bs[c]? = some b := ⟨_, List.getElem?_eq_getElem (oq114 hbl hc)⟩
          rw [List.getElem?_map, eb, show 16 * (i + 2) + 16 + 4 + c = 16 * i + 52 + c by exact oq304, (e63 _ (oq305) (oq306) (oq307)).1, e5 c b eb]; rfl
        · have hc : c < n := by rw [← hF5.lt]; exact (List.getElem?_eq_some_iff.mp e).1
          obtain ⟨o, eo⟩ : ∃ o, os[c]? = some o := ⟨_, List.getElem?_eq_getElem (oq114 hol hc)⟩
          rw [up_other _ _ (oq308 hin hc), show 16 * (i + 2) + 16 + 4 + c = 16 * i + 52 + c by exact oq304, (e63 _ (oq305) (oq306) (oq307)).2, o5 c o eo]
          exact hos c o p eo e
        · rw [up_other _ _ (oq309), j4, eo3, ← all2_bools (pn.all hF5.ln)]; exact ⟨rfl, _, rfl⟩
      · rw [show 16 * (i + 2) + 17 = 16 * i + 49 by exact oq310, show 16 * (i + 2) + 18 = 16 * i + 50 by exact oq311, show 16 * (i + 2) + 19 = 16 * i + 51 by exact oq312, j1, c1, c2, c3]; exact IsL.lst _
      · intro rr' d' e
        have e' : rr'.map Value.ref = rr.map Value.ref := by
          have := e.symm.trans hr97
          injection this with _ _ this
          injection this with this
          exact by simpa using this
        exact ⟨dr + 1, by rw [up_same, List.map_append, e']; rfl⟩
      · exact (e63 91 (oq313) (oq314) (oq315)).1.trans f91.1
      · rw [up_other _ _ (oq316)]; exact (e63 91 (oq313) (oq314) (oq315)).2.trans f91.2
  · clear S20 S21 hb hdw hzs
    rintro loc9 G9 ad9 ob9 us9 s60 ⟨_, hkn, hg9, rfl, hb⟩ S60 gb
    have S61 := S60.sub hkn.sub
    clear S60 hkn J gb
    replace hb : Bg a0 2 G9 ad9 ob9 := hb
    replace S61 : St B L1 [("work", .ref wk), ("rows", .ref a0.rs), ("axis", .int ax t1), ("source", .ref (ad 3))] (Zp us ad s) G9 ad9 ob9 (BU 2) s s60 := S61
    obtain ⟨mfw, hdw, hst, _⟩ := id hb.wd
    obtain ⟨mfs, hds, hsm⟩ := id hb.sd
    have u0 : BU 2 0 := .inl (by decide)
    walk_at "n"; refine r_assign (r_attrN ?_); walk_at "l"
    refine r_get C ⋯ hb.gw (show BU 2 4 from .inl (by decide)) hdw (a_W_state w) hst rfl ?_
    intro s62 S62
    clear S61
    walk_at "t"; walk_at "n"
    refine r_assignM ?_
    refine r_ifexp (r_isCmp ?_); walk_at "l"; walk_at "i"; refine r_eq (r_truthy ?_); (refine br ?_ ?_ <;> intro _); refine r_tupleE (r_args ?_); walk_at "i"; refine r_args ?_; walk_at "i"; refine r_args0 ?_; rotate_left; refine r_tupleE (r_args ?_); walk_at "i"; refine r_args ?_; walk_at "i"; refine r_args0 ?_; rotate_left
    all_goals
      refine x_mkpt ⋯ ?_
      intro b63 G10 s63 le10' p63 S63
      obtain ⟨f1, f2, f3⟩ := smapS hsm
      refine r_asAttr ?_; walk_at "l"
      refine r_set C ⋯ (le10' _ _ hb.gs) u0 hds (a_S_freedom w) (by decide) ?_
      intro o64 s64 D64 S64
      rw [if_pos f1] at D64
      refine r_asAttr ?_; walk_at "l"
      refine r_set C ⋯ (le10' _ _ hb.gs) u0 (by rw [up_same]; exact D64) (a_S_projection w) (by decide) ?_
      intro o65 s65 D65 S65
      rw [if_pos (by rw [if_neg (by decide)]; exact f2), up_up] at *
      refine r_asAttr ?_; walk_at "l"
      refine r_set C ⋯ (le10' _ _ hb.gs) u0 (by rw [up_same]; exact D65) (a_S_dual w) (by decide) ?_
      intro o66 s66 D66 S66
      rw [if_pos (by rw [if_neg (by decide), if_neg (by decide)]; exact f3)] at D66
      rw [up_up] at S66
      clear S65 S64 S63 D65 D64
      walk_at "n"; refine r_ret (r_listE (r_args ?_)); walk_at "l"; refine r_args ?_; walk_at "l"; refine r_args ?_; walk_at "l"; refine r_args0 ?_
      refine x_mklist ⋯ ?_
      intro b67 G11 s67 le11' g67 S67
      clear S66
      refine nx_ret ⋯ ?_; clear Nc Qc; dsimp only
      have hp : IsPt G10 (.ref b63) (axv ax) := by
        unfold axv
        split
        · first | exact p63 | exact (oq317 ⋯ ⋯).elim
        · first | exact p63 | omega
      obtain ⟨D, r, G12, le12', S68, R, O, hBd, hk⟩ := (hb.mono fun b o g => le11' _ _ (le10' _ _ g)).fin S67 (fun k h => up_other _ _ h) (by rw [up_same]; exact D66) (smap3 (hsm.mono fun b o g => le11' _ _ (le10' _ _ g)) (hp.mono le11')) (by omega)
      try refine nx_ret ⋯ ?_
      exact k _ D { a0 with r := r } G12 ad9 _ t1 _ (fun b o g => le12' _ _ (le11' _ _ (le10' _ _ (hg9 _ _ (lG _ _ g))))) (S.backZ S68.H S68.S) R O hBd rfl (by rw [hk]; exact le12' _ _ g67)
end
section
variable {ad : Nat → Addr} {ob : Nat → Obj} {a : Adr} {i : Nat} {n : Int} {u : Tok} {v : Value}
theorem r_unpackT {elts : List Expr} {k : Nat} {t : Addr} {vs : List Value} {Q : Unit → Shared → Prop} (S : St B L loc Z G ad ob us s₀ s) (hh : A.handled = none) (g : G t (lstO vs))
    (h : ∀ s', St B L loc Z G ad ob us s₀ s' → WP pw w A (assignInOrder ((assignEach elts env).map (·.2)) vs) Q E s') (hn : (assignEach elts env).length = vs.length := by rfl) (hstar : (assignEach elts env).findIdx? (·.1) = none := by rfl) :
    WP pw w A (assign (.Tuple elts k pos) env (.ref t)) Q E s := by
  delta WP at *
  rw [assign_Tuple]
  refine wpAny_bind (wpAny_standAt ?_)
  unfold unpack
  rw [hn, hstar, show vs.length = vs.toArray.size by rw [List.size_toArray]]
  exact wpAny_bind (wpAny_holding (kun_itemsOf hh (gIsL S g) fun h' e => h _ (S.ext (ext_size e) _)))
theorem r_callX {f e : Expr} {rest : List Expr} (h : WP pw w A (eval f env) (fun fv s₁ => WP pw w A (callWith pos fv [] (backTo pos (starEach (e :: rest) env)) (backToKw pos (keywordEach [] env))) Q E s₁) E s)
    (hc : eval (.Call f (e :: rest) [] pos) env = (do callWith pos (← eval f env) [] (backTo pos (starEach (e :: rest) env)) (backToKw pos (keywordEach [] env))) := by rfl) :
    WP pw w A (eval (.Call f (e :: rest) [] pos) env) Q E s := by
  delta WP at *; exact Call_ h hc
theorem r_or {x : Expr} {rest : List Expr} {whole : Sem Value} {Q : Bool → Shared → Prop} (h : WP pw w A (isTrue x env (eval x env)) (fun c s' => if c then Q true s' else WP pw w A (isTrue (.BoolOp .Or rest pos) env whole) Q E s') E s) :
    WP pw w A (isTrue (.BoolOp .Or (x :: rest) pos) env whole) Q E s := by delta WP at *; exact isTrue_or h
theorem r_or0 {whole : Sem Value} {Q : Bool → Shared → Prop} (h : Q false s) : WP pw w A (isTrue (.BoolOp .Or [] pos) env whole) Q E s := by delta WP; exact isTrue_or_nil h
theorem r_and {x y : Expr} {rest : List Expr} (h : WP pw w A (eval x env) (fun v s₁ => WP pw w A (truthy v) (fun c s₂ => if c then WP pw w A (eval (.BoolOp .And (y :: rest) pos) env) Q E s₂ else Q v s₂) E s₁) E s) :
    WP pw w A (eval (.BoolOp .And (x :: y :: rest) pos) env) Q E s := by delta WP at *; exact BoolOp_and h
theorem r_and1 {x : Expr} {op : BoolOp} (h : WP pw w A (eval x env) Q E s) : WP pw w A (eval (.BoolOp op [x] pos) env) Q E s := by delta WP at *; exact BoolOp_one h
theorem y_z2h {Q : Unit → Shared → Prop} (C : Cx w B) (S : St B L loc Z G2 ad ob us s₀ s) (le : ∀ b o, G b o → G2 b o) (R : Rel D a G ad ob) (hu : ∀ k, US k → us k) (h : ∀ o s', St B L loc Z G2 ad (up ob 0 o) us s₀ s' → Rel { D with z2 := n } a G ad (up ob 0 o) → Q () s') : WP pw w A (setAttr (.ref a.s) "zp2" (.int n u)) Q E s := by
  obtain ⟨mf, hd, m1, m2, m3, m4, m5, m6, m7, m8, m9, m10⟩ := R.sd
  have e : (mf "zp2").isSome = true := by
    obtain ⟨_, e⟩ := m6
    rw [e]; rfl
  have ne : ∀ {x : Str} {p q r : Option Value}, (x == ("zp2" : Str)) = false → q = r → (if x = ("zp2" : Str) then p else q) = r := fun h e => (if_neg (by simpa using h)).trans e
  obtain ⟨⟨v1, e1, p1⟩, ⟨v2, e2, p2⟩, ⟨v3, e3, p3⟩, ⟨t4, e4⟩, ⟨t5, e5⟩, ⟨t7, e7⟩⟩ := And.intro m1 (And.intro m2 (And.intro m3 (And.intro m4 (And.intro m5 m7))))
  refine r_set C S (le _ _ R.gs) (hu 0 us_l) hd (a_S_zp2 w) (by decide) fun o s' hd' S' => ?_
  rw [e] at hd'
  refine h o s' S' (R.uSt (D' := { D with z2 := n }) hd' ?_ rfl rfl rfl rfl)
  exact ⟨⟨v1, ne rfl e1, p1⟩, ⟨v2, ne rfl e2, p2⟩, ⟨v3, ne rfl e3, p3⟩, ⟨t4, ne rfl e4⟩, ⟨t5, ne rfl e5⟩, ⟨u, if_pos rfl⟩, ⟨t7, ne rfl e7⟩, ne rfl m8, ne rfl m9, ne rfl m10⟩
noncomputable def deedL : List Value := [.ref 500, .ref 507, .ref 514, .ref 519, .ref 526, .ref 533]
theorem deed_at {r : Nat} (h : deedL[r]? = some v) : ∃ fa, v = .ref fa ∧ (fa = 500 ∨ fa = 507 ∨ fa = 514 ∨ fa = 519 ∨ fa = 526 ∨ fa = 533) := by
  match r, h with
  | 0, h => cases h; exact ⟨_, rfl, by decide⟩
  | 1, h => cases h; exact ⟨_, rfl, by decide⟩
  | 2, h => cases h; exact ⟨_, rfl, by decide⟩
  | 3, h => cases h; exact ⟨_, rfl, by decide⟩
  | 4, h => cases h; exact ⟨_, rfl, by decide⟩
  | 5, h => cases h; exact ⟨_, rfl, by decide⟩
  | r + 6, h => cases h
theorem deed_k (w : World) {fa : Addr} (hf : fa = 500 ∨ fa = 507 ∨ fa = 514 ∨ fa = 519 ∨ fa = 526 ∨ fa = 533) : keepIn (KK w) (.ref fa) = true := by
  rcases hf with rfl | rfl | rfl | rfl | rfl | rfl
  · exact k_law_isect w
  · exact k_law_align w
  · exact k_law_utp w
  · exact k_law_flips w
  · exact k_law_scfs w
  · exact k_law_measures w
theorem sp_deed {M : Int} {t : Tok} {fa : Addr} (hf : fa = 500 ∨ fa = 507 ∨ fa = 514 ∨ fa = 519 ∨ fa = 526 ∨ fa = 533) (C : Cx w B) (S : St B L loc Z G ad ob us s₀ s) (R : Rel D a G ad ob) (hu : ∀ k, US k → us k) (hκ : ∀ k, 81 ≤ k → ¬ us k) (hA : Rm A 8) (O : Ok D) (hB : Bd M D) (hM : 512 ≤ M) (hM2 : M < 2 ^ 59)
   (k : ∀ v D' s', D'.k = D.k → Ok D' → Bd (64 * M) D' → Due B L loc Z G ad ob us s₀ a D' v s' → Q v s') : WP pw w A (call (.ref fa) [.ref a.src, .ref a.w, .ref a.rs, .ref a.s, .int D.k t]) Q E s := by
  rcases hf with rfl | rfl | rfl | rfl | rfl | rfl
  · exact sp_law_isect C S R hu hκ hA O hB hM hM2 k
  · exact sp_law_align C S R hu hA O hB hM k
  · exact sp_law_utp C S R hu hA O hB hM k
  · exact sp_law_flips C S R hu hκ hA O hB hM k
  · exact sp_law_scfs C S R hu hA O hB hM k
  · exact sp_law_measures C S R hu hA O hB hM k
end
section
variable {ad : Nat → Addr} {ob : Nat → Obj} {l : Addr} {a : Adr} {i : Nat} {n : Int} {u : Tok} {v : Value}
theorem sp_law {ol : Obj} (C : Cx w B) (H : Hp B Z G ad ob us s.heap) (hus : ∀ k, ¬ us k) (hA : Rm A 41) (hf : A.frames = some []) (g : G l ol) (hl : IsL ol vs) (hv : ∀ v ∈ vs, ∃ i t, v = .int i t) (hn : vs.length < 2 ^ 62)
   (k : ∀ s', (∀ b o, B.get? b = some o → s'.heap.get? b = some o) → Same s s' → Q (.bool true) s') : WP pw w A (call (.ref 547) [.ref l]) Q E s := by
  refine r_enterF [("script", .ref l)] C H hA hf rfl rfl (BindsTo.of_eq rfl) (locs rfl) ?_
  intro A1 L1 s1 hA1 hf1 S1
  walk_at "c"; refine r_assign ?_; refine r_callG ⋯ ⋯ (g_law_pool _) (k_law_pool _) ?_; refine r_args ?_; walk_at "l"; refine r_args0 ?_; walk_at "k"
  refine sp_pool C ⋯ (Rm.less hA1) g hl hv hn ?_
  intro b2 x y t0 t1 s2 S2 h2 N2
  obtain ⟨ad3, ob3, S3, ea, eo, ek⟩ := S2.keyA 3 h2 N2
  subst ea
  clear S2 S1
  walk_at "t"; walk_at "n"; refine r_assignT ?_; refine r_callG ⋯ ⋯ (g_law_begun _) (k_law_begun _) ?_; refine r_args ?_; walk_at "l"; refine r_args0 ?_; walk_at "k"
  refine sp_begun C ⋯ (fun k => (by exact ⟨fun h => Or.resolve_left h (hus k), Or.inr⟩)) (by rw [eo]; exact ⟨_, _, _, _, IsL.lst _⟩) (Rm.less hA1) ?_
  intro b4 D a G4 ad4 ob4 t4 s4 le4 S4 R4 O4 B4 hsrc g4
  clear S3
  skip
  refine r_unpackT ⋯ hA1.h g4 ?_
  intro s5 S5
  replace S5 := S5.sub (Kn.sub (need := [("source", .ref (ad3 3))]) ⟨rfl, trivial⟩)
  rw [← hsrc] at S5
  clear S4
  refine r_inOrder (r_asName ?_); walk_at "t"; refine r_inOrder (r_asName ?_); walk_at "t"; refine r_inOrder (r_asName ?_); walk_at "t"; refine r_inOrder0 ?_; walk_at "n"; refine r_assign2 (r_tupleE (r_args (r_listE (r_args ?_)))); refine r_glob ⋯ ⋯ (g_law_isect _) ?_; refine r_args ?_; refine r_glob ⋯ ⋯ (g_law_align _) ?_; refine r_args ?_; refine r_glob ⋯ ⋯ (g_law_utp _) ?_; refine r_args ?_; refine r_glob ⋯ ⋯ (g_law_flips _) ?_; refine r_args ?_; refine r_glob ⋯ ⋯ (g_law_scfs _) ?_; refine r_args ?_; refine r_glob ⋯ ⋯ (g_law_measures _) ?_; refine r_args0 ?_
  refine x_mklist ⋯ ?_
  intro b6 G6 s6 le6 g6 S6
  clear S5
  have R6 := R4.mono le6
  have hu : ∀ k, US k → US k := fun _ h => h
  have hκ : ∀ k, 81 ≤ k → ¬ US k := fun k h q => by unfold US at q; exact (oq328 h q).elim
  clear R4
  refine r_args (r_attrN ?_); walk_at "l"; refine x_wst ⋯ ⋯ ⋯ ⋯ ?_; intro _ _; refine r_args0 ?_; refine r_tuple ⋯ ?_; intro _ _ _ _ _; refine r_unpackN ⋯ (Rm.h ⋯) ⋯ ?_; intro _ _; refine r_inOrder (r_bindName ?_); walk_at "t"; refine r_inOrder (r_bindName ?_); walk_at "t"; refine r_inOrder0 ?_; walk_at "n"
  rename_i s7 S7
  clear S6
  let J : Inv := fun i loc' G' ad' ob' => Kn [("state", .ref a.s), ("deeds", .ref b6), ("axis", .int D.k t4), ("rows", .ref a.rs), ("work", .ref a.w), ("source", .ref a.src)] loc' ∧ (∀ b o, G6 b o → G' b o) ∧ ∃ D', D'.k = D.k ∧ Rel D' a G' ad' ob' ∧ Ok D' ∧ Bd (512 * 64 ^ i) D'
  refine r_forRange (B := B) (Z := Z) (s₀ := s) (us := US) 80 J (fun q => by unfold US at q; exact (oq329 q).elim) ?_ hA1.h ?_
  · rintro i loc' G' ad' ob' b o ⟨h1, h2, D', h3, h4, h5, h6⟩
    exact ⟨h1, h2, D', h3, h4.upX (by decide), h5, h6⟩
  refine r_callT ⋯ ⋯ (b_range _) bb_range ?_; refine r_args ?_; walk_at "i"; refine r_args0 ?_; dsimp only
  refine r_range1 ⋯ ?_
  intro r t8 t9 t10 s8 S8 hr
  refine ⟨r, 0, 8, t8, t9, t10, _, G6, ad4, ob4, rfl, hr, ⟨by decide, by decide, by decide, by decide⟩, S8, ⟨⟨rfl, rfl, rfl, rfl, rfl, rfl, trivial⟩, fun _ _ g => g, D, rfl, R6, O4, fun i hi n => (B4 i hi n).mono (by decide)⟩, ?_, ?_⟩
  · clear S7 S8 hr R6 O4 B4
    rintro i loc1 G1 ad1 ob1 t11 s11 hi ⟨hkn, hg1, D1, hk1, R1, O1, B1⟩ S11
    have hi8 : i < 8 := hi
    have S12 := S11.sub (hkn.skip rfl).sub
    clear S11 hkn
    have hu' : ∀ k, US k → (US k ∨ k = 80) := fun k h => .inl h
    have hκ' : ∀ k, 81 ≤ k → ¬ (US k ∨ k = 80) := fun k h q => q.elim (hκ k h) (by omega)
    have hM := (by decide : ∀ i, i < 8 → (512 : Int) ≤ 512 * 64 ^ i ∧ (512 : Int) * 64 ^ i < 2 ^ 59) i hi8
    clear hu hκ
    walk_at "c"; refine r_assignT (r_tupleE (r_args ?_)); refine r_callG ⋯ ⋯ (g_law_take _) (k_law_take _) ?_; refine r_args ?_; walk_at "l"; refine r_args ?_; walk_at "i"; refine r_args0 ?_; walk_at "k"
    refine take_ C ⋯ R1 hu' (Rm.less hA1) (by decide) ?_
    intro r0 t12 D2 o2 s13 h0 g2 S13 R2
    refine r_args ?_; refine r_callG ⋯ ⋯ (g_law_take _) (k_law_take _) ?_; refine r_args ?_; walk_at "l"; refine r_args ?_; walk_at "i"; refine r_args0 ?_; walk_at "k"
    refine take_ C ⋯ R2 hu' (Rm.less hA1) (by decide) ?_
    intro r1 t13 D3 o3 s14 h1 g3 S14 R3
    refine r_args ?_; refine r_callG ⋯ ⋯ (g_law_take _) (k_law_take _) ?_; refine r_args ?_; walk_at "l"; refine r_args ?_; walk_at "i"; refine r_args0 ?_; walk_at "k"
    refine take_ C ⋯ R3 hu' (Rm.less hA1) (by decide) ?_
    intro r2 t14 D4 o4 s15 h2 g4 S15 R4
    replace g4 : Gt D1 D4 D1.nums D1.q := by
      have q1 := g2.trans g3; rw [g2.q, g2.n] at q1
      have q2 := q1.trans g4; rwa [q1.q, q1.n] at q2
    rw [up_up, up_up] at *
    clear S12 S13 S14 R2 R3 g2 g3
    refine r_args0 ?_
    refine r_tuple ⋯ ?_
    intro b16 s16 S16 h16 f16
    refine r_unpack ⋯ (Rm.h ⋯) ⋯ ?_; intro _ _; refine r_inOrder ?_; refine r_asAttr ?_; walk_at "l"
    refine y_z0 C ⋯ R4 hu' ?_
    intro o5 s17 S17 R5
    clear R4 S15
    refine r_inOrder ?_; refine r_asAttr ?_; walk_at "l"
    refine y_z1 C ⋯ R5 hu' ?_
    intro o6 s18 S18 R6
    clear R5 S17
    refine r_inOrder ?_; refine r_asAttr ?_; walk_at "l"
    refine y_z2 C ⋯ R6 hu' ?_
    intro o7 s19 S19 R7
    clear R6 S18
    have O4 := O1.same g4
    have B4 : Bd (512 * 64 ^ i) D4 := Bd.gt g4 B1
    obtain ⟨D7, R8, k7, O7, B7⟩ : ∃ D7 : Dt, Rel D7 a G1 ad1 (up (up (up (up ob1 3 o4) 0 o5) 0 o6) 0 o7) ∧ D7.k = D.k ∧ Ok D7 ∧ Bd (512 * 64 ^ i) D7 := ⟨_, R7, ⟨g4.k.trans hk1, ⟨O4.e0, O4.e1, O4.f, O4.k, (by show r0 = 0 ∨ r0 = 1; exact oq331 h0), (by show r1 = 0 ∨ r1 = 1; exact oq331 h1), (by show r2 = 0 ∨ r2 = 1; exact oq331 h2), O4.l⟩, B4⟩⟩
    clear R7 O4 B4 g4 O1 B1 R1 hk1
    rw [up_up, up_up] at *
    refine r_inOrder0 ?_; walk_at "n"; refine r_assign ?_; refine r_callX ?_; refine r_callG ⋯ ⋯ (g_law_one _) (k_law_one _) ?_; refine r_args ?_; walk_at "l"; refine r_args ?_; walk_at "l"; refine r_args0 ?_; walk_at "k"
    refine one_ C ⋯ R8 hu' (Rm.less hA1) (hg1 _ _ g6) (by exact ⟨Nat.le_of_ble_eq_true rfl, Nat.le_of_ble_eq_true rfl⟩) ?_
    intro rr v D8 o8 s20 hv g8 S20 R9
    obtain ⟨fa, rfl, hfa⟩ := deed_at hv
    clear S19 R8 hv
    refine r_cwK C ⋯ (deed_k w hfa) ?_
    refine r_args ?_; walk_at "l"; refine r_args ?_; walk_at "l"; refine r_args ?_; walk_at "l"; refine r_args ?_; walk_at "l"; refine r_args ?_; walk_at "l"; refine r_args0 ?_; walk_at "k"
    show WP _ _ _ (call (.ref fa) [.ref a.src, .ref a.w, .ref a.rs, .ref a.s, .int D.k t4]) _ _ _
    rw [← g8.k.trans k7]
    refine sp_deed (M := 512 * 64 ^ i) hfa C ⋯ R9 hu' hκ' (Rm.less hA1) (O7.same g8) (Bd.gt g8 B7) hM.1 hM.2 ?_
    rintro v9 D9 s21 kk9 O9 B9 ⟨G9, ad9, ob9, b9, ds, le9, K9, S21, R10, rfl, g9, hds⟩
    clear S20 R9
    have k80 := K9 80 (.inr rfl) (Nat.le_refl _)
    walk_at "t"; walk_at "n"; refine r_if ?_
    refine r_or ?_
    refine r_isCmp ?_; walk_at "l"; refine r_none ?_
    refine r_isNoneR ?_
    refine r_truthy ?_; refine itf ?_
    refine r_or ?_
    refine r_isNot ?_
    refine r_isPlain ?_
    refine r_callG ⋯ ⋯ (g_law_told _) (k_law_told _) ?_; refine r_args ?_; walk_at "l"; refine r_args ?_; walk_at "l"; refine r_args ?_; walk_at "l"; refine r_args0 ?_; walk_at "k"
    refine sp_told C ⋯ R10 hu' (Rm.less hA1) O9.e0 O9.e1 g9 hds ?_
    intro s22 S22
    refine r_truthy ?_; refine int ?_
    refine r_or0 ?_
    refine itf ?_; refine r_nil ?_; walk_at "e"; refine r_nil ?_
    refine ⟨rfl, _, G9, ad9, ob9, S22, ⟨⟨rfl, rfl, rfl, rfl, rfl, rfl, trivial⟩, fun b o g => le9 _ _ (hg1 _ _ g), D9, kk9.trans (g8.k.trans k7), R10, O9, ?_⟩, k80.1, k80.2.trans ?_⟩
    · rw [show (512 : Int) * 64 ^ (i + 1) = 64 * (512 * 64 ^ i) by rw [Int.pow_succ]; exact oq332]; exact B9
    · rw [up_other _ _ (by decide), up_other _ _ (by decide), up_other _ _ (by decide)]
  · clear S7 S8 hr R6 O4 B4
    rintro loc1 G1 ad1 ob1 s9 ⟨hkn, hg1, D1, hk1, R1, O1, B1⟩ S9
    have S10 := S9.sub hkn.sub
    clear S9 hkn
    walk_at "n"; refine r_assignT (r_tupleE (r_args ?_)); walk_at "i"; refine r_args (r_listE (r_args ?_)); walk_at "i"; refine r_args ?_; walk_at "i"; refine r_args0 ?_
    refine x_hold ⋯ ?_
    intro b11 G2 s11 le2 N11 S11
    clear S10
    refine r_args0 ?_; refine r_tuple ⋯ ?_; intro _ _ _ _ _; refine r_unpack ⋯ (Rm.h ⋯) ⋯ ?_; intro _ _; refine r_inOrder ?_; refine r_asAttr ?_; walk_at "l"
    refine y_z2h C ⋯ le2 R1 hu ?_
    intro o12 s12 S12 R12
    clear S11
    obtain ⟨D2, R2, k2, O2, z2⟩ : ∃ D2 : Dt, Rel D2 a G1 ad1 (up ob1 0 o12) ∧ D2.k = D.k ∧ Ok D2 ∧ D2.z2 = 0 := ⟨_, R12, hk1, ⟨O1.e0, O1.e1, O1.f, O1.k, O1.z0, O1.z1, .inl rfl, O1.l⟩, rfl⟩
    clear R12 R1 O1 B1 hk1
    have R2' := R2.mono le2
    refine r_inOrder ?_; refine r_asAttr ?_; refine r_attrN ?_; walk_at "l"; refine x_wsk ⋯ ⋯ ⋯ ⋯ ?_; intro _ _
    refine nums_ [2, 7777] C N11 ⋯ R2 hu (.cons ⟨_, rfl⟩ (.cons ⟨_, rfl⟩ .nil)) ?_
    intro D5 ad5 ob5 s5 g5 K5 S5 R5
    clear S12
    refine r_inOrder0 ?_; walk_at "n"; refine r_expr ?_; refine r_callG ⋯ ⋯ (g_do_scfs _) (k_do_scfs _) ?_; refine r_args ?_; walk_at "l"; refine r_args ?_; walk_at "i"; refine r_args0 ?_; walk_at "k"
    have hk := O2.k
    rw [k2] at hk
    have hnq2 : (0 : Int) ≤ 2 ∧ (2 : Int) < nq (Int.toNat 0 + 2) := by decide
    refine scfs_ (n := 2) (m := 7777) C ⋯ R5 hu (Rm.less hA1) (by rw [g5.z2]; exact O2.z2) (by rw [g5.f, g5.k]; exact O2.f) g5.n (by decide) ?_
    rw [g5.z2, z2, if_pos rfl, g5.q, g5.k, k2]
    rintro D6 s6 g6 ⟨G6', ad6, ob6, le6', K6, S6, R6⟩
    replace g6 := g5.trans g6
    have hq6 : D6.q (Int.toNat 0 + 2) = D2.q (Int.toNat 0) := by rw [g6.q, up_other _ _ (by decide)]; exact O2.e0.symm
    walk_at "n"; refine r_expr ?_; refine r_callG ⋯ ⋯ (g_law_moved _) (k_law_moved _) ?_; refine r_args ?_; walk_at "l"; refine r_args ?_; walk_at "i"; refine r_args ?_; walk_at "i"; refine r_args ?_; walk_at "l"; refine r_args (r_bin ?_); walk_at "i"; refine Mine.r_sub (Mine.r_sub (Mine.r_sub (Mine.r_sub ?_))); walk_at "l"; walk_at "i"; refine x_rs ⋯ ⋯ (by decide) ?_; walk_at "i"; refine x_r1 ⋯ ⋯ (oq60) ?_; walk_at "i"; refine X_c ⋯ ⋯ ⋯ (oq61) ⋯ ?_; intro _ _; walk_at "l"; refine x_pk ⋯ ⋯ ⋯ ?_; intro _; refine n_sub ?_; walk_at "d"; refine r_args0 ?_; walk_at "k"
    refine moved_ (num := 0) (n := 2) (x := D.k) C ⋯ R6 hu (Rm.less hA1) (.inl rfl) (by decide) hk ?_
    rw [hq6]
    rintro D7 s7 g7 ⟨G7, ad7, ob7, le7, K7, S7, R7⟩
    replace g7 := g6.trans g7
    rw [g6.q, g6.n] at g7
    clear S6 R6 S5 R5
    walk_at "n"; refine r_assignS (Mine.r_sub (Mine.r_sub (Mine.r_sub ?_))); walk_at "l"; walk_at "i"; refine x_rs ⋯ ⋯ (by decide) ?_; walk_at "i"; refine x_r1 ⋯ ⋯ (oq60) ?_; walk_at "i"; refine X_c ⋯ ⋯ ⋯ (oq61) ⋯ ?_; intro _ _; refine Mine.r_sub (Mine.r_sub ?_); walk_at "l"; walk_at "i"; refine x_rs ⋯ ⋯ (by decide) ?_; walk_at "i"; refine x_r0 ⋯ ⋯ (oq60) ?_; walk_at "i"; refine Y_o ⋯ ⋯ ⋯ (oq61) ⋯ ⋯ ?_; intro _ _ _ _; walk_at "n"; refine r_ret ?_
    rename_i S9 R9
    have hD : Gt D2 (D7.sq (Int.toNat 0 + 2) ((D7.q (Int.toNat 0 + 2)).so 2 ((D7.q (Int.toNat 0 + 2)).c 2))) [] (tw D2.q 0 (((D2.q 0).mv D.k 2 (7777 - ax D.k ((D2.q 0).c 2))).so 2 (((D2.q 0).mv D.k 2 (7777 - ax D.k ((D2.q 0).c 2))).c 2))) := by
      refine ⟨g7.k, g7.f, g7.z0, g7.z1, g7.z2, g7.l, ?_, g7.n⟩
      show up D7.q 2 ((D7.q 2).so 2 ((D7.q 2).c 2)) = _
      rw [g7.q, show (Int.toNat 0 + 2 : Nat) = 2 from rfl, up_same, up_up]
      rfl
    have O8 := O2.gt hD (tw_ok (by decide) O2.e0 O2.e1).1 (tw_ok (by decide) O2.e0 O2.e1).2
    refine r_and ?_
    refine r_callG ⋯ ⋯ (g_law_told _) (k_law_told _) ?_; refine r_args ?_; walk_at "l"; refine r_args ?_; walk_at "l"; refine r_args (r_listE (r_args0 ?_))
    refine x_mklist ⋯ ?_
    intro b8 G8 s8 le8 g8 S8
    clear S9
    refine r_args0 ?_; walk_at "k"
    refine sp_told C ⋯ (R9.mono le8) hu (Rm.less hA1) O8.e0 O8.e1 g8 (by rw [hD.n]; exact .nil) ?_
    intro s10 S10
    refine r_truthy ?_; refine itt ?_
    refine r_and1 ?_
    refine r_callG ⋯ ⋯ (g_law_refused _) (k_law_refused _) ?_; refine r_args ?_; walk_at "l"; refine r_args ?_; walk_at "l"; refine r_args0 ?_; walk_at "k"
    refine sp_refused C ⋯ (R9.mono le8) hu hκ (Rm.less hA1) hf1 rfl (by intro q; cases q) O8 ?_
    intro s11 hB hS
    refine nx_ret ⋯ ?_; clear Nc Qc; dsimp only
    exact k s11 hB (S10.S.trans hS)
end
theorem g_law (w : World) : nsIn (KK w) mainGlobals "law" = some (some (.ref 547)) := by kernel_rfl
theorem dL_name : dL.name = ("law" : Str) := by kernel_rfl
theorem callerRm : Rm callerA 41 := ⟨by decide +kernel, by decide +kernel, rfl⟩
noncomputable def Gl (h : Heap) (l : Addr) (vs : List Value) (b : Addr) (o : Obj) : Prop := b = l ∧ h.get? b = some o ∧ IsL o vs
theorem hp0 (h : Heap) (l : Addr) (vs : List Value) : Hp h (fun b o => h.get? b = some o) (Gl h l vs) (fun _ => 0) (fun _ => default) (fun _ => False) h :=
  ⟨Nat.le_refl _, fun _ _ e => e, fun _ _ e => e, fun b o g => ⟨g.2.1, fun es n e => by obtain ⟨_, m, e'⟩ := g.2.2; rw [e'] at e; cases e⟩, fun _ u => u.elim, fun _ u => u.elim, fun _ _ u => u.elim⟩
theorem ints_all {ws : List Value} {ns : List Int} (h : IntsAre ws ns) : ∀ v ∈ ws, ∃ i t, v = .int i t := by
  induction h with
  | nil => intro v hv; cases hv
  | cons _ _ _ ih => intro v hv; cases hv with
    | head => exact ⟨_, _, rfl⟩
    | tail _ hv => exact ih v hv
theorem walked : WalkO view_39 loo (XL view_39 []) hook.says rw1.toRowW dL [] (fun f vs => PySem.call f vs) := by
  intro w s₀ s₁ mg mb G Y a o pm cd doc dV kV ho hd hcd hD hmg hgens args vals as hpre hlay hrd hwl hlo
  have C : Cx w s₁.heap := ⟨Y, _, mg, mb, G.T⟩
  have ha : a = 547 := by
    have e := mg_of (mg := mg) Y G.T.g (g_law w)
    rw [dL_name, e] at hmg
    cases hmg; rfl
  subst ha
  clear ho hd hcd hD hmg Y
  wrow_args hpre hlay hrd hwl hlo
  rename_i ns _ _ _ _ _ _ _ l ws _ hL _ _ _ hI _ hlen _
  obtain ⟨ol, hol, hlc, hld⟩ := hL
  refine (sp_law (Q := fun v s' => GoodWG _ _ _ _ s₁ (.ok (.ret v)) s') C (hp0 s₁.heap l ws) (fun _ u => u) callerRm rfl ⟨rfl, hol, hlc, hld⟩ ⟨hlc, hld⟩ (ints_all hI) (by rw [hI.length]; omega) ?_).out
  intro s' hB hS
  refine GoodW.toG ⟨.inl ⟨.bool true, .bool true, [], rfl, fun _ => rfl, ReadsW.bool true, ?_, fun _ => ⟨.nil, fun _ h => nomatch h⟩⟩, hB, hS.2.2, hS.1.trans hgens⟩
  exact postW_of (r := rw1.toRowW) rfl (w_eq_bool (w_res rfl) w_lit) rfl
theorem holds : PySem.Challenge.rw_on0244_01.Holds := hd walked
end Mine
theorem PySem.Challenge.cw_on0244_01_holds : PySem.Challenge.rw_on0244_01.Holds :=
  Mine.holds
