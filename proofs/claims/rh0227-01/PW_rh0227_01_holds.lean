import PyProof.Rows.All
import Wide.All
import OpenK.AllK
import Wide.FinOn
import PySem.Challenge.RW_rh0227_01
set_option Elab.async false
set_option rowWalk.seconds 0
section
local macro_rules | `(tactic| walk_at $s:str) => do let k := Lean.Syntax.mkStrLit (s.getString ++ "!"); `(tactic| k_extra $k)

section
open PySem PySem.W PyProof.Rows
set_option maxRecDepth 100000
set_option maxHeartbeats 8000000
set_option linter.unusedVariables false
namespace Mine
theorem keep_step {α β : Type} {f : α → Option β} {i : α} {is : List α} {x : β} {l : List β} (h1 : f i = some x) (h2 : is.filterMap f = l) : (i :: is).filterMap f = x :: l := by rw [List.filterMap_cons, h1, h2]
/-- the statements of the text that the walk looks at, written out -/
noncomputable def kept : { b : List Stmt // ([0, 2, 3, 4, 5, 6, 7, 8, 9, 10, 11, 12, 13, 15, 16, 17, 18, 20, 22, 23, 24, 25, 26, 27, 29, 31, 32, 33, 34, 35, 37, 39, 40, 41, 42, 43] : List Nat).filterMap (fun i => PySem.Challenge.pw_rh0227_01.main.body[i]?) = b } :=
  ⟨_, keep_step (by rfl) <| keep_step (by rfl) <| keep_step (by rfl) <| keep_step (by rfl) <| keep_step (by rfl) <| keep_step (by rfl) <| keep_step (by rfl) <| keep_step (by rfl) <| keep_step (by rfl) <| keep_step (by rfl) <| keep_step (by rfl) <| keep_step (by rfl) <| keep_step (by rfl) <| keep_step (by rfl) <| keep_step (by rfl) <| keep_step (by rfl) <| keep_step (by rfl) <| keep_step (by rfl) <| keep_step (by rfl) <| keep_step (by rfl) <| keep_step (by rfl) <| keep_step (by rfl) <| keep_step (by rfl) <| keep_step (by rfl) <| keep_step (by rfl) <| keep_step (by rfl) <| keep_step (by rfl) <| keep_step (by rfl) <| keep_step (by rfl) <| keep_step (by rfl) <| keep_step (by rfl) <| keep_step (by rfl) <| keep_step (by rfl) <| keep_step (by rfl) <| keep_step (by rfl) <| keep_step (by rfl) <| rfl⟩
noncomputable def view : Program := { PySem.Challenge.pw_rh0227_01 with main := { PySem.Challenge.pw_rh0227_01.main with body := kept.1 } }
/-- the objects behind the first twelve steps -/
noncomputable def tree0 (P : Params) : BT := (.node (boot_o_0 P) (.node (boot_o_1 P) (.node (boot_o_3 P) (.node (boot_o_7 P) .nil .nil) (.node ({ cls := .type "tuple", data := .seq #[] }) .nil .nil)) (.node (boot_o_5 P) (.node (boot_o_9 P) .nil .nil) (.node ({ cls := .type "code", data := .fields #[.str (Str.ofString "<module>") 182, .str (Str.ofString "<module>") 183, .str (Str.ofString "/claim/cut.py") 184, .int 1 0, .int 0 0, .int 0 0, .int 0 0, .int 0 0, .ref 11, .bool false, .int 181 0, .ref 12, .none, .none, .none, .none, .int 185 0, .int 1 0, .str (Str.ofString "/claim/cut.py") 186] }) .nil .nil))) (.node (boot_o_2 P) (.node (boot_o_4 P) (.node (boot_o_8 P) .nil .nil) (.node ({ cls := .none, data := .fields #[] }) .nil .nil)) (.node (boot_o_6 P) (.node (boot_o_10 P) .nil .nil) (.node ({ cls := .type "frame", slots := #[some (.ref 13), some (.ref 3), some (.ref 3), none, some (.str (Str.ofString "__main__") 164), none, some (.ref 0)] }) .nil .nil))))
noncomputable def env0 : Env := { scope := PySem.Challenge.pw_rh0227_01.main.scope, locals := mainNs, globals := mainNs, cells := [], code := .ref 13, frame := some 14 }
noncomputable abbrev cd0 : Code := .body (behindTheImports PySem.Challenge.pw_rh0227_01) env0
noncomputable def st0 (w : World) (os : OsState) : SharedT := ⟨tree0 w.params, 15, {}, Array.mk [], {}, 187, os⟩
/-- the parts of a def by its place in the text -/
noncomputable def stm (i : Nat) : Stmt := (PySem.Challenge.pw_rh0227_01.main.body[i]?).getD (.Pass default)
noncomputable def sub (i j : Nat) : Stmt := match stm i with
  | .ClassDef _ _ _ b .. => (b[j]?).getD (.Pass default)
  | _ => .Pass default
def arOf : Stmt → Arguments
  | .FunctionDef _ a .. => a
  | _ => default
def bdOf : Stmt → List Stmt
  | .FunctionDef _ _ b .. => b
  | _ => []
def scOf : Stmt → Scope
  | .FunctionDef _ _ _ _ _ _ s .. => s
  | .ClassDef _ _ _ _ _ _ s .. => s
  | _ => default
noncomputable def b2 (P : Params) : Obj := { cls := Value.none, data := Data.dict #[{ hash := PyData.keyHash P (Str.ofString "type.__subclasses__.Exception.0"), key := Value.str (Str.ofString "type.__subclasses__.Exception.0") 226, val := Value.int 41 0 }, { hash := PyData.keyHash P (Str.ofString "type.__subclasses__.Exception.n"), key := Value.str (Str.ofString "type.__subclasses__.Exception.n") 227, val := Value.int 1 0 }] 2 }
noncomputable def b3 (P : Params) : Obj := { cls := Value.type "dict", data := Data.dict #[{ hash := PyData.keyHash P (Str.ofString "__name__"), key := Value.str (Str.ofString "__name__") 165, val := Value.str (Str.ofString "law_rh0227_01") 664 }, { hash := PyData.keyHash P (Str.ofString "__doc__"), key := Value.str (Str.ofString "__doc__") 166, val := Value.none }, { hash := PyData.keyHash P (Str.ofString "__package__"), key := Value.str (Str.ofString "__package__") 167, val := Value.none }, { hash := PyData.keyHash P (Str.ofString "__loader__"), key := Value.str (Str.ofString "__loader__") 168, val := Value.builtin "__main__.__loader__#opaque" }, { hash := PyData.keyHash P (Str.ofString "__spec__"), key := Value.str (Str.ofString "__spec__") 169, val := Value.none }, { hash := PyData.keyHash P (Str.ofString "__annotations__"), key := Value.str (Str.ofString "__annotations__") 170, val := Value.ref 6 }, { hash := PyData.keyHash P (Str.ofString "__builtins__"), key := Value.str (Str.ofString "__builtins__") 171, val := Value.ref 4 }, { hash := PyData.keyHash P (Str.ofString "__file__"), key := Value.str (Str.ofString "__file__") 173, val := Value.str (Str.ofString "/claim/cut.py") 172 }, { hash := PyData.keyHash P (Str.ofString "__cached__"), key := Value.str (Str.ofString "__cached__") 174, val := Value.none }, { hash := PyData.keyHash P (Str.ofString "_wall"), key := Value.str (Str.ofString "_wall") 193, val := Value.ref 21 }, { hash := PyData.keyHash P (Str.ofString "SnobolError"), key := Value.str (Str.ofString "SnobolError") 229, val := Value.ref 41 }, { hash := PyData.keyHash P (Str.ofString "Failure"), key := Value.str (Str.ofString "Failure") 249, val := Value.ref 54 }, { hash := PyData.keyHash P (Str.ofString "Pattern"), key := Value.str (Str.ofString "Pattern") 278, val := Value.ref 75 }, { hash := PyData.keyHash P (Str.ofString "Delayed"), key := Value.str (Str.ofString "Delayed") 307, val := Value.ref 96 }, { hash := PyData.keyHash P (Str.ofString "NameRef"), key := Value.str (Str.ofString "NameRef") 340, val := Value.ref 117 }, { hash := PyData.keyHash P (Str.ofString "is_fail"), key := Value.str (Str.ofString "is_fail") 347, val := Value.ref 128 }, { hash := PyData.keyHash P (Str.ofString "fits"), key := Value.str (Str.ofString "fits") 355, val := Value.ref 135 }, { hash := PyData.keyHash P (Str.ofString "whole_of_text"), key := Value.str (Str.ofString "whole_of_text") 366, val := Value.ref 142 }, { hash := PyData.keyHash P (Str.ofString "text_of_whole"), key := Value.str (Str.ofString "text_of_whole") 375, val := Value.ref 149 }, { hash := PyData.keyHash P (Str.ofString "to_whole"), key := Value.str (Str.ofString "to_whole") 383, val := Value.ref 156 }, { hash := PyData.keyHash P (Str.ofString "to_text"), key := Value.str (Str.ofString "to_text") 390, val := Value.ref 163 }, { hash := PyData.keyHash P (Str.ofString "need_text"), key := Value.str (Str.ofString "need_text") 398, val := Value.ref 170 }, { hash := PyData.keyHash P (Str.ofString "COUNTED"), key := Value.str (Str.ofString "COUNTED") 406, val := Value.ref 171 }, { hash := PyData.keyHash P (Str.ofString "SIGNED"), key := Value.str (Str.ofString "SIGNED") 411, val := Value.ref 172 }, { hash := PyData.keyHash P (Str.ofString "ALONE"), key := Value.str (Str.ofString "ALONE") 419, val := Value.ref 173 }, { hash := PyData.keyHash P (Str.ofString "WIDTH_OF_COUNT"), key := Value.str (Str.ofString "WIDTH_OF_COUNT") 421, val := Value.int 64 420 }, { hash := PyData.keyHash P (Str.ofString "plain_count"), key := Value.str (Str.ofString "plain_count") 431, val := Value.ref 181 }, { hash := PyData.keyHash P (Str.ofString "plain_signs"), key := Value.str (Str.ofString "plain_signs") 440, val := Value.ref 188 }, { hash := PyData.keyHash P (Str.ofString "count_node"), key := Value.str (Str.ofString "count_node") 449, val := Value.ref 196 }, { hash := PyData.keyHash P (Str.ofString "is_delayed"), key := Value.str (Str.ofString "is_delayed") 456, val := Value.ref 203 }, { hash := PyData.keyHash P (Str.ofString "settled"), key := Value.str (Str.ofString "settled") 465, val := Value.ref 210 }, { hash := PyData.keyHash P (Str.ofString "shown_text"), key := Value.str (Str.ofString "shown_text") 471, val := Value.ref 215 }, { hash := PyData.keyHash P (Str.ofString "shown_told"), key := Value.str (Str.ofString "shown_told") 478, val := Value.ref 222 }, { hash := PyData.keyHash P (Str.ofString "shown_ref"), key := Value.str (Str.ofString "shown_ref") 485, val := Value.ref 229 }, { hash := PyData.keyHash P (Str.ofString "show_node"), key := Value.str (Str.ofString "show_node") 496, val := Value.ref 236 }, { hash := PyData.keyHash P (Str.ofString "PlainHost"), key := Value.str (Str.ofString "PlainHost") 558, val := Value.ref 274 }, { hash := PyData.keyHash P (Str.ofString "make_len"), key := Value.str (Str.ofString "make_len") 568, val := Value.ref 285 }, { hash := PyData.keyHash P (Str.ofString "make_pos"), key := Value.str (Str.ofString "make_pos") 576, val := Value.ref 292 }, { hash := PyData.keyHash P (Str.ofString "make_rpos"), key := Value.str (Str.ofString "make_rpos") 584, val := Value.ref 299 }, { hash := PyData.keyHash P (Str.ofString "make_tab"), key := Value.str (Str.ofString "make_tab") 592, val := Value.ref 306 }, { hash := PyData.keyHash P (Str.ofString "make_rtab"), key := Value.str (Str.ofString "make_rtab") 600, val := Value.ref 313 }, { hash := PyData.keyHash P (Str.ofString "World"), key := Value.str (Str.ofString "World") 663, val := Value.ref 331 }, { hash := PyData.keyHash P (Str.ofString "_law_next"), key := Value.str (Str.ofString "_law_next") 675, val := Value.ref 342 }, { hash := PyData.keyHash P (Str.ofString "_law_value"), key := Value.str (Str.ofString "_law_value") 684, val := Value.ref 349 }, { hash := PyData.keyHash P (Str.ofString "_law_due"), key := Value.str (Str.ofString "_law_due") 693, val := Value.ref 356 }, { hash := PyData.keyHash P (Str.ofString "_law_heard"), key := Value.str (Str.ofString "_law_heard") 701, val := Value.ref 363 }, { hash := PyData.keyHash P (Str.ofString "law"), key := Value.str (Str.ofString "law") 721, val := Value.ref 370 }] 47 }
noncomputable def b11 (P : Params) : Obj := { cls := Value.type "tuple", data := Data.seq #[] }
noncomputable def b12 (P : Params) : Obj := { cls := Value.none, data := Data.fields #[Value.int 1 0, Value.int 0 0, Value.ref 20, Value.int 5 0, Value.int 0 0, Value.ref 28, Value.int 11 0, Value.int 0 0, Value.ref 50, Value.int 13 0, Value.int 0 0, Value.ref 64, Value.int 17 0, Value.int 0 0, Value.ref 85, Value.int 21 0, Value.int 0 0, Value.ref 106, Value.int 27 0, Value.int 0 0, Value.ref 127, Value.int 29 0, Value.int 0 0, Value.ref 134, Value.int 31 0, Value.int 0 0, Value.ref 141, Value.int 44 0, Value.int 0 0, Value.ref 148, Value.int 50 0, Value.int 0 0, Value.ref 155, Value.int 54 0, Value.int 0 0, Value.ref 162, Value.int 58 0, Value.int 0 0, Value.ref 169, Value.int 68 0, Value.int 0 0, Value.ref 180, Value.int 75 0, Value.int 0 0, Value.ref 187, Value.int 80 0, Value.int 0 0, Value.ref 195, Value.int 84 0, Value.int 0 0, Value.ref 202, Value.int 86 0, Value.int 0 0, Value.ref 209, Value.int 95 0, Value.int 0 0, Value.ref 214, Value.int 101 0, Value.int 0 0, Value.ref 221, Value.int 105 0, Value.int 0 0, Value.ref 228, Value.int 107 0, Value.int 0 0, Value.ref 235, Value.int 126 0, Value.int 0 0, Value.ref 242, Value.int 147 0, Value.int 0 0, Value.ref 284, Value.int 149 0, Value.int 0 0, Value.ref 291, Value.int 151 0, Value.int 0 0, Value.ref 298, Value.int 153 0, Value.int 0 0, Value.ref 305, Value.int 155 0, Value.int 0 0, Value.ref 312, Value.int 158 0, Value.int 0 0, Value.ref 319, Value.int 188 0, Value.int 0 0, Value.ref 341, Value.int 194 0, Value.int 0 0, Value.ref 348, Value.int 201 0, Value.int 0 0, Value.ref 355, Value.int 205 0, Value.int 0 0, Value.ref 362, Value.int 210 0, Value.int 0 0, Value.ref 369] }
noncomputable def b13 (P : Params) : Obj := { cls := Value.type "code", data := Data.fields #[Value.str (Str.ofString "<module>") 182, Value.str (Str.ofString "<module>") 183, Value.str (Str.ofString "/claim/cut.py") 184, Value.int 1 0, Value.int 0 0, Value.int 0 0, Value.int 0 0, Value.int 0 0, Value.ref 11, Value.bool false, Value.int 181 0, Value.ref 12, Value.none, Value.none, Value.none, Value.none, Value.int 185 0, Value.int 1 0, Value.str (Str.ofString "/claim/cut.py") 186] }
noncomputable def b14 (P : Params) : Obj := { cls := Value.type "frame", slots := #[some (Value.ref 13), some (Value.ref 3), some (Value.ref 3), none, some (Value.str (Str.ofString "__main__") 164), none, some (Value.ref 0)] }
noncomputable def b15 (P : Params) : Obj := { cls := Value.type "tuple", data := Data.seq #[] }
noncomputable def b16 (P : Params) : Obj := { cls := Value.none, data := Data.fields #[] }
noncomputable def b17 (P : Params) : Obj := { cls := Value.type "tuple", data := Data.seq #[Value.str (Str.ofString "k") 190] }
noncomputable def b18 (P : Params) : Obj := { cls := Value.type "tuple", data := Data.seq #[] }
noncomputable def b19 (P : Params) : Obj := { cls := Value.none, data := Data.func { name := Str.ofString "_wall", qualname := Str.ofString "_wall", params := (arOf (stm 0)), body := FuncBody.stmts (bdOf (stm 0)), scope := (scOf (stm 0)), globals := 0, closure := [], defaults := Value.none, kwdefaults := Value.none } }
noncomputable def b20 (P : Params) : Obj := { cls := Value.type "code", data := Data.fields #[Value.str (Str.ofString "_wall") 187, Value.str (Str.ofString "_wall") 188, Value.str (Str.ofString "/claim/cut.py") 189, Value.int 1 0, Value.int 1 0, Value.int 0 0, Value.int 0 0, Value.int 3 0, Value.ref 15, Value.bool true, Value.int 181 0, Value.ref 16, Value.none, Value.ref 17, Value.ref 18, Value.ref 19, Value.int 191 0, Value.int 1 0, Value.str (Str.ofString "/claim/cut.py") 192] }
noncomputable def b21 (P : Params) : Obj := { cls := Value.type "function", data := Data.func { name := Str.ofString "_wall", qualname := Str.ofString "_wall", params := (arOf (stm 0)), body := FuncBody.stmts (bdOf (stm 0)), scope := (scOf (stm 0)), globals := 3, closure := [], defaults := Value.none, kwdefaults := Value.none, pyModule := Value.str (Str.ofString "__main__") 164, code := Value.ref 20 } }
noncomputable def b22 (P : Params) : Obj := { cls := Value.type "tuple", data := Data.seq #[Value.type "Exception"] }
noncomputable def b23 (P : Params) : Obj := { cls := Value.type "builtin_function_or_method", data := Data.fields #[Value.builtin "type.__prepare__", Value.type "type"] }
noncomputable def b24 (P : Params) : Obj := { cls := Value.type "dict", data := Data.dict #[{ hash := PyData.keyHash P (Str.ofString "__module__"), key := Value.str (Str.ofString "__module__") 203, val := Value.str (Str.ofString "snobol.values") 194 }, { hash := PyData.keyHash P (Str.ofString "__qualname__"), key := Value.str (Str.ofString "__qualname__") 205, val := Value.str (Str.ofString "SnobolError") 204 }, { hash := PyData.keyHash P (Str.ofString "__firstlineno__"), key := Value.str (Str.ofString "__firstlineno__") 207, val := Value.int 5 206 }, { hash := PyData.keyHash P (Str.ofString "__init__"), key := Value.str (Str.ofString "__init__") 218, val := Value.ref 38 }, { hash := PyData.keyHash P (Str.ofString "__static_attributes__"), key := Value.str (Str.ofString "__static_attributes__") 221, val := Value.ref 39 }, { hash := PyData.keyHash P (Str.ofString "__classcell__"), key := Value.str (Str.ofString "__classcell__") 222, val := Value.ref 25 }] 6 }
noncomputable def b25 (P : Params) : Obj := { cls := Value.type "cell", data := Data.cell (some (Value.ref 41)) }
noncomputable def b26 (P : Params) : Obj := { cls := Value.type "tuple", data := Data.seq #[] }
noncomputable def b27 (P : Params) : Obj := { cls := Value.none, data := Data.fields #[Value.int 7 0, Value.int 4 0, Value.ref 37] }
noncomputable def b28 (P : Params) : Obj := { cls := Value.type "code", data := Data.fields #[Value.str (Str.ofString "SnobolError") 198, Value.str (Str.ofString "SnobolError") 199, Value.str (Str.ofString "/claim/cut.py") 200, Value.int 5 0, Value.int 0 0, Value.int 0 0, Value.int 0 0, Value.int 0 0, Value.ref 26, Value.bool false, Value.int 181 0, Value.ref 27, Value.none, Value.none, Value.none, Value.none, Value.int 201 0, Value.int 5 0, Value.str (Str.ofString "/claim/cut.py") 202] }
noncomputable def b29 (P : Params) : Obj := { cls := Value.type "frame", slots := #[some (Value.ref 28), some (Value.ref 3), some (Value.ref 24), none, some (Value.str (Str.ofString "snobol.values") 194), none, some (Value.ref 0)] }
noncomputable def b30 (P : Params) : Obj := { cls := Value.type "tuple", data := Data.seq #[Value.str (Str.ofString "") 208] }
noncomputable def b31 (P : Params) : Obj := { cls := Value.type "tuple", data := Data.seq #[Value.ref 25] }
noncomputable def b32 (P : Params) : Obj := { cls := Value.type "tuple", data := Data.seq #[Value.str (Str.ofString "__class__") 212] }
noncomputable def b33 (P : Params) : Obj := { cls := Value.none, data := Data.fields #[] }
noncomputable def b34 (P : Params) : Obj := { cls := Value.type "tuple", data := Data.seq #[Value.str (Str.ofString "self") 213, Value.str (Str.ofString "number") 214, Value.str (Str.ofString "told") 215] }
noncomputable def b35 (P : Params) : Obj := { cls := Value.type "tuple", data := Data.seq #[] }
noncomputable def b36 (P : Params) : Obj := { cls := Value.none, data := Data.func { name := Str.ofString "__init__", qualname := Str.ofString "SnobolError.__init__", params := (arOf (sub 2 0)), body := FuncBody.stmts (bdOf (sub 2 0)), scope := (scOf (sub 2 0)), globals := 0, closure := [], defaults := Value.none, kwdefaults := Value.none } }
noncomputable def b37 (P : Params) : Obj := { cls := Value.type "code", data := Data.fields #[Value.str (Str.ofString "__init__") 209, Value.str (Str.ofString "SnobolError.__init__") 210, Value.str (Str.ofString "/claim/cut.py") 211, Value.int 7 0, Value.int 3 0, Value.int 0 0, Value.int 0 0, Value.int 3 0, Value.ref 32, Value.bool true, Value.int 181 0, Value.ref 33, Value.none, Value.ref 34, Value.ref 35, Value.ref 36, Value.int 216 0, Value.int 7 0, Value.str (Str.ofString "/claim/cut.py") 217] }
noncomputable def b38 (P : Params) : Obj := { cls := Value.type "function", data := Data.func { name := Str.ofString "__init__", qualname := Str.ofString "SnobolError.__init__", params := (arOf (sub 2 0)), body := FuncBody.stmts (bdOf (sub 2 0)), scope := (scOf (sub 2 0)), globals := 3, closure := [(Str.ofString "__class__", 25)], defaults := Value.ref 30, kwdefaults := Value.none, pyModule := Value.str (Str.ofString "snobol.values") 194, code := Value.ref 37, closureTuple := Value.ref 31 } }
noncomputable def b39 (P : Params) : Obj := { cls := Value.type "tuple", data := Data.seq #[Value.str (Str.ofString "number") 219, Value.str (Str.ofString "told") 220] }
noncomputable def b40 (P : Params) : Obj := { cls := Value.type "dict", data := Data.dict #[{ hash := PyData.keyHash P (Str.ofString "__module__"), key := Value.str (Str.ofString "__module__") 203, val := Value.str (Str.ofString "snobol.values") 194 }, { hash := PyData.keyHash P (Str.ofString "__firstlineno__"), key := Value.str (Str.ofString "__firstlineno__") 207, val := Value.int 5 206 }, { hash := PyData.keyHash P (Str.ofString "__init__"), key := Value.str (Str.ofString "__init__") 218, val := Value.ref 38 }, { hash := PyData.keyHash P (Str.ofString "__static_attributes__"), key := Value.str (Str.ofString "__static_attributes__") 221, val := Value.ref 39 }, { hash := PyData.keyHash P (Str.ofString "__weakref__"), key := Value.str (Str.ofString "__weakref__") 224, val := Value.ref 42 }, { hash := PyData.keyHash P (Str.ofString "__doc__"), key := Value.str (Str.ofString "__doc__") 225, val := Value.none }] 4 }
noncomputable def b41 (P : Params) : Obj := { cls := Value.type "type", data := Data.cls { name := Str.ofString "SnobolError", bases := [Value.type "Exception"], mro := [Value.ref 41, Value.type "Exception", Value.type "BaseException", Value.type "object"], ns := 40, qualname := Str.ofString "SnobolError" }, slots := #[some (Value.ref 22), none, some (Value.str (Str.ofString "SnobolError") 196), some (Value.str (Str.ofString "SnobolError") 204), some (Value.builtin "Exception.__new__"), some (Value.bool true)] }
noncomputable def b42 (P : Params) : Obj := { cls := Value.type "getset_descriptor", data := Data.fields #[Value.str (Str.ofString "__weakref__") 223, Value.ref 41, Value.builtin "ExceptionGroup.__weakref__", Value.none] }
noncomputable def b43 (P : Params) : Obj := { cls := Value.type "super", data := Data.fields #[Value.ref 41, Value.ref 41, Value.ref 41] }
noncomputable def b44 (P : Params) : Obj := { cls := Value.type "builtin_function_or_method", data := Data.fields #[Value.builtin "object.__init_subclass__", Value.ref 41] }
noncomputable def b45 (P : Params) : Obj := { cls := Value.type "tuple", data := Data.seq #[] }
noncomputable def b46 (P : Params) : Obj := { cls := Value.type "builtin_function_or_method", data := Data.fields #[Value.builtin "type.__prepare__", Value.type "type"] }
noncomputable def b47 (P : Params) : Obj := { cls := Value.type "dict", data := Data.dict #[{ hash := PyData.keyHash P (Str.ofString "__module__"), key := Value.str (Str.ofString "__module__") 237, val := Value.str (Str.ofString "snobol.values") 194 }, { hash := PyData.keyHash P (Str.ofString "__qualname__"), key := Value.str (Str.ofString "__qualname__") 239, val := Value.str (Str.ofString "Failure") 238 }, { hash := PyData.keyHash P (Str.ofString "__firstlineno__"), key := Value.str (Str.ofString "__firstlineno__") 241, val := Value.int 11 240 }, { hash := PyData.keyHash P (Str.ofString "__static_attributes__"), key := Value.str (Str.ofString "__static_attributes__") 242, val := Value.ref 52 }] 4 }
noncomputable def b48 (P : Params) : Obj := { cls := Value.type "tuple", data := Data.seq #[] }
noncomputable def b49 (P : Params) : Obj := { cls := Value.none, data := Data.fields #[] }
noncomputable def b50 (P : Params) : Obj := { cls := Value.type "code", data := Data.fields #[Value.str (Str.ofString "Failure") 232, Value.str (Str.ofString "Failure") 233, Value.str (Str.ofString "/claim/cut.py") 234, Value.int 11 0, Value.int 0 0, Value.int 0 0, Value.int 0 0, Value.int 0 0, Value.ref 48, Value.bool false, Value.int 181 0, Value.ref 49, Value.none, Value.none, Value.none, Value.none, Value.int 235 0, Value.int 11 0, Value.str (Str.ofString "/claim/cut.py") 236] }
noncomputable def b51 (P : Params) : Obj := { cls := Value.type "frame", slots := #[some (Value.ref 50), some (Value.ref 3), some (Value.ref 47), none, some (Value.str (Str.ofString "snobol.values") 194), none, some (Value.ref 0)] }
noncomputable def b52 (P : Params) : Obj := { cls := Value.type "tuple", data := Data.seq #[] }
noncomputable def b53 (P : Params) : Obj := { cls := Value.type "dict", data := Data.dict #[{ hash := PyData.keyHash P (Str.ofString "__module__"), key := Value.str (Str.ofString "__module__") 237, val := Value.str (Str.ofString "snobol.values") 194 }, { hash := PyData.keyHash P (Str.ofString "__firstlineno__"), key := Value.str (Str.ofString "__firstlineno__") 241, val := Value.int 11 240 }, { hash := PyData.keyHash P (Str.ofString "__static_attributes__"), key := Value.str (Str.ofString "__static_attributes__") 242, val := Value.ref 52 }, { hash := PyData.keyHash P (Str.ofString "__dict__"), key := Value.str (Str.ofString "__dict__") 244, val := Value.ref 55 }, { hash := PyData.keyHash P (Str.ofString "__weakref__"), key := Value.str (Str.ofString "__weakref__") 246, val := Value.ref 56 }, { hash := PyData.keyHash P (Str.ofString "__doc__"), key := Value.str (Str.ofString "__doc__") 247, val := Value.none }] 4 }
noncomputable def b54 (P : Params) : Obj := { cls := Value.type "type", data := Data.cls { name := Str.ofString "Failure", bases := [Value.type "object"], mro := [Value.ref 54, Value.type "object"], ns := 53, qualname := Str.ofString "Failure" }, slots := #[none, none, some (Value.str (Str.ofString "Failure") 230), some (Value.str (Str.ofString "Failure") 238), some (Value.builtin "object.__new__"), some (Value.bool true)] }
noncomputable def b55 (P : Params) : Obj := { cls := Value.type "getset_descriptor", data := Data.fields #[Value.str (Str.ofString "__dict__") 243, Value.ref 54, Value.builtin "function.__dict__", Value.builtin "function.__dict__#set"] }
noncomputable def b56 (P : Params) : Obj := { cls := Value.type "getset_descriptor", data := Data.fields #[Value.str (Str.ofString "__weakref__") 245, Value.ref 54, Value.builtin "ExceptionGroup.__weakref__", Value.none] }
noncomputable def b57 (P : Params) : Obj := { cls := Value.type "super", data := Data.fields #[Value.ref 54, Value.ref 54, Value.ref 54] }
noncomputable def b58 (P : Params) : Obj := { cls := Value.type "builtin_function_or_method", data := Data.fields #[Value.builtin "object.__init_subclass__", Value.ref 54] }
noncomputable def b59 (P : Params) : Obj := { cls := Value.type "tuple", data := Data.seq #[] }
noncomputable def b60 (P : Params) : Obj := { cls := Value.type "builtin_function_or_method", data := Data.fields #[Value.builtin "type.__prepare__", Value.type "type"] }
noncomputable def b61 (P : Params) : Obj := { cls := Value.type "dict", data := Data.dict #[{ hash := PyData.keyHash P (Str.ofString "__module__"), key := Value.str (Str.ofString "__module__") 257, val := Value.str (Str.ofString "snobol.values") 194 }, { hash := PyData.keyHash P (Str.ofString "__qualname__"), key := Value.str (Str.ofString "__qualname__") 259, val := Value.str (Str.ofString "Pattern") 258 }, { hash := PyData.keyHash P (Str.ofString "__firstlineno__"), key := Value.str (Str.ofString "__firstlineno__") 261, val := Value.int 13 260 }, { hash := PyData.keyHash P (Str.ofString "__init__"), key := Value.str (Str.ofString "__init__") 269, val := Value.ref 72 }, { hash := PyData.keyHash P (Str.ofString "__static_attributes__"), key := Value.str (Str.ofString "__static_attributes__") 271, val := Value.ref 73 }] 5 }
noncomputable def b62 (P : Params) : Obj := { cls := Value.type "tuple", data := Data.seq #[] }
noncomputable def b63 (P : Params) : Obj := { cls := Value.none, data := Data.fields #[Value.int 15 0, Value.int 4 0, Value.ref 71] }
noncomputable def b64 (P : Params) : Obj := { cls := Value.type "code", data := Data.fields #[Value.str (Str.ofString "Pattern") 252, Value.str (Str.ofString "Pattern") 253, Value.str (Str.ofString "/claim/cut.py") 254, Value.int 13 0, Value.int 0 0, Value.int 0 0, Value.int 0 0, Value.int 0 0, Value.ref 62, Value.bool false, Value.int 181 0, Value.ref 63, Value.none, Value.none, Value.none, Value.none, Value.int 255 0, Value.int 13 0, Value.str (Str.ofString "/claim/cut.py") 256] }
noncomputable def b65 (P : Params) : Obj := { cls := Value.type "frame", slots := #[some (Value.ref 64), some (Value.ref 3), some (Value.ref 61), none, some (Value.str (Str.ofString "snobol.values") 194), none, some (Value.ref 0)] }
noncomputable def b66 (P : Params) : Obj := { cls := Value.type "tuple", data := Data.seq #[] }
noncomputable def b67 (P : Params) : Obj := { cls := Value.none, data := Data.fields #[] }
noncomputable def b68 (P : Params) : Obj := { cls := Value.type "tuple", data := Data.seq #[Value.str (Str.ofString "self") 265, Value.str (Str.ofString "node") 266] }
noncomputable def b69 (P : Params) : Obj := { cls := Value.type "tuple", data := Data.seq #[] }
noncomputable def b70 (P : Params) : Obj := { cls := Value.none, data := Data.func { name := Str.ofString "__init__", qualname := Str.ofString "Pattern.__init__", params := (arOf (sub 4 0)), body := FuncBody.stmts (bdOf (sub 4 0)), scope := (scOf (sub 4 0)), globals := 0, closure := [], defaults := Value.none, kwdefaults := Value.none } }
noncomputable def b71 (P : Params) : Obj := { cls := Value.type "code", data := Data.fields #[Value.str (Str.ofString "__init__") 262, Value.str (Str.ofString "Pattern.__init__") 263, Value.str (Str.ofString "/claim/cut.py") 264, Value.int 15 0, Value.int 2 0, Value.int 0 0, Value.int 0 0, Value.int 3 0, Value.ref 66, Value.bool true, Value.int 181 0, Value.ref 67, Value.none, Value.ref 68, Value.ref 69, Value.ref 70, Value.int 267 0, Value.int 15 0, Value.str (Str.ofString "/claim/cut.py") 268] }
noncomputable def b72 (P : Params) : Obj := { cls := Value.type "function", data := Data.func { name := Str.ofString "__init__", qualname := Str.ofString "Pattern.__init__", params := (arOf (sub 4 0)), body := FuncBody.stmts (bdOf (sub 4 0)), scope := (scOf (sub 4 0)), globals := 3, closure := [], defaults := Value.none, kwdefaults := Value.none, pyModule := Value.str (Str.ofString "snobol.values") 194, code := Value.ref 71 } }
noncomputable def b73 (P : Params) : Obj := { cls := Value.type "tuple", data := Data.seq #[Value.str (Str.ofString "node") 270] }
noncomputable def b74 (P : Params) : Obj := { cls := Value.type "dict", data := Data.dict #[{ hash := PyData.keyHash P (Str.ofString "__module__"), key := Value.str (Str.ofString "__module__") 257, val := Value.str (Str.ofString "snobol.values") 194 }, { hash := PyData.keyHash P (Str.ofString "__firstlineno__"), key := Value.str (Str.ofString "__firstlineno__") 261, val := Value.int 13 260 }, { hash := PyData.keyHash P (Str.ofString "__init__"), key := Value.str (Str.ofString "__init__") 269, val := Value.ref 72 }, { hash := PyData.keyHash P (Str.ofString "__static_attributes__"), key := Value.str (Str.ofString "__static_attributes__") 271, val := Value.ref 73 }, { hash := PyData.keyHash P (Str.ofString "__dict__"), key := Value.str (Str.ofString "__dict__") 273, val := Value.ref 76 }, { hash := PyData.keyHash P (Str.ofString "__weakref__"), key := Value.str (Str.ofString "__weakref__") 275, val := Value.ref 77 }, { hash := PyData.keyHash P (Str.ofString "__doc__"), key := Value.str (Str.ofString "__doc__") 276, val := Value.none }] 4 }
noncomputable def b75 (P : Params) : Obj := { cls := Value.type "type", data := Data.cls { name := Str.ofString "Pattern", bases := [Value.type "object"], mro := [Value.ref 75, Value.type "object"], ns := 74, qualname := Str.ofString "Pattern" }, slots := #[none, none, some (Value.str (Str.ofString "Pattern") 250), some (Value.str (Str.ofString "Pattern") 258), some (Value.builtin "object.__new__"), some (Value.bool true)] }
noncomputable def b76 (P : Params) : Obj := { cls := Value.type "getset_descriptor", data := Data.fields #[Value.str (Str.ofString "__dict__") 272, Value.ref 75, Value.builtin "function.__dict__", Value.builtin "function.__dict__#set"] }
noncomputable def b77 (P : Params) : Obj := { cls := Value.type "getset_descriptor", data := Data.fields #[Value.str (Str.ofString "__weakref__") 274, Value.ref 75, Value.builtin "ExceptionGroup.__weakref__", Value.none] }
noncomputable def b78 (P : Params) : Obj := { cls := Value.type "super", data := Data.fields #[Value.ref 75, Value.ref 75, Value.ref 75] }
noncomputable def b79 (P : Params) : Obj := { cls := Value.type "builtin_function_or_method", data := Data.fields #[Value.builtin "object.__init_subclass__", Value.ref 75] }
noncomputable def b80 (P : Params) : Obj := { cls := Value.type "tuple", data := Data.seq #[] }
noncomputable def b81 (P : Params) : Obj := { cls := Value.type "builtin_function_or_method", data := Data.fields #[Value.builtin "type.__prepare__", Value.type "type"] }
noncomputable def b82 (P : Params) : Obj := { cls := Value.type "dict", data := Data.dict #[{ hash := PyData.keyHash P (Str.ofString "__module__"), key := Value.str (Str.ofString "__module__") 286, val := Value.str (Str.ofString "snobol.values") 194 }, { hash := PyData.keyHash P (Str.ofString "__qualname__"), key := Value.str (Str.ofString "__qualname__") 288, val := Value.str (Str.ofString "Delayed") 287 }, { hash := PyData.keyHash P (Str.ofString "__firstlineno__"), key := Value.str (Str.ofString "__firstlineno__") 290, val := Value.int 17 289 }, { hash := PyData.keyHash P (Str.ofString "__init__"), key := Value.str (Str.ofString "__init__") 298, val := Value.ref 93 }, { hash := PyData.keyHash P (Str.ofString "__static_attributes__"), key := Value.str (Str.ofString "__static_attributes__") 300, val := Value.ref 94 }] 5 }
noncomputable def b83 (P : Params) : Obj := { cls := Value.type "tuple", data := Data.seq #[] }
noncomputable def b84 (P : Params) : Obj := { cls := Value.none, data := Data.fields #[Value.int 19 0, Value.int 4 0, Value.ref 92] }
noncomputable def b85 (P : Params) : Obj := { cls := Value.type "code", data := Data.fields #[Value.str (Str.ofString "Delayed") 281, Value.str (Str.ofString "Delayed") 282, Value.str (Str.ofString "/claim/cut.py") 283, Value.int 17 0, Value.int 0 0, Value.int 0 0, Value.int 0 0, Value.int 0 0, Value.ref 83, Value.bool false, Value.int 181 0, Value.ref 84, Value.none, Value.none, Value.none, Value.none, Value.int 284 0, Value.int 17 0, Value.str (Str.ofString "/claim/cut.py") 285] }
noncomputable def b86 (P : Params) : Obj := { cls := Value.type "frame", slots := #[some (Value.ref 85), some (Value.ref 3), some (Value.ref 82), none, some (Value.str (Str.ofString "snobol.values") 194), none, some (Value.ref 0)] }
noncomputable def b87 (P : Params) : Obj := { cls := Value.type "tuple", data := Data.seq #[] }
noncomputable def b88 (P : Params) : Obj := { cls := Value.none, data := Data.fields #[] }
noncomputable def b89 (P : Params) : Obj := { cls := Value.type "tuple", data := Data.seq #[Value.str (Str.ofString "self") 294, Value.str (Str.ofString "tree") 295] }
noncomputable def b90 (P : Params) : Obj := { cls := Value.type "tuple", data := Data.seq #[] }
noncomputable def b91 (P : Params) : Obj := { cls := Value.none, data := Data.func { name := Str.ofString "__init__", qualname := Str.ofString "Delayed.__init__", params := (arOf (sub 5 0)), body := FuncBody.stmts (bdOf (sub 5 0)), scope := (scOf (sub 5 0)), globals := 0, closure := [], defaults := Value.none, kwdefaults := Value.none } }
noncomputable def b92 (P : Params) : Obj := { cls := Value.type "code", data := Data.fields #[Value.str (Str.ofString "__init__") 291, Value.str (Str.ofString "Delayed.__init__") 292, Value.str (Str.ofString "/claim/cut.py") 293, Value.int 19 0, Value.int 2 0, Value.int 0 0, Value.int 0 0, Value.int 3 0, Value.ref 87, Value.bool true, Value.int 181 0, Value.ref 88, Value.none, Value.ref 89, Value.ref 90, Value.ref 91, Value.int 296 0, Value.int 19 0, Value.str (Str.ofString "/claim/cut.py") 297] }
noncomputable def b93 (P : Params) : Obj := { cls := Value.type "function", data := Data.func { name := Str.ofString "__init__", qualname := Str.ofString "Delayed.__init__", params := (arOf (sub 5 0)), body := FuncBody.stmts (bdOf (sub 5 0)), scope := (scOf (sub 5 0)), globals := 3, closure := [], defaults := Value.none, kwdefaults := Value.none, pyModule := Value.str (Str.ofString "snobol.values") 194, code := Value.ref 92 } }
noncomputable def b94 (P : Params) : Obj := { cls := Value.type "tuple", data := Data.seq #[Value.str (Str.ofString "tree") 299] }
noncomputable def b95 (P : Params) : Obj := { cls := Value.type "dict", data := Data.dict #[{ hash := PyData.keyHash P (Str.ofString "__module__"), key := Value.str (Str.ofString "__module__") 286, val := Value.str (Str.ofString "snobol.values") 194 }, { hash := PyData.keyHash P (Str.ofString "__firstlineno__"), key := Value.str (Str.ofString "__firstlineno__") 290, val := Value.int 17 289 }, { hash := PyData.keyHash P (Str.ofString "__init__"), key := Value.str (Str.ofString "__init__") 298, val := Value.ref 93 }, { hash := PyData.keyHash P (Str.ofString "__static_attributes__"), key := Value.str (Str.ofString "__static_attributes__") 300, val := Value.ref 94 }, { hash := PyData.keyHash P (Str.ofString "__dict__"), key := Value.str (Str.ofString "__dict__") 302, val := Value.ref 97 }, { hash := PyData.keyHash P (Str.ofString "__weakref__"), key := Value.str (Str.ofString "__weakref__") 304, val := Value.ref 98 }, { hash := PyData.keyHash P (Str.ofString "__doc__"), key := Value.str (Str.ofString "__doc__") 305, val := Value.none }] 4 }
noncomputable def b96 (P : Params) : Obj := { cls := Value.type "type", data := Data.cls { name := Str.ofString "Delayed", bases := [Value.type "object"], mro := [Value.ref 96, Value.type "object"], ns := 95, qualname := Str.ofString "Delayed" }, slots := #[none, none, some (Value.str (Str.ofString "Delayed") 279), some (Value.str (Str.ofString "Delayed") 287), some (Value.builtin "object.__new__"), some (Value.bool true)] }
noncomputable def b97 (P : Params) : Obj := { cls := Value.type "getset_descriptor", data := Data.fields #[Value.str (Str.ofString "__dict__") 301, Value.ref 96, Value.builtin "function.__dict__", Value.builtin "function.__dict__#set"] }
noncomputable def b98 (P : Params) : Obj := { cls := Value.type "getset_descriptor", data := Data.fields #[Value.str (Str.ofString "__weakref__") 303, Value.ref 96, Value.builtin "ExceptionGroup.__weakref__", Value.none] }
noncomputable def b99 (P : Params) : Obj := { cls := Value.type "super", data := Data.fields #[Value.ref 96, Value.ref 96, Value.ref 96] }
noncomputable def b100 (P : Params) : Obj := { cls := Value.type "builtin_function_or_method", data := Data.fields #[Value.builtin "object.__init_subclass__", Value.ref 96] }
noncomputable def b101 (P : Params) : Obj := { cls := Value.type "tuple", data := Data.seq #[] }
noncomputable def b102 (P : Params) : Obj := { cls := Value.type "builtin_function_or_method", data := Data.fields #[Value.builtin "type.__prepare__", Value.type "type"] }
noncomputable def b103 (P : Params) : Obj := { cls := Value.type "dict", data := Data.dict #[{ hash := PyData.keyHash P (Str.ofString "__module__"), key := Value.str (Str.ofString "__module__") 315, val := Value.str (Str.ofString "snobol.values") 194 }, { hash := PyData.keyHash P (Str.ofString "__qualname__"), key := Value.str (Str.ofString "__qualname__") 317, val := Value.str (Str.ofString "NameRef") 316 }, { hash := PyData.keyHash P (Str.ofString "__firstlineno__"), key := Value.str (Str.ofString "__firstlineno__") 319, val := Value.int 21 318 }, { hash := PyData.keyHash P (Str.ofString "__init__"), key := Value.str (Str.ofString "__init__") 329, val := Value.ref 114 }, { hash := PyData.keyHash P (Str.ofString "__static_attributes__"), key := Value.str (Str.ofString "__static_attributes__") 333, val := Value.ref 115 }] 5 }
noncomputable def b104 (P : Params) : Obj := { cls := Value.type "tuple", data := Data.seq #[] }
noncomputable def b105 (P : Params) : Obj := { cls := Value.none, data := Data.fields #[Value.int 23 0, Value.int 4 0, Value.ref 113] }
noncomputable def b106 (P : Params) : Obj := { cls := Value.type "code", data := Data.fields #[Value.str (Str.ofString "NameRef") 310, Value.str (Str.ofString "NameRef") 311, Value.str (Str.ofString "/claim/cut.py") 312, Value.int 21 0, Value.int 0 0, Value.int 0 0, Value.int 0 0, Value.int 0 0, Value.ref 104, Value.bool false, Value.int 181 0, Value.ref 105, Value.none, Value.none, Value.none, Value.none, Value.int 313 0, Value.int 21 0, Value.str (Str.ofString "/claim/cut.py") 314] }
noncomputable def b107 (P : Params) : Obj := { cls := Value.type "frame", slots := #[some (Value.ref 106), some (Value.ref 3), some (Value.ref 103), none, some (Value.str (Str.ofString "snobol.values") 194), none, some (Value.ref 0)] }
noncomputable def b108 (P : Params) : Obj := { cls := Value.type "tuple", data := Data.seq #[] }
noncomputable def b109 (P : Params) : Obj := { cls := Value.none, data := Data.fields #[] }
noncomputable def b110 (P : Params) : Obj := { cls := Value.type "tuple", data := Data.seq #[Value.str (Str.ofString "self") 323, Value.str (Str.ofString "kind") 324, Value.str (Str.ofString "owner") 325, Value.str (Str.ofString "key") 326] }
noncomputable def b111 (P : Params) : Obj := { cls := Value.type "tuple", data := Data.seq #[] }
noncomputable def b112 (P : Params) : Obj := { cls := Value.none, data := Data.func { name := Str.ofString "__init__", qualname := Str.ofString "NameRef.__init__", params := (arOf (sub 6 0)), body := FuncBody.stmts (bdOf (sub 6 0)), scope := (scOf (sub 6 0)), globals := 0, closure := [], defaults := Value.none, kwdefaults := Value.none } }
noncomputable def b113 (P : Params) : Obj := { cls := Value.type "code", data := Data.fields #[Value.str (Str.ofString "__init__") 320, Value.str (Str.ofString "NameRef.__init__") 321, Value.str (Str.ofString "/claim/cut.py") 322, Value.int 23 0, Value.int 4 0, Value.int 0 0, Value.int 0 0, Value.int 3 0, Value.ref 108, Value.bool true, Value.int 181 0, Value.ref 109, Value.none, Value.ref 110, Value.ref 111, Value.ref 112, Value.int 327 0, Value.int 23 0, Value.str (Str.ofString "/claim/cut.py") 328] }
noncomputable def b114 (P : Params) : Obj := { cls := Value.type "function", data := Data.func { name := Str.ofString "__init__", qualname := Str.ofString "NameRef.__init__", params := (arOf (sub 6 0)), body := FuncBody.stmts (bdOf (sub 6 0)), scope := (scOf (sub 6 0)), globals := 3, closure := [], defaults := Value.none, kwdefaults := Value.none, pyModule := Value.str (Str.ofString "snobol.values") 194, code := Value.ref 113 } }
noncomputable def b115 (P : Params) : Obj := { cls := Value.type "tuple", data := Data.seq #[Value.str (Str.ofString "key") 330, Value.str (Str.ofString "kind") 331, Value.str (Str.ofString "owner") 332] }
noncomputable def b116 (P : Params) : Obj := { cls := Value.type "dict", data := Data.dict #[{ hash := PyData.keyHash P (Str.ofString "__module__"), key := Value.str (Str.ofString "__module__") 315, val := Value.str (Str.ofString "snobol.values") 194 }, { hash := PyData.keyHash P (Str.ofString "__firstlineno__"), key := Value.str (Str.ofString "__firstlineno__") 319, val := Value.int 21 318 }, { hash := PyData.keyHash P (Str.ofString "__init__"), key := Value.str (Str.ofString "__init__") 329, val := Value.ref 114 }, { hash := PyData.keyHash P (Str.ofString "__static_attributes__"), key := Value.str (Str.ofString "__static_attributes__") 333, val := Value.ref 115 }, { hash := PyData.keyHash P (Str.ofString "__dict__"), key := Value.str (Str.ofString "__dict__") 335, val := Value.ref 118 }, { hash := PyData.keyHash P (Str.ofString "__weakref__"), key := Value.str (Str.ofString "__weakref__") 337, val := Value.ref 119 }, { hash := PyData.keyHash P (Str.ofString "__doc__"), key := Value.str (Str.ofString "__doc__") 338, val := Value.none }] 4 }
noncomputable def b117 (P : Params) : Obj := { cls := Value.type "type", data := Data.cls { name := Str.ofString "NameRef", bases := [Value.type "object"], mro := [Value.ref 117, Value.type "object"], ns := 116, qualname := Str.ofString "NameRef" }, slots := #[none, none, some (Value.str (Str.ofString "NameRef") 308), some (Value.str (Str.ofString "NameRef") 316), some (Value.builtin "object.__new__"), some (Value.bool true)] }
noncomputable def b118 (P : Params) : Obj := { cls := Value.type "getset_descriptor", data := Data.fields #[Value.str (Str.ofString "__dict__") 334, Value.ref 117, Value.builtin "function.__dict__", Value.builtin "function.__dict__#set"] }
noncomputable def b119 (P : Params) : Obj := { cls := Value.type "getset_descriptor", data := Data.fields #[Value.str (Str.ofString "__weakref__") 336, Value.ref 117, Value.builtin "ExceptionGroup.__weakref__", Value.none] }
noncomputable def b120 (P : Params) : Obj := { cls := Value.type "super", data := Data.fields #[Value.ref 117, Value.ref 117, Value.ref 117] }
noncomputable def b121 (P : Params) : Obj := { cls := Value.type "builtin_function_or_method", data := Data.fields #[Value.builtin "object.__init_subclass__", Value.ref 117] }
noncomputable def b122 (P : Params) : Obj := { cls := Value.type "tuple", data := Data.seq #[] }
noncomputable def b123 (P : Params) : Obj := { cls := Value.none, data := Data.fields #[] }
noncomputable def b124 (P : Params) : Obj := { cls := Value.type "tuple", data := Data.seq #[Value.str (Str.ofString "value") 344] }
noncomputable def b125 (P : Params) : Obj := { cls := Value.type "tuple", data := Data.seq #[] }
noncomputable def b126 (P : Params) : Obj := { cls := Value.none, data := Data.func { name := Str.ofString "is_fail", qualname := Str.ofString "is_fail", params := (arOf (stm 7)), body := FuncBody.stmts (bdOf (stm 7)), scope := (scOf (stm 7)), globals := 0, closure := [], defaults := Value.none, kwdefaults := Value.none } }
noncomputable def b127 (P : Params) : Obj := { cls := Value.type "code", data := Data.fields #[Value.str (Str.ofString "is_fail") 341, Value.str (Str.ofString "is_fail") 342, Value.str (Str.ofString "/claim/cut.py") 343, Value.int 27 0, Value.int 1 0, Value.int 0 0, Value.int 0 0, Value.int 3 0, Value.ref 122, Value.bool true, Value.int 181 0, Value.ref 123, Value.none, Value.ref 124, Value.ref 125, Value.ref 126, Value.int 345 0, Value.int 27 0, Value.str (Str.ofString "/claim/cut.py") 346] }
noncomputable def b128 (P : Params) : Obj := { cls := Value.type "function", data := Data.func { name := Str.ofString "is_fail", qualname := Str.ofString "is_fail", params := (arOf (stm 7)), body := FuncBody.stmts (bdOf (stm 7)), scope := (scOf (stm 7)), globals := 3, closure := [], defaults := Value.none, kwdefaults := Value.none, pyModule := Value.str (Str.ofString "snobol.values") 194, code := Value.ref 127 } }
noncomputable def b129 (P : Params) : Obj := { cls := Value.type "tuple", data := Data.seq #[] }
noncomputable def b130 (P : Params) : Obj := { cls := Value.none, data := Data.fields #[] }
noncomputable def b131 (P : Params) : Obj := { cls := Value.type "tuple", data := Data.seq #[Value.str (Str.ofString "number") 351, Value.str (Str.ofString "width") 352] }
noncomputable def b132 (P : Params) : Obj := { cls := Value.type "tuple", data := Data.seq #[] }
noncomputable def b133 (P : Params) : Obj := { cls := Value.none, data := Data.func { name := Str.ofString "fits", qualname := Str.ofString "fits", params := (arOf (stm 8)), body := FuncBody.stmts (bdOf (stm 8)), scope := (scOf (stm 8)), globals := 0, closure := [], defaults := Value.none, kwdefaults := Value.none } }
noncomputable def b134 (P : Params) : Obj := { cls := Value.type "code", data := Data.fields #[Value.str (Str.ofString "fits") 348, Value.str (Str.ofString "fits") 349, Value.str (Str.ofString "/claim/cut.py") 350, Value.int 29 0, Value.int 2 0, Value.int 0 0, Value.int 0 0, Value.int 3 0, Value.ref 129, Value.bool true, Value.int 181 0, Value.ref 130, Value.none, Value.ref 131, Value.ref 132, Value.ref 133, Value.int 353 0, Value.int 29 0, Value.str (Str.ofString "/claim/cut.py") 354] }
noncomputable def b135 (P : Params) : Obj := { cls := Value.type "function", data := Data.func { name := Str.ofString "fits", qualname := Str.ofString "fits", params := (arOf (stm 8)), body := FuncBody.stmts (bdOf (stm 8)), scope := (scOf (stm 8)), globals := 3, closure := [], defaults := Value.none, kwdefaults := Value.none, pyModule := Value.str (Str.ofString "snobol.values") 194, code := Value.ref 134 } }
noncomputable def b136 (P : Params) : Obj := { cls := Value.type "tuple", data := Data.seq #[] }
noncomputable def b137 (P : Params) : Obj := { cls := Value.none, data := Data.fields #[] }
noncomputable def b138 (P : Params) : Obj := { cls := Value.type "tuple", data := Data.seq #[Value.str (Str.ofString "text") 359, Value.str (Str.ofString "width") 360, Value.str (Str.ofString "digits") 361, Value.str (Str.ofString "number") 362, Value.str (Str.ofString "sign") 363] }
noncomputable def b139 (P : Params) : Obj := { cls := Value.type "tuple", data := Data.seq #[] }
noncomputable def b140 (P : Params) : Obj := { cls := Value.none, data := Data.func { name := Str.ofString "whole_of_text", qualname := Str.ofString "whole_of_text", params := (arOf (stm 9)), body := FuncBody.stmts (bdOf (stm 9)), scope := (scOf (stm 9)), globals := 0, closure := [], defaults := Value.none, kwdefaults := Value.none } }
noncomputable def b141 (P : Params) : Obj := { cls := Value.type "code", data := Data.fields #[Value.str (Str.ofString "whole_of_text") 356, Value.str (Str.ofString "whole_of_text") 357, Value.str (Str.ofString "/claim/cut.py") 358, Value.int 31 0, Value.int 2 0, Value.int 0 0, Value.int 0 0, Value.int 3 0, Value.ref 136, Value.bool true, Value.int 181 0, Value.ref 137, Value.none, Value.ref 138, Value.ref 139, Value.ref 140, Value.int 364 0, Value.int 31 0, Value.str (Str.ofString "/claim/cut.py") 365] }
noncomputable def b142 (P : Params) : Obj := { cls := Value.type "function", data := Data.func { name := Str.ofString "whole_of_text", qualname := Str.ofString "whole_of_text", params := (arOf (stm 9)), body := FuncBody.stmts (bdOf (stm 9)), scope := (scOf (stm 9)), globals := 3, closure := [], defaults := Value.none, kwdefaults := Value.none, pyModule := Value.str (Str.ofString "snobol.values") 194, code := Value.ref 141 } }
noncomputable def b143 (P : Params) : Obj := { cls := Value.type "tuple", data := Data.seq #[] }
noncomputable def b144 (P : Params) : Obj := { cls := Value.none, data := Data.fields #[] }
noncomputable def b145 (P : Params) : Obj := { cls := Value.type "tuple", data := Data.seq #[Value.str (Str.ofString "number") 370, Value.str (Str.ofString "left") 371, Value.str (Str.ofString "found") 372] }
noncomputable def b146 (P : Params) : Obj := { cls := Value.type "tuple", data := Data.seq #[] }
noncomputable def b147 (P : Params) : Obj := { cls := Value.none, data := Data.func { name := Str.ofString "text_of_whole", qualname := Str.ofString "text_of_whole", params := (arOf (stm 10)), body := FuncBody.stmts (bdOf (stm 10)), scope := (scOf (stm 10)), globals := 0, closure := [], defaults := Value.none, kwdefaults := Value.none } }
noncomputable def b148 (P : Params) : Obj := { cls := Value.type "code", data := Data.fields #[Value.str (Str.ofString "text_of_whole") 367, Value.str (Str.ofString "text_of_whole") 368, Value.str (Str.ofString "/claim/cut.py") 369, Value.int 44 0, Value.int 1 0, Value.int 0 0, Value.int 0 0, Value.int 3 0, Value.ref 143, Value.bool true, Value.int 181 0, Value.ref 144, Value.none, Value.ref 145, Value.ref 146, Value.ref 147, Value.int 373 0, Value.int 44 0, Value.str (Str.ofString "/claim/cut.py") 374] }
noncomputable def b149 (P : Params) : Obj := { cls := Value.type "function", data := Data.func { name := Str.ofString "text_of_whole", qualname := Str.ofString "text_of_whole", params := (arOf (stm 10)), body := FuncBody.stmts (bdOf (stm 10)), scope := (scOf (stm 10)), globals := 3, closure := [], defaults := Value.none, kwdefaults := Value.none, pyModule := Value.str (Str.ofString "snobol.values") 194, code := Value.ref 148 } }
noncomputable def b150 (P : Params) : Obj := { cls := Value.type "tuple", data := Data.seq #[] }
noncomputable def b151 (P : Params) : Obj := { cls := Value.none, data := Data.fields #[] }
noncomputable def b152 (P : Params) : Obj := { cls := Value.type "tuple", data := Data.seq #[Value.str (Str.ofString "value") 379, Value.str (Str.ofString "width") 380] }
noncomputable def b153 (P : Params) : Obj := { cls := Value.type "tuple", data := Data.seq #[] }
noncomputable def b154 (P : Params) : Obj := { cls := Value.none, data := Data.func { name := Str.ofString "to_whole", qualname := Str.ofString "to_whole", params := (arOf (stm 11)), body := FuncBody.stmts (bdOf (stm 11)), scope := (scOf (stm 11)), globals := 0, closure := [], defaults := Value.none, kwdefaults := Value.none } }
noncomputable def b155 (P : Params) : Obj := { cls := Value.type "code", data := Data.fields #[Value.str (Str.ofString "to_whole") 376, Value.str (Str.ofString "to_whole") 377, Value.str (Str.ofString "/claim/cut.py") 378, Value.int 50 0, Value.int 2 0, Value.int 0 0, Value.int 0 0, Value.int 3 0, Value.ref 150, Value.bool true, Value.int 181 0, Value.ref 151, Value.none, Value.ref 152, Value.ref 153, Value.ref 154, Value.int 381 0, Value.int 50 0, Value.str (Str.ofString "/claim/cut.py") 382] }
noncomputable def b156 (P : Params) : Obj := { cls := Value.type "function", data := Data.func { name := Str.ofString "to_whole", qualname := Str.ofString "to_whole", params := (arOf (stm 11)), body := FuncBody.stmts (bdOf (stm 11)), scope := (scOf (stm 11)), globals := 3, closure := [], defaults := Value.none, kwdefaults := Value.none, pyModule := Value.str (Str.ofString "snobol.values") 194, code := Value.ref 155 } }
noncomputable def b157 (P : Params) : Obj := { cls := Value.type "tuple", data := Data.seq #[] }
noncomputable def b158 (P : Params) : Obj := { cls := Value.none, data := Data.fields #[] }
noncomputable def b159 (P : Params) : Obj := { cls := Value.type "tuple", data := Data.seq #[Value.str (Str.ofString "value") 387] }
noncomputable def b160 (P : Params) : Obj := { cls := Value.type "tuple", data := Data.seq #[] }
noncomputable def b161 (P : Params) : Obj := { cls := Value.none, data := Data.func { name := Str.ofString "to_text", qualname := Str.ofString "to_text", params := (arOf (stm 12)), body := FuncBody.stmts (bdOf (stm 12)), scope := (scOf (stm 12)), globals := 0, closure := [], defaults := Value.none, kwdefaults := Value.none } }
noncomputable def b162 (P : Params) : Obj := { cls := Value.type "code", data := Data.fields #[Value.str (Str.ofString "to_text") 384, Value.str (Str.ofString "to_text") 385, Value.str (Str.ofString "/claim/cut.py") 386, Value.int 54 0, Value.int 1 0, Value.int 0 0, Value.int 0 0, Value.int 3 0, Value.ref 157, Value.bool true, Value.int 181 0, Value.ref 158, Value.none, Value.ref 159, Value.ref 160, Value.ref 161, Value.int 388 0, Value.int 54 0, Value.str (Str.ofString "/claim/cut.py") 389] }
noncomputable def b163 (P : Params) : Obj := { cls := Value.type "function", data := Data.func { name := Str.ofString "to_text", qualname := Str.ofString "to_text", params := (arOf (stm 12)), body := FuncBody.stmts (bdOf (stm 12)), scope := (scOf (stm 12)), globals := 3, closure := [], defaults := Value.none, kwdefaults := Value.none, pyModule := Value.str (Str.ofString "snobol.values") 194, code := Value.ref 162 } }
noncomputable def b164 (P : Params) : Obj := { cls := Value.type "tuple", data := Data.seq #[] }
noncomputable def b165 (P : Params) : Obj := { cls := Value.none, data := Data.fields #[] }
noncomputable def b166 (P : Params) : Obj := { cls := Value.type "tuple", data := Data.seq #[Value.str (Str.ofString "value") 394, Value.str (Str.ofString "text") 395] }
noncomputable def b167 (P : Params) : Obj := { cls := Value.type "tuple", data := Data.seq #[] }
noncomputable def b168 (P : Params) : Obj := { cls := Value.none, data := Data.func { name := Str.ofString "need_text", qualname := Str.ofString "need_text", params := (arOf (stm 13)), body := FuncBody.stmts (bdOf (stm 13)), scope := (scOf (stm 13)), globals := 0, closure := [], defaults := Value.none, kwdefaults := Value.none } }
noncomputable def b169 (P : Params) : Obj := { cls := Value.type "code", data := Data.fields #[Value.str (Str.ofString "need_text") 391, Value.str (Str.ofString "need_text") 392, Value.str (Str.ofString "/claim/cut.py") 393, Value.int 58 0, Value.int 1 0, Value.int 0 0, Value.int 0 0, Value.int 3 0, Value.ref 164, Value.bool true, Value.int 181 0, Value.ref 165, Value.none, Value.ref 166, Value.ref 167, Value.ref 168, Value.int 396 0, Value.int 58 0, Value.str (Str.ofString "/claim/cut.py") 397] }
noncomputable def b170 (P : Params) : Obj := { cls := Value.type "function", data := Data.func { name := Str.ofString "need_text", qualname := Str.ofString "need_text", params := (arOf (stm 13)), body := FuncBody.stmts (bdOf (stm 13)), scope := (scOf (stm 13)), globals := 3, closure := [], defaults := Value.none, kwdefaults := Value.none, pyModule := Value.str (Str.ofString "snobol.values") 194, code := Value.ref 169 } }
noncomputable def b171 (P : Params) : Obj := { cls := Value.type "tuple", data := Data.seq #[Value.str (Str.ofString "len") 401, Value.str (Str.ofString "pos") 402, Value.str (Str.ofString "rpos") 403, Value.str (Str.ofString "tab") 404, Value.str (Str.ofString "rtab") 405] }
noncomputable def b172 (P : Params) : Obj := { cls := Value.type "tuple", data := Data.seq #[Value.str (Str.ofString "any") 407, Value.str (Str.ofString "notany") 408, Value.str (Str.ofString "span") 409, Value.str (Str.ofString "break") 410] }
noncomputable def b173 (P : Params) : Obj := { cls := Value.type "tuple", data := Data.seq #[Value.str (Str.ofString "rem") 412, Value.str (Str.ofString "arb") 413, Value.str (Str.ofString "bal") 414, Value.str (Str.ofString "fence") 415, Value.str (Str.ofString "fail") 416, Value.str (Str.ofString "abort") 417, Value.str (Str.ofString "succeed") 418] }
noncomputable def b174 (P : Params) : Obj := { cls := Value.type "tuple", data := Data.seq #[Value.int 64 420] }
noncomputable def b175 (P : Params) : Obj := { cls := Value.type "tuple", data := Data.seq #[] }
noncomputable def b176 (P : Params) : Obj := { cls := Value.none, data := Data.fields #[] }
noncomputable def b177 (P : Params) : Obj := { cls := Value.type "tuple", data := Data.seq #[Value.str (Str.ofString "value") 425, Value.str (Str.ofString "kind") 426, Value.str (Str.ofString "width") 427, Value.str (Str.ofString "count") 428] }
noncomputable def b178 (P : Params) : Obj := { cls := Value.type "tuple", data := Data.seq #[] }
noncomputable def b179 (P : Params) : Obj := { cls := Value.none, data := Data.func { name := Str.ofString "plain_count", qualname := Str.ofString "plain_count", params := (arOf (stm 19)), body := FuncBody.stmts (bdOf (stm 19)), scope := (scOf (stm 19)), globals := 0, closure := [], defaults := Value.none, kwdefaults := Value.none } }
noncomputable def b180 (P : Params) : Obj := { cls := Value.type "code", data := Data.fields #[Value.str (Str.ofString "plain_count") 422, Value.str (Str.ofString "plain_count") 423, Value.str (Str.ofString "/claim/cut.py") 424, Value.int 68 0, Value.int 3 0, Value.int 0 0, Value.int 0 0, Value.int 3 0, Value.ref 175, Value.bool true, Value.int 181 0, Value.ref 176, Value.none, Value.ref 177, Value.ref 178, Value.ref 179, Value.int 429 0, Value.int 68 0, Value.str (Str.ofString "/claim/cut.py") 430] }
noncomputable def b181 (P : Params) : Obj := { cls := Value.type "function", data := Data.func { name := Str.ofString "plain_count", qualname := Str.ofString "plain_count", params := (arOf (stm 19)), body := FuncBody.stmts (bdOf (stm 19)), scope := (scOf (stm 19)), globals := 3, closure := [], defaults := Value.ref 174, kwdefaults := Value.none, pyModule := Value.str (Str.ofString "snobol.nodes") 399, code := Value.ref 180 } }
noncomputable def b182 (P : Params) : Obj := { cls := Value.type "tuple", data := Data.seq #[] }
noncomputable def b183 (P : Params) : Obj := { cls := Value.none, data := Data.fields #[] }
noncomputable def b184 (P : Params) : Obj := { cls := Value.type "tuple", data := Data.seq #[Value.str (Str.ofString "value") 435, Value.str (Str.ofString "kind") 436, Value.str (Str.ofString "text") 437] }
noncomputable def b185 (P : Params) : Obj := { cls := Value.type "tuple", data := Data.seq #[] }
noncomputable def b186 (P : Params) : Obj := { cls := Value.none, data := Data.func { name := Str.ofString "plain_signs", qualname := Str.ofString "plain_signs", params := (arOf (stm 20)), body := FuncBody.stmts (bdOf (stm 20)), scope := (scOf (stm 20)), globals := 0, closure := [], defaults := Value.none, kwdefaults := Value.none } }
noncomputable def b187 (P : Params) : Obj := { cls := Value.type "code", data := Data.fields #[Value.str (Str.ofString "plain_signs") 432, Value.str (Str.ofString "plain_signs") 433, Value.str (Str.ofString "/claim/cut.py") 434, Value.int 75 0, Value.int 2 0, Value.int 0 0, Value.int 0 0, Value.int 3 0, Value.ref 182, Value.bool true, Value.int 181 0, Value.ref 183, Value.none, Value.ref 184, Value.ref 185, Value.ref 186, Value.int 438 0, Value.int 75 0, Value.str (Str.ofString "/claim/cut.py") 439] }
noncomputable def b188 (P : Params) : Obj := { cls := Value.type "function", data := Data.func { name := Str.ofString "plain_signs", qualname := Str.ofString "plain_signs", params := (arOf (stm 20)), body := FuncBody.stmts (bdOf (stm 20)), scope := (scOf (stm 20)), globals := 3, closure := [], defaults := Value.none, kwdefaults := Value.none, pyModule := Value.str (Str.ofString "snobol.nodes") 399, code := Value.ref 187 } }
noncomputable def b189 (P : Params) : Obj := { cls := Value.type "tuple", data := Data.seq #[Value.int 64 420] }
noncomputable def b190 (P : Params) : Obj := { cls := Value.type "tuple", data := Data.seq #[] }
noncomputable def b191 (P : Params) : Obj := { cls := Value.none, data := Data.fields #[] }
noncomputable def b192 (P : Params) : Obj := { cls := Value.type "tuple", data := Data.seq #[Value.str (Str.ofString "kind") 444, Value.str (Str.ofString "value") 445, Value.str (Str.ofString "width") 446] }
noncomputable def b193 (P : Params) : Obj := { cls := Value.type "tuple", data := Data.seq #[] }
noncomputable def b194 (P : Params) : Obj := { cls := Value.none, data := Data.func { name := Str.ofString "count_node", qualname := Str.ofString "count_node", params := (arOf (stm 21)), body := FuncBody.stmts (bdOf (stm 21)), scope := (scOf (stm 21)), globals := 0, closure := [], defaults := Value.none, kwdefaults := Value.none } }
noncomputable def b195 (P : Params) : Obj := { cls := Value.type "code", data := Data.fields #[Value.str (Str.ofString "count_node") 441, Value.str (Str.ofString "count_node") 442, Value.str (Str.ofString "/claim/cut.py") 443, Value.int 80 0, Value.int 3 0, Value.int 0 0, Value.int 0 0, Value.int 3 0, Value.ref 190, Value.bool true, Value.int 181 0, Value.ref 191, Value.none, Value.ref 192, Value.ref 193, Value.ref 194, Value.int 447 0, Value.int 80 0, Value.str (Str.ofString "/claim/cut.py") 448] }
noncomputable def b196 (P : Params) : Obj := { cls := Value.type "function", data := Data.func { name := Str.ofString "count_node", qualname := Str.ofString "count_node", params := (arOf (stm 21)), body := FuncBody.stmts (bdOf (stm 21)), scope := (scOf (stm 21)), globals := 3, closure := [], defaults := Value.ref 189, kwdefaults := Value.none, pyModule := Value.str (Str.ofString "snobol.nodes") 399, code := Value.ref 195 } }
noncomputable def b197 (P : Params) : Obj := { cls := Value.type "tuple", data := Data.seq #[] }
noncomputable def b198 (P : Params) : Obj := { cls := Value.none, data := Data.fields #[] }
noncomputable def b199 (P : Params) : Obj := { cls := Value.type "tuple", data := Data.seq #[Value.str (Str.ofString "told") 453] }
noncomputable def b200 (P : Params) : Obj := { cls := Value.type "tuple", data := Data.seq #[] }
noncomputable def b201 (P : Params) : Obj := { cls := Value.none, data := Data.func { name := Str.ofString "is_delayed", qualname := Str.ofString "is_delayed", params := (arOf (stm 22)), body := FuncBody.stmts (bdOf (stm 22)), scope := (scOf (stm 22)), globals := 0, closure := [], defaults := Value.none, kwdefaults := Value.none } }
noncomputable def b202 (P : Params) : Obj := { cls := Value.type "code", data := Data.fields #[Value.str (Str.ofString "is_delayed") 450, Value.str (Str.ofString "is_delayed") 451, Value.str (Str.ofString "/claim/cut.py") 452, Value.int 84 0, Value.int 1 0, Value.int 0 0, Value.int 0 0, Value.int 3 0, Value.ref 197, Value.bool true, Value.int 181 0, Value.ref 198, Value.none, Value.ref 199, Value.ref 200, Value.ref 201, Value.int 454 0, Value.int 84 0, Value.str (Str.ofString "/claim/cut.py") 455] }
noncomputable def b203 (P : Params) : Obj := { cls := Value.type "function", data := Data.func { name := Str.ofString "is_delayed", qualname := Str.ofString "is_delayed", params := (arOf (stm 22)), body := FuncBody.stmts (bdOf (stm 22)), scope := (scOf (stm 22)), globals := 3, closure := [], defaults := Value.none, kwdefaults := Value.none, pyModule := Value.str (Str.ofString "snobol.nodes") 399, code := Value.ref 202 } }
noncomputable def b204 (P : Params) : Obj := { cls := Value.type "tuple", data := Data.seq #[] }
noncomputable def b205 (P : Params) : Obj := { cls := Value.none, data := Data.fields #[] }
noncomputable def b206 (P : Params) : Obj := { cls := Value.type "tuple", data := Data.seq #[Value.str (Str.ofString "node") 460, Value.str (Str.ofString "host") 461, Value.str (Str.ofString "value") 462] }
noncomputable def b207 (P : Params) : Obj := { cls := Value.type "tuple", data := Data.seq #[] }
noncomputable def b208 (P : Params) : Obj := { cls := Value.none, data := Data.func { name := Str.ofString "settled", qualname := Str.ofString "settled", params := (arOf (stm 23)), body := FuncBody.stmts (bdOf (stm 23)), scope := (scOf (stm 23)), globals := 0, closure := [], defaults := Value.none, kwdefaults := Value.none } }
noncomputable def b209 (P : Params) : Obj := { cls := Value.type "code", data := Data.fields #[Value.str (Str.ofString "settled") 457, Value.str (Str.ofString "settled") 458, Value.str (Str.ofString "/claim/cut.py") 459, Value.int 86 0, Value.int 2 0, Value.int 0 0, Value.int 0 0, Value.int 3 0, Value.ref 204, Value.bool true, Value.int 181 0, Value.ref 205, Value.none, Value.ref 206, Value.ref 207, Value.ref 208, Value.int 463 0, Value.int 86 0, Value.str (Str.ofString "/claim/cut.py") 464] }
noncomputable def b210 (P : Params) : Obj := { cls := Value.type "function", data := Data.func { name := Str.ofString "settled", qualname := Str.ofString "settled", params := (arOf (stm 23)), body := FuncBody.stmts (bdOf (stm 23)), scope := (scOf (stm 23)), globals := 3, closure := [], defaults := Value.none, kwdefaults := Value.none, pyModule := Value.str (Str.ofString "snobol.nodes") 399, code := Value.ref 209 } }
noncomputable def b211 (P : Params) : Obj := { cls := Value.type "tuple", data := Data.seq #[] }
noncomputable def b212 (P : Params) : Obj := { cls := Value.none, data := Data.fields #[] }
noncomputable def b213 (P : Params) : Obj := { cls := Value.none, data := Data.func { name := Str.ofString "shown_text", qualname := Str.ofString "shown_text", params := (arOf (stm 24)), body := FuncBody.stmts (bdOf (stm 24)), scope := (scOf (stm 24)), globals := 0, closure := [], defaults := Value.none, kwdefaults := Value.none } }
noncomputable def b214 (P : Params) : Obj := { cls := Value.type "code", data := Data.fields #[Value.str (Str.ofString "shown_text") 466, Value.str (Str.ofString "shown_text") 467, Value.str (Str.ofString "/claim/cut.py") 468, Value.int 95 0, Value.int 1 0, Value.int 0 0, Value.int 0 0, Value.int 3 0, Value.ref 211, Value.bool true, Value.int 181 0, Value.ref 212, Value.none, Value.none, Value.none, Value.ref 213, Value.int 469 0, Value.int 95 0, Value.str (Str.ofString "/claim/cut.py") 470] }
noncomputable def b215 (P : Params) : Obj := { cls := Value.type "function", data := Data.func { name := Str.ofString "shown_text", qualname := Str.ofString "shown_text", params := (arOf (stm 24)), body := FuncBody.stmts (bdOf (stm 24)), scope := (scOf (stm 24)), globals := 3, closure := [], defaults := Value.none, kwdefaults := Value.none, pyModule := Value.str (Str.ofString "snobol.nodes") 399, code := Value.ref 214 } }
noncomputable def b216 (P : Params) : Obj := { cls := Value.type "tuple", data := Data.seq #[] }
noncomputable def b217 (P : Params) : Obj := { cls := Value.none, data := Data.fields #[] }
noncomputable def b218 (P : Params) : Obj := { cls := Value.type "tuple", data := Data.seq #[Value.str (Str.ofString "told") 475] }
noncomputable def b219 (P : Params) : Obj := { cls := Value.type "tuple", data := Data.seq #[] }
noncomputable def b220 (P : Params) : Obj := { cls := Value.none, data := Data.func { name := Str.ofString "shown_told", qualname := Str.ofString "shown_told", params := (arOf (stm 25)), body := FuncBody.stmts (bdOf (stm 25)), scope := (scOf (stm 25)), globals := 0, closure := [], defaults := Value.none, kwdefaults := Value.none } }
noncomputable def b221 (P : Params) : Obj := { cls := Value.type "code", data := Data.fields #[Value.str (Str.ofString "shown_told") 472, Value.str (Str.ofString "shown_told") 473, Value.str (Str.ofString "/claim/cut.py") 474, Value.int 101 0, Value.int 1 0, Value.int 0 0, Value.int 0 0, Value.int 3 0, Value.ref 216, Value.bool true, Value.int 181 0, Value.ref 217, Value.none, Value.ref 218, Value.ref 219, Value.ref 220, Value.int 476 0, Value.int 101 0, Value.str (Str.ofString "/claim/cut.py") 477] }
noncomputable def b222 (P : Params) : Obj := { cls := Value.type "function", data := Data.func { name := Str.ofString "shown_told", qualname := Str.ofString "shown_told", params := (arOf (stm 25)), body := FuncBody.stmts (bdOf (stm 25)), scope := (scOf (stm 25)), globals := 3, closure := [], defaults := Value.none, kwdefaults := Value.none, pyModule := Value.str (Str.ofString "snobol.nodes") 399, code := Value.ref 221 } }
noncomputable def b223 (P : Params) : Obj := { cls := Value.type "tuple", data := Data.seq #[] }
noncomputable def b224 (P : Params) : Obj := { cls := Value.none, data := Data.fields #[] }
noncomputable def b225 (P : Params) : Obj := { cls := Value.type "tuple", data := Data.seq #[Value.str (Str.ofString "ref") 482] }
noncomputable def b226 (P : Params) : Obj := { cls := Value.type "tuple", data := Data.seq #[] }
noncomputable def b227 (P : Params) : Obj := { cls := Value.none, data := Data.func { name := Str.ofString "shown_ref", qualname := Str.ofString "shown_ref", params := (arOf (stm 26)), body := FuncBody.stmts (bdOf (stm 26)), scope := (scOf (stm 26)), globals := 0, closure := [], defaults := Value.none, kwdefaults := Value.none } }
noncomputable def b228 (P : Params) : Obj := { cls := Value.type "code", data := Data.fields #[Value.str (Str.ofString "shown_ref") 479, Value.str (Str.ofString "shown_ref") 480, Value.str (Str.ofString "/claim/cut.py") 481, Value.int 105 0, Value.int 1 0, Value.int 0 0, Value.int 0 0, Value.int 3 0, Value.ref 223, Value.bool true, Value.int 181 0, Value.ref 224, Value.none, Value.ref 225, Value.ref 226, Value.ref 227, Value.int 483 0, Value.int 105 0, Value.str (Str.ofString "/claim/cut.py") 484] }
noncomputable def b229 (P : Params) : Obj := { cls := Value.type "function", data := Data.func { name := Str.ofString "shown_ref", qualname := Str.ofString "shown_ref", params := (arOf (stm 26)), body := FuncBody.stmts (bdOf (stm 26)), scope := (scOf (stm 26)), globals := 3, closure := [], defaults := Value.none, kwdefaults := Value.none, pyModule := Value.str (Str.ofString "snobol.nodes") 399, code := Value.ref 228 } }
noncomputable def b230 (P : Params) : Obj := { cls := Value.type "tuple", data := Data.seq #[] }
noncomputable def b231 (P : Params) : Obj := { cls := Value.none, data := Data.fields #[] }
noncomputable def b232 (P : Params) : Obj := { cls := Value.type "tuple", data := Data.seq #[Value.str (Str.ofString "node") 489, Value.str (Str.ofString "kind") 490, Value.str (Str.ofString "told") 491, Value.str (Str.ofString "sign") 492, Value.str (Str.ofString "other") 493] }
noncomputable def b233 (P : Params) : Obj := { cls := Value.type "tuple", data := Data.seq #[] }
noncomputable def b234 (P : Params) : Obj := { cls := Value.none, data := Data.func { name := Str.ofString "show_node", qualname := Str.ofString "show_node", params := (arOf (stm 27)), body := FuncBody.stmts (bdOf (stm 27)), scope := (scOf (stm 27)), globals := 0, closure := [], defaults := Value.none, kwdefaults := Value.none } }
noncomputable def b235 (P : Params) : Obj := { cls := Value.type "code", data := Data.fields #[Value.str (Str.ofString "show_node") 486, Value.str (Str.ofString "show_node") 487, Value.str (Str.ofString "/claim/cut.py") 488, Value.int 107 0, Value.int 1 0, Value.int 0 0, Value.int 0 0, Value.int 3 0, Value.ref 230, Value.bool true, Value.int 181 0, Value.ref 231, Value.none, Value.ref 232, Value.ref 233, Value.ref 234, Value.int 494 0, Value.int 107 0, Value.str (Str.ofString "/claim/cut.py") 495] }
noncomputable def b236 (P : Params) : Obj := { cls := Value.type "function", data := Data.func { name := Str.ofString "show_node", qualname := Str.ofString "show_node", params := (arOf (stm 27)), body := FuncBody.stmts (bdOf (stm 27)), scope := (scOf (stm 27)), globals := 3, closure := [], defaults := Value.none, kwdefaults := Value.none, pyModule := Value.str (Str.ofString "snobol.nodes") 399, code := Value.ref 235 } }
noncomputable def b237 (P : Params) : Obj := { cls := Value.type "tuple", data := Data.seq #[] }
noncomputable def b238 (P : Params) : Obj := { cls := Value.type "builtin_function_or_method", data := Data.fields #[Value.builtin "type.__prepare__", Value.type "type"] }
noncomputable def b239 (P : Params) : Obj := { cls := Value.type "dict", data := Data.dict #[{ hash := PyData.keyHash P (Str.ofString "__module__"), key := Value.str (Str.ofString "__module__") 506, val := Value.str (Str.ofString "snobol.hosts") 497 }, { hash := PyData.keyHash P (Str.ofString "__qualname__"), key := Value.str (Str.ofString "__qualname__") 508, val := Value.str (Str.ofString "PlainHost") 507 }, { hash := PyData.keyHash P (Str.ofString "__firstlineno__"), key := Value.str (Str.ofString "__firstlineno__") 510, val := Value.int 126 509 }, { hash := PyData.keyHash P (Str.ofString "__init__"), key := Value.str (Str.ofString "__init__") 520, val := Value.ref 250 }, { hash := PyData.keyHash P (Str.ofString "value_of"), key := Value.str (Str.ofString "value_of") 528, val := Value.ref 257 }, { hash := PyData.keyHash P (Str.ofString "assign"), key := Value.str (Str.ofString "assign") 537, val := Value.ref 264 }, { hash := PyData.keyHash P (Str.ofString "step"), key := Value.str (Str.ofString "step") 544, val := Value.ref 271 }, { hash := PyData.keyHash P (Str.ofString "__static_attributes__"), key := Value.str (Str.ofString "__static_attributes__") 551, val := Value.ref 272 }] 8 }
noncomputable def b240 (P : Params) : Obj := { cls := Value.type "tuple", data := Data.seq #[] }
noncomputable def b241 (P : Params) : Obj := { cls := Value.none, data := Data.fields #[Value.int 128 0, Value.int 4 0, Value.ref 249, Value.int 136 0, Value.int 4 0, Value.ref 256, Value.int 141 0, Value.int 4 0, Value.ref 263, Value.int 144 0, Value.int 4 0, Value.ref 270] }
noncomputable def b242 (P : Params) : Obj := { cls := Value.type "code", data := Data.fields #[Value.str (Str.ofString "PlainHost") 501, Value.str (Str.ofString "PlainHost") 502, Value.str (Str.ofString "/claim/cut.py") 503, Value.int 126 0, Value.int 0 0, Value.int 0 0, Value.int 0 0, Value.int 0 0, Value.ref 240, Value.bool false, Value.int 181 0, Value.ref 241, Value.none, Value.none, Value.none, Value.none, Value.int 504 0, Value.int 126 0, Value.str (Str.ofString "/claim/cut.py") 505] }
noncomputable def b243 (P : Params) : Obj := { cls := Value.type "frame", slots := #[some (Value.ref 242), some (Value.ref 3), some (Value.ref 239), none, some (Value.str (Str.ofString "snobol.hosts") 497), none, some (Value.ref 0)] }
noncomputable def b244 (P : Params) : Obj := { cls := Value.type "tuple", data := Data.seq #[] }
noncomputable def b245 (P : Params) : Obj := { cls := Value.none, data := Data.fields #[] }
noncomputable def b246 (P : Params) : Obj := { cls := Value.type "tuple", data := Data.seq #[Value.str (Str.ofString "self") 514, Value.str (Str.ofString "values") 515, Value.str (Str.ofString "limit") 516, Value.str (Str.ofString "refused") 517] }
noncomputable def b247 (P : Params) : Obj := { cls := Value.type "tuple", data := Data.seq #[] }
noncomputable def b248 (P : Params) : Obj := { cls := Value.none, data := Data.func { name := Str.ofString "__init__", qualname := Str.ofString "PlainHost.__init__", params := (arOf (sub 29 0)), body := FuncBody.stmts (bdOf (sub 29 0)), scope := (scOf (sub 29 0)), globals := 0, closure := [], defaults := Value.none, kwdefaults := Value.none } }
noncomputable def b249 (P : Params) : Obj := { cls := Value.type "code", data := Data.fields #[Value.str (Str.ofString "__init__") 511, Value.str (Str.ofString "PlainHost.__init__") 512, Value.str (Str.ofString "/claim/cut.py") 513, Value.int 128 0, Value.int 4 0, Value.int 0 0, Value.int 0 0, Value.int 3 0, Value.ref 244, Value.bool true, Value.int 181 0, Value.ref 245, Value.none, Value.ref 246, Value.ref 247, Value.ref 248, Value.int 518 0, Value.int 128 0, Value.str (Str.ofString "/claim/cut.py") 519] }
noncomputable def b250 (P : Params) : Obj := { cls := Value.type "function", data := Data.func { name := Str.ofString "__init__", qualname := Str.ofString "PlainHost.__init__", params := (arOf (sub 29 0)), body := FuncBody.stmts (bdOf (sub 29 0)), scope := (scOf (sub 29 0)), globals := 3, closure := [], defaults := Value.none, kwdefaults := Value.none, pyModule := Value.str (Str.ofString "snobol.hosts") 497, code := Value.ref 249 } }
noncomputable def b251 (P : Params) : Obj := { cls := Value.type "tuple", data := Data.seq #[] }
noncomputable def b252 (P : Params) : Obj := { cls := Value.none, data := Data.fields #[] }
noncomputable def b253 (P : Params) : Obj := { cls := Value.type "tuple", data := Data.seq #[Value.str (Str.ofString "self") 524, Value.str (Str.ofString "tree") 525] }
noncomputable def b254 (P : Params) : Obj := { cls := Value.type "tuple", data := Data.seq #[] }
noncomputable def b255 (P : Params) : Obj := { cls := Value.none, data := Data.func { name := Str.ofString "value_of", qualname := Str.ofString "PlainHost.value_of", params := (arOf (sub 29 1)), body := FuncBody.stmts (bdOf (sub 29 1)), scope := (scOf (sub 29 1)), globals := 0, closure := [], defaults := Value.none, kwdefaults := Value.none } }
noncomputable def b256 (P : Params) : Obj := { cls := Value.type "code", data := Data.fields #[Value.str (Str.ofString "value_of") 521, Value.str (Str.ofString "PlainHost.value_of") 522, Value.str (Str.ofString "/claim/cut.py") 523, Value.int 136 0, Value.int 2 0, Value.int 0 0, Value.int 0 0, Value.int 3 0, Value.ref 251, Value.bool true, Value.int 181 0, Value.ref 252, Value.none, Value.ref 253, Value.ref 254, Value.ref 255, Value.int 526 0, Value.int 136 0, Value.str (Str.ofString "/claim/cut.py") 527] }
noncomputable def b257 (P : Params) : Obj := { cls := Value.type "function", data := Data.func { name := Str.ofString "value_of", qualname := Str.ofString "PlainHost.value_of", params := (arOf (sub 29 1)), body := FuncBody.stmts (bdOf (sub 29 1)), scope := (scOf (sub 29 1)), globals := 3, closure := [], defaults := Value.none, kwdefaults := Value.none, pyModule := Value.str (Str.ofString "snobol.hosts") 497, code := Value.ref 256 } }
noncomputable def b258 (P : Params) : Obj := { cls := Value.type "tuple", data := Data.seq #[] }
noncomputable def b259 (P : Params) : Obj := { cls := Value.none, data := Data.fields #[] }
noncomputable def b260 (P : Params) : Obj := { cls := Value.type "tuple", data := Data.seq #[Value.str (Str.ofString "self") 532, Value.str (Str.ofString "ref") 533, Value.str (Str.ofString "value") 534] }
noncomputable def b261 (P : Params) : Obj := { cls := Value.type "tuple", data := Data.seq #[] }
noncomputable def b262 (P : Params) : Obj := { cls := Value.none, data := Data.func { name := Str.ofString "assign", qualname := Str.ofString "PlainHost.assign", params := (arOf (sub 29 2)), body := FuncBody.stmts (bdOf (sub 29 2)), scope := (scOf (sub 29 2)), globals := 0, closure := [], defaults := Value.none, kwdefaults := Value.none } }
noncomputable def b263 (P : Params) : Obj := { cls := Value.type "code", data := Data.fields #[Value.str (Str.ofString "assign") 529, Value.str (Str.ofString "PlainHost.assign") 530, Value.str (Str.ofString "/claim/cut.py") 531, Value.int 141 0, Value.int 3 0, Value.int 0 0, Value.int 0 0, Value.int 3 0, Value.ref 258, Value.bool true, Value.int 181 0, Value.ref 259, Value.none, Value.ref 260, Value.ref 261, Value.ref 262, Value.int 535 0, Value.int 141 0, Value.str (Str.ofString "/claim/cut.py") 536] }
noncomputable def b264 (P : Params) : Obj := { cls := Value.type "function", data := Data.func { name := Str.ofString "assign", qualname := Str.ofString "PlainHost.assign", params := (arOf (sub 29 2)), body := FuncBody.stmts (bdOf (sub 29 2)), scope := (scOf (sub 29 2)), globals := 3, closure := [], defaults := Value.none, kwdefaults := Value.none, pyModule := Value.str (Str.ofString "snobol.hosts") 497, code := Value.ref 263 } }
noncomputable def b265 (P : Params) : Obj := { cls := Value.type "tuple", data := Data.seq #[] }
noncomputable def b266 (P : Params) : Obj := { cls := Value.none, data := Data.fields #[] }
noncomputable def b267 (P : Params) : Obj := { cls := Value.type "tuple", data := Data.seq #[Value.str (Str.ofString "self") 541] }
noncomputable def b268 (P : Params) : Obj := { cls := Value.type "tuple", data := Data.seq #[] }
noncomputable def b269 (P : Params) : Obj := { cls := Value.none, data := Data.func { name := Str.ofString "step", qualname := Str.ofString "PlainHost.step", params := (arOf (sub 29 3)), body := FuncBody.stmts (bdOf (sub 29 3)), scope := (scOf (sub 29 3)), globals := 0, closure := [], defaults := Value.none, kwdefaults := Value.none } }
noncomputable def b270 (P : Params) : Obj := { cls := Value.type "code", data := Data.fields #[Value.str (Str.ofString "step") 538, Value.str (Str.ofString "PlainHost.step") 539, Value.str (Str.ofString "/claim/cut.py") 540, Value.int 144 0, Value.int 1 0, Value.int 0 0, Value.int 0 0, Value.int 3 0, Value.ref 265, Value.bool true, Value.int 181 0, Value.ref 266, Value.none, Value.ref 267, Value.ref 268, Value.ref 269, Value.int 542 0, Value.int 144 0, Value.str (Str.ofString "/claim/cut.py") 543] }
noncomputable def b271 (P : Params) : Obj := { cls := Value.type "function", data := Data.func { name := Str.ofString "step", qualname := Str.ofString "PlainHost.step", params := (arOf (sub 29 3)), body := FuncBody.stmts (bdOf (sub 29 3)), scope := (scOf (sub 29 3)), globals := 3, closure := [], defaults := Value.none, kwdefaults := Value.none, pyModule := Value.str (Str.ofString "snobol.hosts") 497, code := Value.ref 270 } }
noncomputable def b272 (P : Params) : Obj := { cls := Value.type "tuple", data := Data.seq #[Value.str (Str.ofString "limit") 545, Value.str (Str.ofString "log") 546, Value.str (Str.ofString "refused") 547, Value.str (Str.ofString "steps") 548, Value.str (Str.ofString "values") 549, Value.str (Str.ofString "width") 550] }
noncomputable def b273 (P : Params) : Obj := { cls := Value.type "dict", data := Data.dict #[{ hash := PyData.keyHash P (Str.ofString "__module__"), key := Value.str (Str.ofString "__module__") 506, val := Value.str (Str.ofString "snobol.hosts") 497 }, { hash := PyData.keyHash P (Str.ofString "__firstlineno__"), key := Value.str (Str.ofString "__firstlineno__") 510, val := Value.int 126 509 }, { hash := PyData.keyHash P (Str.ofString "__init__"), key := Value.str (Str.ofString "__init__") 520, val := Value.ref 250 }, { hash := PyData.keyHash P (Str.ofString "value_of"), key := Value.str (Str.ofString "value_of") 528, val := Value.ref 257 }, { hash := PyData.keyHash P (Str.ofString "assign"), key := Value.str (Str.ofString "assign") 537, val := Value.ref 264 }, { hash := PyData.keyHash P (Str.ofString "step"), key := Value.str (Str.ofString "step") 544, val := Value.ref 271 }, { hash := PyData.keyHash P (Str.ofString "__static_attributes__"), key := Value.str (Str.ofString "__static_attributes__") 551, val := Value.ref 272 }, { hash := PyData.keyHash P (Str.ofString "__dict__"), key := Value.str (Str.ofString "__dict__") 553, val := Value.ref 275 }, { hash := PyData.keyHash P (Str.ofString "__weakref__"), key := Value.str (Str.ofString "__weakref__") 555, val := Value.ref 276 }, { hash := PyData.keyHash P (Str.ofString "__doc__"), key := Value.str (Str.ofString "__doc__") 556, val := Value.none }] 4 }
noncomputable def b274 (P : Params) : Obj := { cls := Value.type "type", data := Data.cls { name := Str.ofString "PlainHost", bases := [Value.type "object"], mro := [Value.ref 274, Value.type "object"], ns := 273, qualname := Str.ofString "PlainHost" }, slots := #[none, none, some (Value.str (Str.ofString "PlainHost") 499), some (Value.str (Str.ofString "PlainHost") 507), some (Value.builtin "object.__new__"), some (Value.bool true)] }
noncomputable def b275 (P : Params) : Obj := { cls := Value.type "getset_descriptor", data := Data.fields #[Value.str (Str.ofString "__dict__") 552, Value.ref 274, Value.builtin "function.__dict__", Value.builtin "function.__dict__#set"] }
noncomputable def b276 (P : Params) : Obj := { cls := Value.type "getset_descriptor", data := Data.fields #[Value.str (Str.ofString "__weakref__") 554, Value.ref 274, Value.builtin "ExceptionGroup.__weakref__", Value.none] }
noncomputable def b277 (P : Params) : Obj := { cls := Value.type "super", data := Data.fields #[Value.ref 274, Value.ref 274, Value.ref 274] }
noncomputable def b278 (P : Params) : Obj := { cls := Value.type "builtin_function_or_method", data := Data.fields #[Value.builtin "object.__init_subclass__", Value.ref 274] }
noncomputable def b279 (P : Params) : Obj := { cls := Value.type "tuple", data := Data.seq #[] }
noncomputable def b280 (P : Params) : Obj := { cls := Value.none, data := Data.fields #[] }
noncomputable def b281 (P : Params) : Obj := { cls := Value.type "tuple", data := Data.seq #[Value.str (Str.ofString "world") 564, Value.str (Str.ofString "args") 565] }
noncomputable def b282 (P : Params) : Obj := { cls := Value.type "tuple", data := Data.seq #[] }
noncomputable def b283 (P : Params) : Obj := { cls := Value.none, data := Data.func { name := Str.ofString "make_len", qualname := Str.ofString "make_len", params := (arOf (stm 31)), body := FuncBody.stmts (bdOf (stm 31)), scope := (scOf (stm 35)), globals := 0, closure := [], defaults := Value.none, kwdefaults := Value.none } }
noncomputable def b284 (P : Params) : Obj := { cls := Value.type "code", data := Data.fields #[Value.str (Str.ofString "make_len") 561, Value.str (Str.ofString "make_len") 562, Value.str (Str.ofString "/claim/cut.py") 563, Value.int 147 0, Value.int 2 0, Value.int 0 0, Value.int 0 0, Value.int 3 0, Value.ref 279, Value.bool true, Value.int 181 0, Value.ref 280, Value.none, Value.ref 281, Value.ref 282, Value.ref 283, Value.int 566 0, Value.int 147 0, Value.str (Str.ofString "/claim/cut.py") 567] }
noncomputable def b285 (P : Params) : Obj := { cls := Value.type "function", data := Data.func { name := Str.ofString "make_len", qualname := Str.ofString "make_len", params := (arOf (stm 31)), body := FuncBody.stmts (bdOf (stm 31)), scope := (scOf (stm 35)), globals := 3, closure := [], defaults := Value.none, kwdefaults := Value.none, pyModule := Value.str (Str.ofString "snobol.patternlib") 559, code := Value.ref 284 } }
noncomputable def b286 (P : Params) : Obj := { cls := Value.type "tuple", data := Data.seq #[] }
noncomputable def b287 (P : Params) : Obj := { cls := Value.none, data := Data.fields #[] }
noncomputable def b288 (P : Params) : Obj := { cls := Value.type "tuple", data := Data.seq #[Value.str (Str.ofString "world") 572, Value.str (Str.ofString "args") 573] }
noncomputable def b289 (P : Params) : Obj := { cls := Value.type "tuple", data := Data.seq #[] }
noncomputable def b290 (P : Params) : Obj := { cls := Value.none, data := Data.func { name := Str.ofString "make_pos", qualname := Str.ofString "make_pos", params := (arOf (stm 32)), body := FuncBody.stmts (bdOf (stm 32)), scope := (scOf (stm 35)), globals := 0, closure := [], defaults := Value.none, kwdefaults := Value.none } }
noncomputable def b291 (P : Params) : Obj := { cls := Value.type "code", data := Data.fields #[Value.str (Str.ofString "make_pos") 569, Value.str (Str.ofString "make_pos") 570, Value.str (Str.ofString "/claim/cut.py") 571, Value.int 149 0, Value.int 2 0, Value.int 0 0, Value.int 0 0, Value.int 3 0, Value.ref 286, Value.bool true, Value.int 181 0, Value.ref 287, Value.none, Value.ref 288, Value.ref 289, Value.ref 290, Value.int 574 0, Value.int 149 0, Value.str (Str.ofString "/claim/cut.py") 575] }
noncomputable def b292 (P : Params) : Obj := { cls := Value.type "function", data := Data.func { name := Str.ofString "make_pos", qualname := Str.ofString "make_pos", params := (arOf (stm 32)), body := FuncBody.stmts (bdOf (stm 32)), scope := (scOf (stm 35)), globals := 3, closure := [], defaults := Value.none, kwdefaults := Value.none, pyModule := Value.str (Str.ofString "snobol.patternlib") 559, code := Value.ref 291 } }
noncomputable def b293 (P : Params) : Obj := { cls := Value.type "tuple", data := Data.seq #[] }
noncomputable def b294 (P : Params) : Obj := { cls := Value.none, data := Data.fields #[] }
noncomputable def b295 (P : Params) : Obj := { cls := Value.type "tuple", data := Data.seq #[Value.str (Str.ofString "world") 580, Value.str (Str.ofString "args") 581] }
noncomputable def b296 (P : Params) : Obj := { cls := Value.type "tuple", data := Data.seq #[] }
noncomputable def b297 (P : Params) : Obj := { cls := Value.none, data := Data.func { name := Str.ofString "make_rpos", qualname := Str.ofString "make_rpos", params := (arOf (stm 33)), body := FuncBody.stmts (bdOf (stm 33)), scope := (scOf (stm 35)), globals := 0, closure := [], defaults := Value.none, kwdefaults := Value.none } }
noncomputable def b298 (P : Params) : Obj := { cls := Value.type "code", data := Data.fields #[Value.str (Str.ofString "make_rpos") 577, Value.str (Str.ofString "make_rpos") 578, Value.str (Str.ofString "/claim/cut.py") 579, Value.int 151 0, Value.int 2 0, Value.int 0 0, Value.int 0 0, Value.int 3 0, Value.ref 293, Value.bool true, Value.int 181 0, Value.ref 294, Value.none, Value.ref 295, Value.ref 296, Value.ref 297, Value.int 582 0, Value.int 151 0, Value.str (Str.ofString "/claim/cut.py") 583] }
noncomputable def b299 (P : Params) : Obj := { cls := Value.type "function", data := Data.func { name := Str.ofString "make_rpos", qualname := Str.ofString "make_rpos", params := (arOf (stm 33)), body := FuncBody.stmts (bdOf (stm 33)), scope := (scOf (stm 35)), globals := 3, closure := [], defaults := Value.none, kwdefaults := Value.none, pyModule := Value.str (Str.ofString "snobol.patternlib") 559, code := Value.ref 298 } }
noncomputable def b300 (P : Params) : Obj := { cls := Value.type "tuple", data := Data.seq #[] }
noncomputable def b301 (P : Params) : Obj := { cls := Value.none, data := Data.fields #[] }
noncomputable def b302 (P : Params) : Obj := { cls := Value.type "tuple", data := Data.seq #[Value.str (Str.ofString "world") 588, Value.str (Str.ofString "args") 589] }
noncomputable def b303 (P : Params) : Obj := { cls := Value.type "tuple", data := Data.seq #[] }
noncomputable def b304 (P : Params) : Obj := { cls := Value.none, data := Data.func { name := Str.ofString "make_tab", qualname := Str.ofString "make_tab", params := (arOf (stm 34)), body := FuncBody.stmts (bdOf (stm 34)), scope := (scOf (stm 35)), globals := 0, closure := [], defaults := Value.none, kwdefaults := Value.none } }
noncomputable def b305 (P : Params) : Obj := { cls := Value.type "code", data := Data.fields #[Value.str (Str.ofString "make_tab") 585, Value.str (Str.ofString "make_tab") 586, Value.str (Str.ofString "/claim/cut.py") 587, Value.int 153 0, Value.int 2 0, Value.int 0 0, Value.int 0 0, Value.int 3 0, Value.ref 300, Value.bool true, Value.int 181 0, Value.ref 301, Value.none, Value.ref 302, Value.ref 303, Value.ref 304, Value.int 590 0, Value.int 153 0, Value.str (Str.ofString "/claim/cut.py") 591] }
noncomputable def b306 (P : Params) : Obj := { cls := Value.type "function", data := Data.func { name := Str.ofString "make_tab", qualname := Str.ofString "make_tab", params := (arOf (stm 34)), body := FuncBody.stmts (bdOf (stm 34)), scope := (scOf (stm 35)), globals := 3, closure := [], defaults := Value.none, kwdefaults := Value.none, pyModule := Value.str (Str.ofString "snobol.patternlib") 559, code := Value.ref 305 } }
noncomputable def b307 (P : Params) : Obj := { cls := Value.type "tuple", data := Data.seq #[] }
noncomputable def b308 (P : Params) : Obj := { cls := Value.none, data := Data.fields #[] }
noncomputable def b309 (P : Params) : Obj := { cls := Value.type "tuple", data := Data.seq #[Value.str (Str.ofString "world") 596, Value.str (Str.ofString "args") 597] }
noncomputable def b310 (P : Params) : Obj := { cls := Value.type "tuple", data := Data.seq #[] }
noncomputable def b311 (P : Params) : Obj := { cls := Value.none, data := Data.func { name := Str.ofString "make_rtab", qualname := Str.ofString "make_rtab", params := (arOf (stm 35)), body := FuncBody.stmts (bdOf (stm 35)), scope := (scOf (stm 35)), globals := 0, closure := [], defaults := Value.none, kwdefaults := Value.none } }
noncomputable def b312 (P : Params) : Obj := { cls := Value.type "code", data := Data.fields #[Value.str (Str.ofString "make_rtab") 593, Value.str (Str.ofString "make_rtab") 594, Value.str (Str.ofString "/claim/cut.py") 595, Value.int 155 0, Value.int 2 0, Value.int 0 0, Value.int 0 0, Value.int 3 0, Value.ref 307, Value.bool true, Value.int 181 0, Value.ref 308, Value.none, Value.ref 309, Value.ref 310, Value.ref 311, Value.int 598 0, Value.int 155 0, Value.str (Str.ofString "/claim/cut.py") 599] }
noncomputable def b313 (P : Params) : Obj := { cls := Value.type "function", data := Data.func { name := Str.ofString "make_rtab", qualname := Str.ofString "make_rtab", params := (arOf (stm 35)), body := FuncBody.stmts (bdOf (stm 35)), scope := (scOf (stm 35)), globals := 3, closure := [], defaults := Value.none, kwdefaults := Value.none, pyModule := Value.str (Str.ofString "snobol.patternlib") 559, code := Value.ref 312 } }
noncomputable def b314 (P : Params) : Obj := { cls := Value.type "tuple", data := Data.seq #[] }
noncomputable def b315 (P : Params) : Obj := { cls := Value.type "builtin_function_or_method", data := Data.fields #[Value.builtin "type.__prepare__", Value.type "type"] }
noncomputable def b316 (P : Params) : Obj := { cls := Value.type "dict", data := Data.dict #[{ hash := PyData.keyHash P (Str.ofString "__module__"), key := Value.str (Str.ofString "__module__") 610, val := Value.str (Str.ofString "snobol.world") 601 }, { hash := PyData.keyHash P (Str.ofString "__qualname__"), key := Value.str (Str.ofString "__qualname__") 612, val := Value.str (Str.ofString "World") 611 }, { hash := PyData.keyHash P (Str.ofString "__firstlineno__"), key := Value.str (Str.ofString "__firstlineno__") 614, val := Value.int 158 613 }, { hash := PyData.keyHash P (Str.ofString "__init__"), key := Value.str (Str.ofString "__init__") 629, val := Value.ref 328 }, { hash := PyData.keyHash P (Str.ofString "__static_attributes__"), key := Value.str (Str.ofString "__static_attributes__") 656, val := Value.ref 329 }] 5 }
noncomputable def b317 (P : Params) : Obj := { cls := Value.type "tuple", data := Data.seq #[] }
noncomputable def b318 (P : Params) : Obj := { cls := Value.none, data := Data.fields #[Value.int 160 0, Value.int 4 0, Value.ref 327] }
noncomputable def b319 (P : Params) : Obj := { cls := Value.type "code", data := Data.fields #[Value.str (Str.ofString "World") 605, Value.str (Str.ofString "World") 606, Value.str (Str.ofString "/claim/cut.py") 607, Value.int 158 0, Value.int 0 0, Value.int 0 0, Value.int 0 0, Value.int 0 0, Value.ref 317, Value.bool false, Value.int 181 0, Value.ref 318, Value.none, Value.none, Value.none, Value.none, Value.int 608 0, Value.int 158 0, Value.str (Str.ofString "/claim/cut.py") 609] }
noncomputable def b320 (P : Params) : Obj := { cls := Value.type "frame", slots := #[some (Value.ref 319), some (Value.ref 3), some (Value.ref 316), none, some (Value.str (Str.ofString "snobol.world") 601), none, some (Value.ref 0)] }
noncomputable def b321 (P : Params) : Obj := { cls := Value.type "tuple", data := Data.seq #[Value.int 32 615, Value.int 5000 616, Value.int 30 617, Value.int 5000 618] }
noncomputable def b322 (P : Params) : Obj := { cls := Value.type "tuple", data := Data.seq #[] }
noncomputable def b323 (P : Params) : Obj := { cls := Value.none, data := Data.fields #[] }
noncomputable def b324 (P : Params) : Obj := { cls := Value.type "tuple", data := Data.seq #[Value.str (Str.ofString "self") 622, Value.str (Str.ofString "width") 623, Value.str (Str.ofString "most_steps") 624, Value.str (Str.ofString "most_depth") 625, Value.str (Str.ofString "most_length") 626] }
noncomputable def b325 (P : Params) : Obj := { cls := Value.type "tuple", data := Data.seq #[] }
noncomputable def b326 (P : Params) : Obj := { cls := Value.none, data := Data.func { name := Str.ofString "__init__", qualname := Str.ofString "World.__init__", params := (arOf (sub 37 0)), body := FuncBody.stmts (bdOf (sub 37 0)), scope := (scOf (sub 37 0)), globals := 0, closure := [], defaults := Value.none, kwdefaults := Value.none } }
noncomputable def b327 (P : Params) : Obj := { cls := Value.type "code", data := Data.fields #[Value.str (Str.ofString "__init__") 619, Value.str (Str.ofString "World.__init__") 620, Value.str (Str.ofString "/claim/cut.py") 621, Value.int 160 0, Value.int 5 0, Value.int 0 0, Value.int 0 0, Value.int 3 0, Value.ref 322, Value.bool true, Value.int 181 0, Value.ref 323, Value.none, Value.ref 324, Value.ref 325, Value.ref 326, Value.int 627 0, Value.int 160 0, Value.str (Str.ofString "/claim/cut.py") 628] }
noncomputable def b328 (P : Params) : Obj := { cls := Value.type "function", data := Data.func { name := Str.ofString "__init__", qualname := Str.ofString "World.__init__", params := (arOf (sub 37 0)), body := FuncBody.stmts (bdOf (sub 37 0)), scope := (scOf (sub 37 0)), globals := 3, closure := [], defaults := Value.ref 321, kwdefaults := Value.none, pyModule := Value.str (Str.ofString "snobol.world") 601, code := Value.ref 327 } }
noncomputable def b329 (P : Params) : Obj := { cls := Value.type "tuple", data := Data.seq #[Value.str (Str.ofString "aside") 630, Value.str (Str.ofString "depth") 631, Value.str (Str.ofString "evaluate") 632, Value.str (Str.ofString "functions") 633, Value.str (Str.ofString "holders") 634, Value.str (Str.ofString "inputs") 635, Value.str (Str.ofString "kept_names") 636, Value.str (Str.ofString "keywords") 637, Value.str (Str.ofString "labels") 638, Value.str (Str.ofString "made") 639, Value.str (Str.ofString "make_code") 640, Value.str (Str.ofString "matcher") 641, Value.str (Str.ofString "most_depth") 642, Value.str (Str.ofString "most_items") 643, Value.str (Str.ofString "most_length") 644, Value.str (Str.ofString "most_steps") 645, Value.str (Str.ofString "nested") 646, Value.str (Str.ofString "opsyns") 647, Value.str (Str.ofString "outputs") 648, Value.str (Str.ofString "read_names") 649, Value.str (Str.ofString "steps") 650, Value.str (Str.ofString "store") 651, Value.str (Str.ofString "traced") 652, Value.str (Str.ofString "traces") 653, Value.str (Str.ofString "width") 654, Value.str (Str.ofString "write_names") 655] }
noncomputable def b330 (P : Params) : Obj := { cls := Value.type "dict", data := Data.dict #[{ hash := PyData.keyHash P (Str.ofString "__module__"), key := Value.str (Str.ofString "__module__") 610, val := Value.str (Str.ofString "snobol.world") 601 }, { hash := PyData.keyHash P (Str.ofString "__firstlineno__"), key := Value.str (Str.ofString "__firstlineno__") 614, val := Value.int 158 613 }, { hash := PyData.keyHash P (Str.ofString "__init__"), key := Value.str (Str.ofString "__init__") 629, val := Value.ref 328 }, { hash := PyData.keyHash P (Str.ofString "__static_attributes__"), key := Value.str (Str.ofString "__static_attributes__") 656, val := Value.ref 329 }, { hash := PyData.keyHash P (Str.ofString "__dict__"), key := Value.str (Str.ofString "__dict__") 658, val := Value.ref 332 }, { hash := PyData.keyHash P (Str.ofString "__weakref__"), key := Value.str (Str.ofString "__weakref__") 660, val := Value.ref 333 }, { hash := PyData.keyHash P (Str.ofString "__doc__"), key := Value.str (Str.ofString "__doc__") 661, val := Value.none }] 4 }
noncomputable def b331 (P : Params) : Obj := { cls := Value.type "type", data := Data.cls { name := Str.ofString "World", bases := [Value.type "object"], mro := [Value.ref 331, Value.type "object"], ns := 330, qualname := Str.ofString "World" }, slots := #[none, none, some (Value.str (Str.ofString "World") 603), some (Value.str (Str.ofString "World") 611), some (Value.builtin "object.__new__"), some (Value.bool true)] }
noncomputable def b332 (P : Params) : Obj := { cls := Value.type "getset_descriptor", data := Data.fields #[Value.str (Str.ofString "__dict__") 657, Value.ref 331, Value.builtin "function.__dict__", Value.builtin "function.__dict__#set"] }
noncomputable def b333 (P : Params) : Obj := { cls := Value.type "getset_descriptor", data := Data.fields #[Value.str (Str.ofString "__weakref__") 659, Value.ref 331, Value.builtin "ExceptionGroup.__weakref__", Value.none] }
noncomputable def b334 (P : Params) : Obj := { cls := Value.type "super", data := Data.fields #[Value.ref 331, Value.ref 331, Value.ref 331] }
noncomputable def b335 (P : Params) : Obj := { cls := Value.type "builtin_function_or_method", data := Data.fields #[Value.builtin "object.__init_subclass__", Value.ref 331] }
noncomputable def b336 (P : Params) : Obj := { cls := Value.type "tuple", data := Data.seq #[] }
noncomputable def b337 (P : Params) : Obj := { cls := Value.none, data := Data.fields #[] }
noncomputable def b338 (P : Params) : Obj := { cls := Value.type "tuple", data := Data.seq #[Value.str (Str.ofString "feed") 669, Value.str (Str.ofString "many") 670, Value.str (Str.ofString "cells") 671, Value.str (Str.ofString "turn") 672] }
noncomputable def b339 (P : Params) : Obj := { cls := Value.type "tuple", data := Data.seq #[] }
noncomputable def b340 (P : Params) : Obj := { cls := Value.none, data := Data.func { name := Str.ofString "_law_next", qualname := Str.ofString "_law_next", params := (arOf (stm 39)), body := FuncBody.stmts (bdOf (stm 39)), scope := (scOf (stm 39)), globals := 0, closure := [], defaults := Value.none, kwdefaults := Value.none } }
noncomputable def b341 (P : Params) : Obj := { cls := Value.type "code", data := Data.fields #[Value.str (Str.ofString "_law_next") 666, Value.str (Str.ofString "_law_next") 667, Value.str (Str.ofString "/claim/cut.py") 668, Value.int 188 0, Value.int 2 0, Value.int 0 0, Value.int 0 0, Value.int 3 0, Value.ref 336, Value.bool true, Value.int 181 0, Value.ref 337, Value.none, Value.ref 338, Value.ref 339, Value.ref 340, Value.int 673 0, Value.int 188 0, Value.str (Str.ofString "/claim/cut.py") 674] }
noncomputable def b342 (P : Params) : Obj := { cls := Value.type "function", data := Data.func { name := Str.ofString "_law_next", qualname := Str.ofString "_law_next", params := (arOf (stm 39)), body := FuncBody.stmts (bdOf (stm 39)), scope := (scOf (stm 39)), globals := 3, closure := [], defaults := Value.none, kwdefaults := Value.none, pyModule := Value.str (Str.ofString "law_rh0227_01") 664, code := Value.ref 341 } }
noncomputable def b343 (P : Params) : Obj := { cls := Value.type "tuple", data := Data.seq #[] }
noncomputable def b344 (P : Params) : Obj := { cls := Value.none, data := Data.fields #[] }
noncomputable def b345 (P : Params) : Obj := { cls := Value.type "tuple", data := Data.seq #[Value.str (Str.ofString "form") 679, Value.str (Str.ofString "end") 680, Value.str (Str.ofString "number") 681] }
noncomputable def b346 (P : Params) : Obj := { cls := Value.type "tuple", data := Data.seq #[] }
noncomputable def b347 (P : Params) : Obj := { cls := Value.none, data := Data.func { name := Str.ofString "_law_value", qualname := Str.ofString "_law_value", params := (arOf (stm 40)), body := FuncBody.stmts (bdOf (stm 40)), scope := (scOf (stm 40)), globals := 0, closure := [], defaults := Value.none, kwdefaults := Value.none } }
noncomputable def b348 (P : Params) : Obj := { cls := Value.type "code", data := Data.fields #[Value.str (Str.ofString "_law_value") 676, Value.str (Str.ofString "_law_value") 677, Value.str (Str.ofString "/claim/cut.py") 678, Value.int 194 0, Value.int 2 0, Value.int 0 0, Value.int 0 0, Value.int 3 0, Value.ref 343, Value.bool true, Value.int 181 0, Value.ref 344, Value.none, Value.ref 345, Value.ref 346, Value.ref 347, Value.int 682 0, Value.int 194 0, Value.str (Str.ofString "/claim/cut.py") 683] }
noncomputable def b349 (P : Params) : Obj := { cls := Value.type "function", data := Data.func { name := Str.ofString "_law_value", qualname := Str.ofString "_law_value", params := (arOf (stm 40)), body := FuncBody.stmts (bdOf (stm 40)), scope := (scOf (stm 40)), globals := 3, closure := [], defaults := Value.none, kwdefaults := Value.none, pyModule := Value.str (Str.ofString "law_rh0227_01") 664, code := Value.ref 348 } }
noncomputable def b350 (P : Params) : Obj := { cls := Value.type "tuple", data := Data.seq #[] }
noncomputable def b351 (P : Params) : Obj := { cls := Value.none, data := Data.fields #[] }
noncomputable def b352 (P : Params) : Obj := { cls := Value.type "tuple", data := Data.seq #[Value.str (Str.ofString "kind") 688, Value.str (Str.ofString "number") 689, Value.str (Str.ofString "width") 690] }
noncomputable def b353 (P : Params) : Obj := { cls := Value.type "tuple", data := Data.seq #[] }
noncomputable def b354 (P : Params) : Obj := { cls := Value.none, data := Data.func { name := Str.ofString "_law_due", qualname := Str.ofString "_law_due", params := (arOf (stm 41)), body := FuncBody.stmts (bdOf (stm 41)), scope := (scOf (stm 41)), globals := 0, closure := [], defaults := Value.none, kwdefaults := Value.none } }
noncomputable def b355 (P : Params) : Obj := { cls := Value.type "code", data := Data.fields #[Value.str (Str.ofString "_law_due") 685, Value.str (Str.ofString "_law_due") 686, Value.str (Str.ofString "/claim/cut.py") 687, Value.int 201 0, Value.int 3 0, Value.int 0 0, Value.int 0 0, Value.int 3 0, Value.ref 350, Value.bool true, Value.int 181 0, Value.ref 351, Value.none, Value.ref 352, Value.ref 353, Value.ref 354, Value.int 691 0, Value.int 201 0, Value.str (Str.ofString "/claim/cut.py") 692] }
noncomputable def b356 (P : Params) : Obj := { cls := Value.type "function", data := Data.func { name := Str.ofString "_law_due", qualname := Str.ofString "_law_due", params := (arOf (stm 41)), body := FuncBody.stmts (bdOf (stm 41)), scope := (scOf (stm 41)), globals := 3, closure := [], defaults := Value.none, kwdefaults := Value.none, pyModule := Value.str (Str.ofString "law_rh0227_01") 664, code := Value.ref 355 } }
noncomputable def b357 (P : Params) : Obj := { cls := Value.type "tuple", data := Data.seq #[] }
noncomputable def b358 (P : Params) : Obj := { cls := Value.none, data := Data.fields #[] }
noncomputable def b359 (P : Params) : Obj := { cls := Value.type "tuple", data := Data.seq #[Value.str (Str.ofString "work") 697, Value.str (Str.ofString "error") 698] }
noncomputable def b360 (P : Params) : Obj := { cls := Value.type "tuple", data := Data.seq #[] }
noncomputable def b361 (P : Params) : Obj := { cls := Value.none, data := Data.func { name := Str.ofString "_law_heard", qualname := Str.ofString "_law_heard", params := (arOf (stm 42)), body := FuncBody.stmts (bdOf (stm 42)), scope := (scOf (stm 42)), globals := 0, closure := [], defaults := Value.none, kwdefaults := Value.none } }
noncomputable def b362 (P : Params) : Obj := { cls := Value.type "code", data := Data.fields #[Value.str (Str.ofString "_law_heard") 694, Value.str (Str.ofString "_law_heard") 695, Value.str (Str.ofString "/claim/cut.py") 696, Value.int 205 0, Value.int 1 0, Value.int 0 0, Value.int 0 0, Value.int 3 0, Value.ref 357, Value.bool true, Value.int 181 0, Value.ref 358, Value.none, Value.ref 359, Value.ref 360, Value.ref 361, Value.int 699 0, Value.int 205 0, Value.str (Str.ofString "/claim/cut.py") 700] }
noncomputable def b363 (P : Params) : Obj := { cls := Value.type "function", data := Data.func { name := Str.ofString "_law_heard", qualname := Str.ofString "_law_heard", params := (arOf (stm 42)), body := FuncBody.stmts (bdOf (stm 42)), scope := (scOf (stm 42)), globals := 3, closure := [], defaults := Value.none, kwdefaults := Value.none, pyModule := Value.str (Str.ofString "law_rh0227_01") 664, code := Value.ref 362 } }
noncomputable def b364 (P : Params) : Obj := { cls := Value.type "tuple", data := Data.seq #[] }
noncomputable def b365 (P : Params) : Obj := { cls := Value.none, data := Data.fields #[] }
noncomputable def b366 (P : Params) : Obj := { cls := Value.type "tuple", data := Data.seq #[Value.str (Str.ofString "script") 705, Value.str (Str.ofString "feed") 706, Value.str (Str.ofString "width") 707, Value.str (Str.ofString "turn") 708, Value.str (Str.ofString "which") 709, Value.str (Str.ofString "kind") 710, Value.str (Str.ofString "number") 711, Value.str (Str.ofString "ref") 712, Value.str (Str.ofString "name") 713] }
noncomputable def b367 (P : Params) : Obj := { cls := Value.type "tuple", data := Data.seq #[Value.str (Str.ofString "host") 714, Value.str (Str.ofString "later") 715, Value.str (Str.ofString "make") 716, Value.str (Str.ofString "value") 717, Value.str (Str.ofString "world") 718] }
noncomputable def b368 (P : Params) : Obj := { cls := Value.none, data := Data.func { name := Str.ofString "law", qualname := Str.ofString "law", params := (arOf (stm 43)), body := FuncBody.stmts (bdOf (stm 43)), scope := (scOf (stm 43)), globals := 0, closure := [], defaults := Value.none, kwdefaults := Value.none } }
noncomputable def b369 (P : Params) : Obj := { cls := Value.type "code", data := Data.fields #[Value.str (Str.ofString "law") 702, Value.str (Str.ofString "law") 703, Value.str (Str.ofString "/claim/cut.py") 704, Value.int 210 0, Value.int 1 0, Value.int 0 0, Value.int 0 0, Value.int 3 0, Value.ref 364, Value.bool true, Value.int 181 0, Value.ref 365, Value.none, Value.ref 366, Value.ref 367, Value.ref 368, Value.int 719 0, Value.int 210 0, Value.str (Str.ofString "/claim/cut.py") 720] }
noncomputable def b370 (P : Params) : Obj := { cls := Value.type "function", data := Data.func { name := Str.ofString "law", qualname := Str.ofString "law", params := (arOf (stm 43)), body := FuncBody.stmts (bdOf (stm 43)), scope := (scOf (stm 43)), globals := 3, closure := [], defaults := Value.none, kwdefaults := Value.none, pyModule := Value.str (Str.ofString "law_rh0227_01") 664, code := Value.ref 369 } }
noncomputable def heap1 (P : Params) : Heap := ⟨⟨[(boot_o_0 P), (boot_o_1 P), (b2 P), (b3 P), (boot_o_4 P), (boot_o_5 P), (boot_o_6 P), (boot_o_7 P), (boot_o_8 P), (boot_o_9 P), (boot_o_10 P), (b11 P), (b12 P), (b13 P), (b14 P), (b15 P), (b16 P), (b17 P), (b18 P), (b19 P), (b20 P), (b21 P), (b22 P), (b23 P), (b24 P), (b25 P), (b26 P), (b27 P), (b28 P), (b29 P), (b30 P), (b31 P), (b32 P), (b33 P), (b34 P), (b35 P), (b36 P), (b37 P), (b38 P), (b39 P), (b40 P), (b41 P), (b42 P), (b43 P), (b44 P), (b45 P), (b46 P), (b47 P), (b48 P), (b49 P), (b50 P), (b51 P), (b52 P), (b53 P), (b54 P), (b55 P), (b56 P), (b57 P), (b58 P), (b59 P), (b60 P), (b61 P), (b62 P), (b63 P), (b64 P), (b65 P), (b66 P), (b67 P), (b68 P), (b69 P), (b70 P), (b71 P), (b72 P), (b73 P), (b74 P), (b75 P), (b76 P), (b77 P), (b78 P), (b79 P), (b80 P), (b81 P), (b82 P), (b83 P), (b84 P), (b85 P), (b86 P), (b87 P), (b88 P), (b89 P), (b90 P), (b91 P), (b92 P), (b93 P), (b94 P), (b95 P), (b96 P), (b97 P), (b98 P), (b99 P), (b100 P), (b101 P), (b102 P), (b103 P), (b104 P), (b105 P), (b106 P), (b107 P), (b108 P), (b109 P), (b110 P), (b111 P), (b112 P), (b113 P), (b114 P), (b115 P), (b116 P), (b117 P), (b118 P), (b119 P), (b120 P), (b121 P), (b122 P), (b123 P), (b124 P), (b125 P), (b126 P), (b127 P), (b128 P), (b129 P), (b130 P), (b131 P), (b132 P), (b133 P), (b134 P), (b135 P), (b136 P), (b137 P), (b138 P), (b139 P), (b140 P), (b141 P), (b142 P), (b143 P), (b144 P), (b145 P), (b146 P), (b147 P), (b148 P), (b149 P), (b150 P), (b151 P), (b152 P), (b153 P), (b154 P), (b155 P), (b156 P), (b157 P), (b158 P), (b159 P), (b160 P), (b161 P), (b162 P), (b163 P), (b164 P), (b165 P), (b166 P), (b167 P), (b168 P), (b169 P), (b170 P), (b171 P), (b172 P), (b173 P), (b174 P), (b175 P), (b176 P), (b177 P), (b178 P), (b179 P), (b180 P), (b181 P), (b182 P), (b183 P), (b184 P), (b185 P), (b186 P), (b187 P), (b188 P), (b189 P), (b190 P), (b191 P), (b192 P), (b193 P), (b194 P), (b195 P), (b196 P), (b197 P), (b198 P), (b199 P), (b200 P), (b201 P), (b202 P), (b203 P), (b204 P), (b205 P), (b206 P), (b207 P), (b208 P), (b209 P), (b210 P), (b211 P), (b212 P), (b213 P), (b214 P), (b215 P), (b216 P), (b217 P), (b218 P), (b219 P), (b220 P), (b221 P), (b222 P), (b223 P), (b224 P), (b225 P), (b226 P), (b227 P), (b228 P), (b229 P), (b230 P), (b231 P), (b232 P), (b233 P), (b234 P), (b235 P), (b236 P), (b237 P), (b238 P), (b239 P), (b240 P), (b241 P), (b242 P), (b243 P), (b244 P), (b245 P), (b246 P), (b247 P), (b248 P), (b249 P), (b250 P), (b251 P), (b252 P), (b253 P), (b254 P), (b255 P), (b256 P), (b257 P), (b258 P), (b259 P), (b260 P), (b261 P), (b262 P), (b263 P), (b264 P), (b265 P), (b266 P), (b267 P), (b268 P), (b269 P), (b270 P), (b271 P), (b272 P), (b273 P), (b274 P), (b275 P), (b276 P), (b277 P), (b278 P), (b279 P), (b280 P), (b281 P), (b282 P), (b283 P), (b284 P), (b285 P), (b286 P), (b287 P), (b288 P), (b289 P), (b290 P), (b291 P), (b292 P), (b293 P), (b294 P), (b295 P), (b296 P), (b297 P), (b298 P), (b299 P), (b300 P), (b301 P), (b302 P), (b303 P), (b304 P), (b305 P), (b306 P), (b307 P), (b308 P), (b309 P), (b310 P), (b311 P), (b312 P), (b313 P), (b314 P), (b315 P), (b316 P), (b317 P), (b318 P), (b319 P), (b320 P), (b321 P), (b322 P), (b323 P), (b324 P), (b325 P), (b326 P), (b327 P), (b328 P), (b329 P), (b330 P), (b331 P), (b332 P), (b333 P), (b334 P), (b335 P), (b336 P), (b337 P), (b338 P), (b339 P), (b340 P), (b341 P), (b342 P), (b343 P), (b344 P), (b345 P), (b346 P), (b347 P), (b348 P), (b349 P), (b350 P), (b351 P), (b352 P), (b353 P), (b354 P), (b355 P), (b356 P), (b357 P), (b358 P), (b359 P), (b360 P), (b361 P), (b362 P), (b363 P), (b364 P), (b365 P), (b366 P), (b367 P), (b368 P), (b369 P), (b370 P)]⟩, {}⟩
noncomputable def tree1 (P : Params) : BT := (.node (boot_o_0 P) (.node (boot_o_1 P) (.node (b3 P) (.node (boot_o_7 P) (.node (b15 P) (.node (b31 P) (.node (b63 P) (.node (b127 P) (.node (b255 P) .nil .nil) .nil) (.node (b191 P) (.node (b319 P) .nil .nil) .nil)) (.node (b95 P) (.node (b159 P) (.node (b287 P) .nil .nil) .nil) (.node (b223 P) (.node (b351 P) .nil .nil) .nil))) (.node (b47 P) (.node (b79 P) (.node (b143 P) (.node (b271 P) .nil .nil) .nil) (.node (b207 P) (.node (b335 P) .nil .nil) .nil)) (.node (b111 P) (.node (b175 P) (.node (b303 P) .nil .nil) .nil) (.node (b239 P) (.node (b367 P) .nil .nil) .nil)))) (.node (b23 P) (.node (b39 P) (.node (b71 P) (.node (b135 P) (.node (b263 P) .nil .nil) .nil) (.node (b199 P) (.node (b327 P) .nil .nil) .nil)) (.node (b103 P) (.node (b167 P) (.node (b295 P) .nil .nil) .nil) (.node (b231 P) (.node (b359 P) .nil .nil) .nil))) (.node (b55 P) (.node (b87 P) (.node (b151 P) (.node (b279 P) .nil .nil) .nil) (.node (b215 P) (.node (b343 P) .nil .nil) .nil)) (.node (b119 P) (.node (b183 P) (.node (b311 P) .nil .nil) .nil) (.node (b247 P) .nil .nil))))) (.node (b11 P) (.node (b19 P) (.node (b35 P) (.node (b67 P) (.node (b131 P) (.node (b259 P) .nil .nil) .nil) (.node (b195 P) (.node (b323 P) .nil .nil) .nil)) (.node (b99 P) (.node (b163 P) (.node (b291 P) .nil .nil) .nil) (.node (b227 P) (.node (b355 P) .nil .nil) .nil))) (.node (b51 P) (.node (b83 P) (.node (b147 P) (.node (b275 P) .nil .nil) .nil) (.node (b211 P) (.node (b339 P) .nil .nil) .nil)) (.node (b115 P) (.node (b179 P) (.node (b307 P) .nil .nil) .nil) (.node (b243 P) .nil .nil)))) (.node (b27 P) (.node (b43 P) (.node (b75 P) (.node (b139 P) (.node (b267 P) .nil .nil) .nil) (.node (b203 P) (.node (b331 P) .nil .nil) .nil)) (.node (b107 P) (.node (b171 P) (.node (b299 P) .nil .nil) .nil) (.node (b235 P) (.node (b363 P) .nil .nil) .nil))) (.node (b59 P) (.node (b91 P) (.node (b155 P) (.node (b283 P) .nil .nil) .nil) (.node (b219 P) (.node (b347 P) .nil .nil) .nil)) (.node (b123 P) (.node (b187 P) (.node (b315 P) .nil .nil) .nil) (.node (b251 P) .nil .nil)))))) (.node (boot_o_5 P) (.node (boot_o_9 P) (.node (b17 P) (.node (b33 P) (.node (b65 P) (.node (b129 P) (.node (b257 P) .nil .nil) .nil) (.node (b193 P) (.node (b321 P) .nil .nil) .nil)) (.node (b97 P) (.node (b161 P) (.node (b289 P) .nil .nil) .nil) (.node (b225 P) (.node (b353 P) .nil .nil) .nil))) (.node (b49 P) (.node (b81 P) (.node (b145 P) (.node (b273 P) .nil .nil) .nil) (.node (b209 P) (.node (b337 P) .nil .nil) .nil)) (.node (b113 P) (.node (b177 P) (.node (b305 P) .nil .nil) .nil) (.node (b241 P) (.node (b369 P) .nil .nil) .nil)))) (.node (b25 P) (.node (b41 P) (.node (b73 P) (.node (b137 P) (.node (b265 P) .nil .nil) .nil) (.node (b201 P) (.node (b329 P) .nil .nil) .nil)) (.node (b105 P) (.node (b169 P) (.node (b297 P) .nil .nil) .nil) (.node (b233 P) (.node (b361 P) .nil .nil) .nil))) (.node (b57 P) (.node (b89 P) (.node (b153 P) (.node (b281 P) .nil .nil) .nil) (.node (b217 P) (.node (b345 P) .nil .nil) .nil)) (.node (b121 P) (.node (b185 P) (.node (b313 P) .nil .nil) .nil) (.node (b249 P) .nil .nil))))) (.node (b13 P) (.node (b21 P) (.node (b37 P) (.node (b69 P) (.node (b133 P) (.node (b261 P) .nil .nil) .nil) (.node (b197 P) (.node (b325 P) .nil .nil) .nil)) (.node (b101 P) (.node (b165 P) (.node (b293 P) .nil .nil) .nil) (.node (b229 P) (.node (b357 P) .nil .nil) .nil))) (.node (b53 P) (.node (b85 P) (.node (b149 P) (.node (b277 P) .nil .nil) .nil) (.node (b213 P) (.node (b341 P) .nil .nil) .nil)) (.node (b117 P) (.node (b181 P) (.node (b309 P) .nil .nil) .nil) (.node (b245 P) .nil .nil)))) (.node (b29 P) (.node (b45 P) (.node (b77 P) (.node (b141 P) (.node (b269 P) .nil .nil) .nil) (.node (b205 P) (.node (b333 P) .nil .nil) .nil)) (.node (b109 P) (.node (b173 P) (.node (b301 P) .nil .nil) .nil) (.node (b237 P) (.node (b365 P) .nil .nil) .nil))) (.node (b61 P) (.node (b93 P) (.node (b157 P) (.node (b285 P) .nil .nil) .nil) (.node (b221 P) (.node (b349 P) .nil .nil) .nil)) (.node (b125 P) (.node (b189 P) (.node (b317 P) .nil .nil) .nil) (.node (b253 P) .nil .nil))))))) (.node (b2 P) (.node (boot_o_4 P) (.node (boot_o_8 P) (.node (b16 P) (.node (b32 P) (.node (b64 P) (.node (b128 P) (.node (b256 P) .nil .nil) .nil) (.node (b192 P) (.node (b320 P) .nil .nil) .nil)) (.node (b96 P) (.node (b160 P) (.node (b288 P) .nil .nil) .nil) (.node (b224 P) (.node (b352 P) .nil .nil) .nil))) (.node (b48 P) (.node (b80 P) (.node (b144 P) (.node (b272 P) .nil .nil) .nil) (.node (b208 P) (.node (b336 P) .nil .nil) .nil)) (.node (b112 P) (.node (b176 P) (.node (b304 P) .nil .nil) .nil) (.node (b240 P) (.node (b368 P) .nil .nil) .nil)))) (.node (b24 P) (.node (b40 P) (.node (b72 P) (.node (b136 P) (.node (b264 P) .nil .nil) .nil) (.node (b200 P) (.node (b328 P) .nil .nil) .nil)) (.node (b104 P) (.node (b168 P) (.node (b296 P) .nil .nil) .nil) (.node (b232 P) (.node (b360 P) .nil .nil) .nil))) (.node (b56 P) (.node (b88 P) (.node (b152 P) (.node (b280 P) .nil .nil) .nil) (.node (b216 P) (.node (b344 P) .nil .nil) .nil)) (.node (b120 P) (.node (b184 P) (.node (b312 P) .nil .nil) .nil) (.node (b248 P) .nil .nil))))) (.node (b12 P) (.node (b20 P) (.node (b36 P) (.node (b68 P) (.node (b132 P) (.node (b260 P) .nil .nil) .nil) (.node (b196 P) (.node (b324 P) .nil .nil) .nil)) (.node (b100 P) (.node (b164 P) (.node (b292 P) .nil .nil) .nil) (.node (b228 P) (.node (b356 P) .nil .nil) .nil))) (.node (b52 P) (.node (b84 P) (.node (b148 P) (.node (b276 P) .nil .nil) .nil) (.node (b212 P) (.node (b340 P) .nil .nil) .nil)) (.node (b116 P) (.node (b180 P) (.node (b308 P) .nil .nil) .nil) (.node (b244 P) .nil .nil)))) (.node (b28 P) (.node (b44 P) (.node (b76 P) (.node (b140 P) (.node (b268 P) .nil .nil) .nil) (.node (b204 P) (.node (b332 P) .nil .nil) .nil)) (.node (b108 P) (.node (b172 P) (.node (b300 P) .nil .nil) .nil) (.node (b236 P) (.node (b364 P) .nil .nil) .nil))) (.node (b60 P) (.node (b92 P) (.node (b156 P) (.node (b284 P) .nil .nil) .nil) (.node (b220 P) (.node (b348 P) .nil .nil) .nil)) (.node (b124 P) (.node (b188 P) (.node (b316 P) .nil .nil) .nil) (.node (b252 P) .nil .nil)))))) (.node (boot_o_6 P) (.node (boot_o_10 P) (.node (b18 P) (.node (b34 P) (.node (b66 P) (.node (b130 P) (.node (b258 P) .nil .nil) .nil) (.node (b194 P) (.node (b322 P) .nil .nil) .nil)) (.node (b98 P) (.node (b162 P) (.node (b290 P) .nil .nil) .nil) (.node (b226 P) (.node (b354 P) .nil .nil) .nil))) (.node (b50 P) (.node (b82 P) (.node (b146 P) (.node (b274 P) .nil .nil) .nil) (.node (b210 P) (.node (b338 P) .nil .nil) .nil)) (.node (b114 P) (.node (b178 P) (.node (b306 P) .nil .nil) .nil) (.node (b242 P) (.node (b370 P) .nil .nil) .nil)))) (.node (b26 P) (.node (b42 P) (.node (b74 P) (.node (b138 P) (.node (b266 P) .nil .nil) .nil) (.node (b202 P) (.node (b330 P) .nil .nil) .nil)) (.node (b106 P) (.node (b170 P) (.node (b298 P) .nil .nil) .nil) (.node (b234 P) (.node (b362 P) .nil .nil) .nil))) (.node (b58 P) (.node (b90 P) (.node (b154 P) (.node (b282 P) .nil .nil) .nil) (.node (b218 P) (.node (b346 P) .nil .nil) .nil)) (.node (b122 P) (.node (b186 P) (.node (b314 P) .nil .nil) .nil) (.node (b250 P) .nil .nil))))) (.node (b14 P) (.node (b22 P) (.node (b38 P) (.node (b70 P) (.node (b134 P) (.node (b262 P) .nil .nil) .nil) (.node (b198 P) (.node (b326 P) .nil .nil) .nil)) (.node (b102 P) (.node (b166 P) (.node (b294 P) .nil .nil) .nil) (.node (b230 P) (.node (b358 P) .nil .nil) .nil))) (.node (b54 P) (.node (b86 P) (.node (b150 P) (.node (b278 P) .nil .nil) .nil) (.node (b214 P) (.node (b342 P) .nil .nil) .nil)) (.node (b118 P) (.node (b182 P) (.node (b310 P) .nil .nil) .nil) (.node (b246 P) .nil .nil)))) (.node (b30 P) (.node (b46 P) (.node (b78 P) (.node (b142 P) (.node (b270 P) .nil .nil) .nil) (.node (b206 P) (.node (b334 P) .nil .nil) .nil)) (.node (b110 P) (.node (b174 P) (.node (b302 P) .nil .nil) .nil) (.node (b238 P) (.node (b366 P) .nil .nil) .nil))) (.node (b62 P) (.node (b94 P) (.node (b158 P) (.node (b286 P) .nil .nil) .nil) (.node (b222 P) (.node (b350 P) .nil .nil) .nil)) (.node (b126 P) (.node (b190 P) (.node (b318 P) .nil .nil) .nil) (.node (b254 P) .nil .nil))))))))
noncomputable def st1 (w : World) (os : OsState) : SharedT := ⟨tree1 w.params, 371, {}, Array.mk [], {}, 722, os⟩
noncomputable abbrev pos1 : Pos := { line := 210, col := 0, endLine := 232, endCol := 75 }
abbrev B0 : List Frame := [topFrame default]
theorem pre0 (w : World) (os : OsState) : topGo treeTable PySem.Challenge.pw_rh0227_01 w 11 (some (.ref 6)) 12 ⟨boot_heap w.params, Array.mk [], boot_drawn, boot_toks, os⟩ (topStub PySem.Challenge.pw_rh0227_01) = some ((st0 w os).abs, ⟨denote treeTable cd0, cd0, default, B0⟩) := by
  kernel_rfl
theorem block0 (w : World) (os : OsState) : segRun treeTable PySem.Challenge.pw_rh0227_01 w 11 (some (.ref 6)) 1 1 (st0 w os).abs (blockOf (behindTheImports PySem.Challenge.pw_rh0227_01) env0 cd0 default B0) = some (.next, (st0 w os).abs, cd0, default) := by
  kernel_rfl
theorem size0 (w : World) : ((boot_heap w.params).isNs mainGlobals && (Array.mk [] : Array GenState).size == 0, (boot_heap w.params).objs.size, (boot_heap w.params).nsMap mainGlobals "__annotations__") = (true, 11, some (.ref 6)) := by
  kernel_rfl
theorem body0 (w : World) (os : OsState) : segRunT treeTable PySem.Challenge.pw_rh0227_01 w 11 (some (.ref 6)) 1 2700 (st0 w os) (piecesOf (behindTheImports PySem.Challenge.pw_rh0227_01) env0 cd0 default B0) = some (.next, st1 w os, cd0, pos1) := by
  rw [PySem.W.Fast.te10110043849684766642, PySem.W.Fast.te14364793385576792824]
  kernel_rfl
theorem heap0 (w : World) : absHeap (tree1 w.params) 371 {} = heap1 w.params := by
  kernel_rfl
theorem look1 (w : World) (os : OsState) : (staticsOk (importedModules PySem.Challenge.pw_rh0227_01.main.body) (boot_heap w.params) (heap1 w.params) && namesBound PySem.Challenge.pw_rh0227_01 (heap1 w.params) && gensDone ⟨heap1 w.params, Array.mk [], {}, 722, os⟩ && laidKept (boot_heap w.params) (heap1 w.params)) = true := by
  kernel_rfl
theorem look2 (w : World) (os : OsState) : openSeen view [PySem.Str.ofString "SnobolError", PySem.Str.ofString "plain_count", PySem.Str.ofString "count_node"] (importedModules PySem.Challenge.pw_rh0227_01.main.body) (fun s => xlAt view [] s && recOk (RowW.records (OpenRow.toRowW PySem.Challenge.rw_rh0227_01.row)) s) true ⟨heap1 w.params, Array.mk [], {}, 722, os⟩ = openGood view [PySem.Str.ofString "SnobolError", PySem.Str.ofString "plain_count", PySem.Str.ofString "count_node"] := by
  rw [PySem.W.Fast.te4187177175401517315]
  kernel_rfl
theorem said0 : PySem.Challenge.rw_rh0227_01.wellSaid = true := by
  rw [PySem.W.Fast.te9446332074065402090]
  kernel_rfl
theorem opens0 : opening PySem.Challenge.pw_rh0227_01 = plainProg PySem.Challenge.pw_rh0227_01.main.scope.names := by
  kernel_rfl
theorem left_tree {q : Program} {loose : List PySem.Str} {Xt : Shared → Bool} {α : Type} {Yf : Shared → α} {Ya : World → α} {g0 : Bool}
    (look2 : ∀ (w : World) (os : OsState), openSeen q loose (importedModules PySem.Challenge.pw_rh0227_01.main.body) Xt g0 ⟨heap1 w.params, Array.mk [], {}, 722, os⟩ = openGood q loose)
    (look3 : ∀ (w : World) (os : OsState), Yf ⟨heap1 w.params, Array.mk [], {}, 722, os⟩ = Ya w) : LeftO PySem.Challenge.pw_rh0227_01 q loose Xt Yf Ya 5388 g0 := by
  have ab : ∀ (w : World) (os : OsState), (st1 w os).abs = ⟨heap1 w.params, Array.mk [], {}, 722, os⟩ := fun w os => by
    show Shared.mk (absHeap (tree1 w.params) 371 {}) _ _ _ _ = _
    rw [heap0]
    rfl
  refine LeftO.of_pieces (M := 12 + (1 + (2700 + 2))) (H₀ := boot_heap) (H₁ := heap1) (gs₁ := Array.mk []) (d₁ := {}) (k₁ := 722) (m₀ := 11) (ann := some (.ref 6)) (boot_open opens0 (by decide) (fun s => rfl)) size0 (fun w os => ?_) (by decide) (fun w => ?_)
  · refine go_top (pre0 w os) (piece_block (block0 w os) ?_)
    obtain ⟨a, ha, hN⟩ := seg_top (res := id) (K' := doneF) (H' := leaveH env0) (B := B0) rfl 2700 _ (piecesOf (behindTheImports PySem.Challenge.pw_rh0227_01) env0 cd0 default B0) (restOf (behindTheImports PySem.Challenge.pw_rh0227_01) env0 cd0 default B0) _ _ _ _ ⟨rfl, rfl, .inl ⟨rfl, rfl, _, rfl, rfl⟩⟩ (segRun_of (body0 w os))
    obtain rfl : a = .next := ha
    refine hN 2 _ ?_
    rw [ab]
    kernel_rfl
  · funext os
    exact Prod.ext (look1 w os) (Prod.ext (look2 w os) (look3 w os))
local macro_rules | `(tactic| o_law) => `(tactic| refine holds_law said0 fun said => ?_)
local macro_rules | `(tactic| o_head $H) => do
  let hw := Lean.mkIdent `hw
  let hc := Lean.mkIdent `hc
  `(tactic| (refine holds_open (q := view) (loose := [PySem.Str.ofString "SnobolError", PySem.Str.ofString "plain_count", PySem.Str.ofString "count_node"]) (Xt := fun s => xlAt view [] s && recOk (RowW.records (OpenRow.toRowW PySem.Challenge.rw_rh0227_01.row)) s) (XP := XL view []) (Yf := Hook.obs $H) (Ya := Hook.val $H) (YP := Hook.says $H) (N := 5388) ?hl (Hook.of $H) (Hook.keeps $H) (fun s e => xl_of s (Bool.and_eq_true_iff.mp e).1) XL.keeps (by rfl) (by rfl) (by rfl) (fun s e => recFacts_of (Bool.and_eq_true_iff.mp e).2) (by rfl) (by first | assumption | decide +kernel) (by decide +kernel) ⟨rfl, rfl, rfl, rfl, rfl, by decide +kernel⟩ ?$hw ?$hc; (case hl => exact left_tree look2 (fun w os => by kernel_rfl))))
open_top hd for PySem.Challenge.rw_rh0227_01
end Mine
end

section
open PySem PySem.W PyProof.Rows
namespace Mine

/-- an update that leaves an object's class and dict, and the data of all but records -/
def Mild (f : Obj → Obj) : Prop := ∀ o, (f o).dict = o.dict ∧ (f o).cls = o.cls ∧ ((∀ vs, o.data ≠ .fields vs) → (f o).data = o.data) ∧ ((∃ vs, o.data = .fields vs) → ∃ ws, (f o).data = .fields ws)

/-- a tree that calls nothing and whose updates are mild -/
def Calm {α : Type} : Sem α → Prop
  | .pure _ => True
  | .raise _ => True
  | .unsupported _ => True
  | .finish _ => True
  | .rule _ k => Calm (k ())
  | .at _ k => Calm (k ())
  | .load _ _ k => ∀ o, Calm (k o)
  | .update _ _ f k => Mild f ∧ Calm (k ())
  | .loadIfAlive _ k => ∀ o, Calm (k o)
  | .point _ k => Calm (k ())
  | .alloc _ k => ∀ a, Calm (k a)
  | .fresh k => ∀ t, Calm (k t)
  | .ask k => ∀ x, Calm (k x)
  | .handled _ k => ∀ x, Calm (k x)
  | .stack k => ∀ x, Calm (k x)
  | .register _ _ => True
  | _ => False

/-- every object stays, with its class and its dict; all but records with their data -/
def DK (h h' : Heap) : Prop := ∀ b o, h.get? b = some o → ∃ o', h'.get? b = some o' ∧ o'.dict = o.dict ∧ o'.cls = o.cls ∧ ((∀ vs, o.data ≠ .fields vs) → o'.data = o.data) ∧ ((∃ vs, o.data = .fields vs) → ∃ ws, o'.data = .fields ws)
theorem DK.refl (h : Heap) : DK h h := fun _ o e => ⟨o, e, rfl, rfl, fun _ => rfl, fun x => x⟩
theorem DK.trans {h₁ h₂ h₃ : Heap} (x : DK h₁ h₂) (y : DK h₂ h₃) : DK h₁ h₃ := fun b o e => by
  obtain ⟨o₂, e₂, d₂, c₂, n₂, f₂⟩ := x b o e
  obtain ⟨o₃, e₃, d₃, c₃, n₃, f₃⟩ := y b o₂ e₂
  refine ⟨o₃, e₃, d₃.trans d₂, c₃.trans c₂, fun hn => ?_, fun hf => f₃ (f₂ hf)⟩
  have hd := n₂ hn
  exact (n₃ (by rw [hd]; exact hn)).trans hd
theorem DK.of_keeps {h h' : Heap} (k : ∀ b o, h.get? b = some o → h'.get? b = some o) : DK h h' := fun b o e => ⟨o, k b o e, rfl, rfl, fun _ => rfl, fun x => x⟩
theorem DK.push (h : Heap) (o : Obj) : DK h (h.push o) := .of_keeps fun _ _ e => Heap.get?_push_of_some _ e
theorem freed_of_data {o : Obj} (hd : o.data = .freed) : o.isFreed = true := by
  obtain ⟨c, d, dt, sl⟩ := o
  dsimp only at hd
  subst hd
  rfl
theorem isFreed_data {o o' : Obj} (hd : o'.data = o.data) (hf : o.isFreed = false) : o'.isFreed = false := by
  obtain ⟨c, d, dt, sl⟩ := o
  obtain ⟨c', d', dt', sl'⟩ := o'
  dsimp only at hd
  subst hd
  cases dt' <;> first | rfl | exact hf
theorem Mild.freed {f : Obj → Obj} (m : Mild f) {o : Obj} (hf : o.isFreed = false) : (f o).isFreed = false := by
  obtain ⟨_, _, n, r⟩ := m o
  by_cases q : ∃ vs, o.data = .fields vs
  · obtain ⟨ws, e⟩ := r q
    exact Obj.isFreed_of_fields e
  · exact isFreed_data (n fun vs e => q ⟨vs, e⟩) hf
theorem DK.update {h : Heap} {a : Addr} {f : Obj → Obj} (m : Mild f) : DK h (h.update a f) := fun b o e => by
  by_cases q : a = b
  · subst q
    obtain ⟨d, c, n, r⟩ := m o
    exact ⟨f o, Heap.get?_update_self f e (m.freed (Heap.get?_some_iff.mp e).2), d, c, n, r⟩
  · exact ⟨o, (Heap.get?_update_other h f q).trans e, rfl, rfl, fun _ => rfl, fun x => x⟩

theorem wp_calm {α : Type} (M : Model) (Γ : Ctx) (t : Sem α) : ∀ (Q : α → Pos → Shared → Prop) (E : Value → Pos → Shared → Prop) (p : Pos) (s : Shared), Calm t → Sem.wp M Γ t Q E p s →
    Sem.wp M Γ t (fun a p' s' => Q a p' s' ∧ DK s.heap s'.heap) (fun e p' s' => E e p' s' ∧ DK s.heap s'.heap) p s := by
  induction t with
  | pure a => exact fun Q E p s _ h => ⟨h, DK.refl _⟩
  | raise e => exact fun Q E p s _ h => ⟨h, DK.refl _⟩
  | unsupported | finish | yield | fork | await | register => exact fun Q E p s _ h => h.elim
  | rule _ k ih | «at» _ k ih | point _ k ih => exact fun Q E p s c h => ih _ Q E _ s c h
  | fresh k ih => exact fun Q E p s c h => ih _ Q E _ { s with toks := s.toks + 1 } (c _) h
  | ask k ih | handled _ k ih | stack k ih | loadIfAlive _ k ih => exact fun Q E p s c h => ih _ Q E _ s (c _) h
  | load a _ k ih =>
    intro Q E p s c h
    obtain ⟨o, ho, h⟩ := h
    exact ⟨o, ho, ih o Q E p s (c o) h⟩
  | update a _ f k ih =>
    intro Q E p s c h
    obtain ⟨ha, h⟩ := h
    refine ⟨ha, Sem.wp_mono M Γ _ (fun x p' s' y => ⟨y.1, (DK.update c.1).trans y.2⟩) (fun x p' s' y => ⟨y.1, (DK.update c.1).trans y.2⟩) _ _ (ih () Q E p { s with heap := s.heap.update a f } c.2 h)⟩
  | alloc o k ih =>
    intro Q E p s c h
    exact Sem.wp_mono M Γ _ (fun x p' s' y => ⟨y.1, (DK.push _ _).trans y.2⟩) (fun x p' s' y => ⟨y.1, (DK.push _ _).trans y.2⟩) _ _ (ih _ Q E p { s with heap := s.heap.push o } (c _) h)
  | choose | call | newGen | genState | resume | os | thread => exact fun Q E p s c h => c.elim

theorem wpAny_calm {α : Type} {M : Model} {A : Around} {t : Sem α} {Q : α → Shared → Prop} {E : Value → Shared → Prop} {s : Shared} (c : Calm t) (h : wpAny M A t Q E s) :
    wpAny M A t (fun a s' => Q a s' ∧ DK s.heap s'.heap) (fun e s' => E e s' ∧ DK s.heap s'.heap) s := fun Γ p hΓ => wp_calm M Γ t _ _ p s c (h Γ p hΓ)

theorem calm_bind {α β : Type} {m : Sem α} {f : α → Sem β} (hm : Calm m) (hf : ∀ a, Calm (f a)) : Calm (m >>= f) := by
  show Calm (m.bind f)
  induction m with
  | pure a => exact hf a
  | raise | unsupported | finish | register => trivial
  | rule _ k ih | «at» _ k ih | point _ k ih => exact ih _ hm
  | fresh k ih | ask k ih | handled _ k ih | stack k ih | loadIfAlive _ k ih | load _ _ k ih | alloc _ k ih => exact fun x => ih x (hm x)
  | update _ _ f' k ih => exact ⟨hm.1, ih _ hm.2⟩
  | choose | call | newGen | genState | resume | os | thread | yield | fork | await => exact hm.elim
theorem calm_pure {α : Type} (a : α) : Calm (pure a : Sem α) := trivial
theorem calm_ite {α : Type} {c : Prop} [Decidable c] {a b : Sem α} (ha : Calm a) (hb : Calm b) : Calm (if c then a else b) := by split <;> assumption

theorem mild_mapFields (g : Array Value → Array Value) : Mild (Obj.mapFields g) := fun o => by
  obtain ⟨c, d, dt, sl⟩ := o
  cases dt <;> first
    | (refine ⟨rfl, rfl, fun _ => rfl, fun ⟨vs, e⟩ => ?_⟩; cases e; done)
    | (refine ⟨rfl, rfl, fun n => absurd rfl (n _), fun _ => ⟨_, rfl⟩⟩)
theorem mild_slots (g : Obj → Array (Option Value)) : Mild (fun o => { o with slots := g o }) := fun _ => ⟨rfl, rfl, fun _ => rfl, fun x => x⟩

theorem calm_fieldsOf (v : Value) : Calm (fieldsOf v) := by
  unfold fieldsOf
  split
  · refine calm_bind (m := load _) (fun o => trivial) fun o => ?_
    split <;> trivial
  · trivial
theorem calm_field (v : Value) (i : Nat) : Calm (field v i) := by
  unfold field
  refine calm_bind (calm_fieldsOf v) fun vs => ?_
  split <;> trivial
end Mine
end

section
open PySem PySem.W PyProof.Rows
namespace Mine
theorem calm_setField (v : Value) (i : Nat) (x : Value) : Calm (setField v i x) := by
  unfold setField
  split
  · unfold updateField
    refine calm_bind (m := load _) (fun o => trivial) fun o => ?_
    split
    · refine calm_ite ?_ trivial
      exact ⟨mild_mapFields _, trivial⟩
    · trivial
  · trivial
theorem calm_setFlight (e : Value) (f : Option Addr) : Calm (setFlight e f) := by
  unfold setFlight
  refine calm_bind (calm_field _ _) fun tb => ?_
  exact calm_ite (calm_setField _ _ _) trivial
theorem calm_newFields (ty : String) (vs : List Value) : Calm (newFields ty vs) := by
  have tail : Calm (newObjAsIs (.type ty) (.fields vs.toArray) none) := fun a => trivial
  show Calm (newObj (.type ty) (.fields vs.toArray))
  unfold newObj
  dsimp only
  refine calm_ite ?_ ?_
  · exact calm_bind (m := unsupported _) trivial fun _ => tail
  · first | exact tail | exact calm_bind (calm_pure _) fun _ => tail
theorem calm_frameEnvs : Calm frameEnvs := by
  unfold frameEnvs
  exact calm_bind (m := stack) (fun x => trivial) fun _ => trivial
theorem calm_import (env : Env) (outer : List Env) : Calm (behindIsImport env outer) := by
  unfold behindIsImport
  refine calm_ite trivial ?_
  refine calm_ite trivial ?_
  exact calm_bind (calm_field _ _) fun _ => trivial
theorem calm_kept (env : Env) (b : Bool) (l : List Env) : Calm (keptBack env b l) := by
  unfold keptBack
  cases l with
  | nil =>
    refine calm_ite trivial ?_
    refine calm_bind ?_ fun _ => trivial
    unfold underTheClaimsCaller
    exact calm_bind (m := stack) (fun x => trivial) fun _ => trivial
  | cons => trivial
theorem calm_ready : ∀ l : List Env, Calm (readyFrames l)
  | [] => trivial
  | env :: outer => by
    unfold readyFrames
    cases hf : env.frame with
    | none => trivial
    | some f =>
      refine calm_bind (m := load f) (fun o => trivial) fun o => ?_
      refine calm_ite trivial ?_
      refine calm_bind (calm_import _ _) fun im => ?_
      refine calm_bind (calm_kept _ _ _) fun back => ?_
      exact calm_bind (m := update f _) ⟨mild_slots _, trivial⟩ fun _ => calm_ready outer
theorem calm_frameOf (env : Env) : Calm (PySem.frameOf env) := by
  unfold PySem.frameOf
  refine calm_bind calm_frameEnvs fun l => ?_
  refine calm_bind ?_ fun r => ?_
  · unfold frameObject
    split
    · trivial
    · exact calm_bind (calm_ready _) fun _ => trivial
  · split <;> trivial
theorem calm_entryPlace (f : Addr) (b : Bool) : Calm (entryPlaceOf f b) := by
  unfold entryPlaceOf
  refine calm_bind (m := stack) (fun x => trivial) fun acts => ?_
  split <;> trivial
theorem calm_noteFrame (e : Value) (env : Env) : Calm (noteFrame e env) := by
  unfold noteFrame
  cases hf : env.frame with
  | none => trivial
  | some f =>
    refine calm_bind (calm_field _ _) fun head => ?_
    have tail : Calm (do setField e 1 (← EntryCells.newEntry head (← PySem.frameOf env) .none (rawInt f) .none (← entryPlaceOf f (head != .none)))) := by
      refine calm_bind (calm_frameOf _) fun fr => ?_
      refine calm_bind (calm_entryPlace _ _) fun pl => ?_
      refine calm_bind ?_ fun _ => calm_setField _ _ _
      unfold EntryCells.newEntry
      exact calm_newFields _ _
    refine calm_ite ?_ tail
    refine calm_bind (calm_field _ _) fun x => ?_
    refine calm_ite trivial ?_
    exact calm_bind (calm_setField _ _ _) fun _ => tail
theorem calm_leaving (env : Env) (e : Value) : Calm (leaving env e) := by
  unfold leaving
  exact calm_bind (calm_noteFrame _ _) fun _ => calm_setFlight _ _
end Mine
end

section
open PySem PySem.W PyProof.Rows PySem.Spec PySem.Calls
namespace Mine

/-- the dict od holds the number n -/
def NumAt (od : Obj) (n : Int) : Prop := ∃ es ep tk, od.data = .dict es ep ∧ StrKeys es ∧ nsFind es "number" = some (.int n tk)
/-- the object e is an exception of class C with the dict dx -/
def ExcRec (h : Heap) (e C dx : Addr) : Prop := ∃ oe, h.get? e = some oe ∧ oe.cls = .ref C ∧ oe.dict = some dx ∧ ∃ vs, oe.data = .fields vs
theorem ExcRec.dk {h h' : Heap} {e C dx : Addr} (x : ExcRec h e C dx) (d : DK h h') : ExcRec h' e C dx := by
  obtain ⟨oe, h1, h2, h3, h4⟩ := x
  obtain ⟨o', e1, d1, c1, _, f1⟩ := d e oe h1
  exact ⟨o', e1, c1.trans h2, d1.trans h3, f1 h4⟩

/-- it flies over the frames l, above the ground G, the ledger kept -/
def RaisedD (base G : Heap) (l : List Env) (e C : Addr) (n : Int) (news : List (Addr × Obj)) (h : Heap) : Prop := ∃ dx od, RaisedSN base G l e (.ref C) ((dx, od) :: news) h ∧ ExcRec h e C dx ∧ NumAt od n

theorem mem_frames {env : Env} {outer : List Env} {L b : Addr} (hf : env.frame = some L) (hm : b ∈ (env :: outer).filterMap (·.frame)) : b = L ∨ b ∈ outer.filterMap (·.frame) := by
  rw [List.filterMap_cons, hf] at hm
  exact List.mem_cons.mp hm

section
variable {M : Model} {A : Around} {E : Value → Shared → Prop} {s' : Shared} {base g g₂ h : Heap} {outer : List Env} {L a e C dx : Addr} {m : Str → Option Value} {env : Env} {Q : Unit → Shared → Prop} {news : List (Addr × Obj)} {n : Int} {oe od : Obj}

theorem leave_onD (K : Below A base outer g) (hf : env.frame = some L) (F : Fr g L g₂ m) (R : RaisedD base g₂ (env :: outer) e C n news s'.heap) (hsm : g₂.UpToSlots s'.heap)
    (hQ : ∀ h', RaisedD base g outer e C n news h' → g.UpToSlots h' → Q () { s' with heap := h' }) :
    wpAny M (A.deeper env) (leaving env (.ref e)) Q E s' := by
  obtain ⟨dx, od, ⟨B, a0, hB, hBG, hl, hfl⟩, hx, hn⟩ := R
  refine wpAny_mono (wpAny_calm (calm_leaving _ _) (wpAny_leaves_onW (E := E) (Q := fun _ s₂ => ∃ h', s₂ = { s' with heap := h' } ∧ Heap.FlyingW B outer e (.ref C) a0 h' ∧ s'.heap.UpToSlots h') (Around.frames_deeper K.stack) hf hfl fun h' x1 x2 => ⟨h', rfl, x1, x2⟩)) (fun _ s₂ z => ?_) fun _ _ y => y.1
  obtain ⟨⟨h', rfl, x1, x2⟩, dk⟩ := z
  refine hQ h' ⟨dx, od, ⟨B, a0, hB, fun b o q nm => hBG b o (F.keep b o q) fun hm => ?_, fun q hq => ⟨(hl q hq).1, kts_none F.keep (hl q hq).2.1, (hl q hq).2.2⟩, x1⟩, hx.dk dk, hn⟩ ((Heap.UpToSlots.of_keeps F.keep).trans (hsm.trans x2))
  rcases mem_frames hf hm with z | z
  · rw [z, kts_self F] at q
    cases q
  · exact nm z

theorem hide_fr (F : Fr g L h m) (he : g.get? e = none) (hL : e ≠ L) : Fr g L (h.hide e) m := by
  obtain ⟨oL, es, ep, e1, r⟩ := F.ns
  exact ⟨⟨oL, es, ep, (Heap.hide_ne h (Ne.symm hL)).trans e1, r⟩, fun b o q => (Heap.hide_ne h fun z => by rw [z, he] at q; cases q).trans (F.keep b o q), F.above⟩
theorem hide_news (N : News g L h news) (hn : ∀ p ∈ news, p.1 ≠ e) : News g L (h.hide e) news := fun p hp => ⟨(Heap.hide_ne h (hn p hp)).trans (N p hp).1, (N p hp).2⟩

theorem leave_raiseD (K : Below A base outer g) (hf : env.frame = some L) (hfun : env.scope.kind ≠ .module) (F : Fr g L s'.heap m) (N : News g L s'.heap ((dx, od) :: (e, oe) :: news)) (hne : ∀ p ∈ (dx, od) :: news, p.1 ≠ e)
    (hc : oe.cls = .ref C) (hdx : oe.dict = some dx) {vs : Array Value} {a0 : Value} (hd : oe.data = .fields vs) (h0 : vs[0]? = some a0) (h1 : vs[1]? = some .none) (hn : NumAt od n)
    (hQ : ∀ h', RaisedD base g outer e C n news h' → g.UpToSlots h' → Q () { s' with heap := h' }) :
    wpAny M (A.deeper env) (leaving env (.ref e)) Q E s' := by
  have Ne := N (e, oe) (.tail _ (.head _))
  have F₁ : Fr g L (s'.heap.hide e) m := hide_fr F Ne.2.2 Ne.2.1
  have N₁ : News g L (s'.heap.hide e) ((dx, od) :: news) := hide_news (fun p hp => N p (by rcases List.mem_cons.mp hp with rfl | hp; exact .head _; exact .tail _ (.tail _ hp))) hne
  have up : (s'.heap.hide e).StaysIn s'.heap := fun b o q => Heap.of_hide q
  have bL : base.get? L = none := by
    cases q : base.get? L with
    | none => rfl
    | some o => have := K.stays _ _ q; rw [kts_self F] at this; cases this
  have K' : Below (A.deeper env) base (env :: outer) (s'.heap.hide e) := ⟨Around.frames_deeper K.stack, fun b o q => F₁.keep b o (K.stays b o q), .cons hfun hf F₁.ns bL (K.frames.of_keeps fun b o q _ => ⟨o, F₁.keep b o q, rfl⟩)⟩
  let fs := (env :: outer).filterMap (·.frame)
  let B := hideAll (s'.heap.hide e) fs
  have frameNew : ∀ b ∈ fs, base.get? b = none := fun b hm => (K'.frames.mem hm).1
  have st : base.StaysIn B := fun b o q => hideAll_get _ (K'.stays b o q) fun hm => by rw [frameNew b hm] at q; cases q
  have sg : ∀ b o, g.get? b = some o → b ∉ outer.filterMap (·.frame) → B.get? b = some o := fun b o q nm => hideAll_get _ (F₁.keep b o q) fun hm => by
    rcases mem_frames hf hm with z | z
    · rw [z, kts_self F] at q
      cases q
    · exact nm z
  have hl : ∀ q ∈ (dx, od) :: news, B.get? q.1 = some q.2 ∧ g.get? q.1 = none ∧ base.get? q.1 = none := fun q hq => by
    refine ⟨hideAll_get _ (N₁ q hq).1 fun hm => ?_, (N₁ q hq).2.2, fresh_of_stays K.stays (N₁ q hq).2.2⟩
    rcases mem_frames hf hm with z | z
    · exact (N₁ q hq).2.1 z
    · obtain ⟨o, ho, _⟩ := (K.frames.mem z).2
      rw [(N₁ q hq).2.2] at ho
      cases ho
  have hen : B.get? e = none := by
    cases q : B.get? e with
    | none => rfl
    | some o => have := of_hideAll _ q; rw [Heap.hide_self] at this; cases this
  have fr : B.StaysIn s'.heap := fun b o hb => up b o (of_hideAll _ hb)
  have ff : s'.heap.FunFrames B (env :: outer) := (funFrames_hide K'.frames fun env' he' b hb => List.mem_filterMap.mpr ⟨env', he', hb⟩).of_keeps fun b o hb _ => ⟨o, up b o hb, rfl⟩
  have hx : ExcRec s'.heap e C dx := ⟨oe, Ne.1, hc, hdx, vs, hd⟩
  refine wpAny_mono (wpAny_calm (calm_leaving _ _) (wpAny_leaving_firstW (E := E) (Q := fun _ s₂ => ∃ h', s₂ = { s' with heap := h' } ∧ Heap.LeftW B (env :: outer) e oe.cls a0 s'.heap h') K'.stack ff hf Ne.1 fr hen hd h1 h0 fun h' hL => ⟨h', rfl, hL⟩)) (fun _ s₂ z => ?_) fun _ _ y => y.1
  obtain ⟨⟨h', rfl, k1, ⟨_, _, k2⟩, k3, k4⟩, dk⟩ := z
  rw [hc] at k3
  exact hQ h' ⟨dx, od, ⟨B, a0, st, sg, hl, k1, hen, k2, k3⟩, hx.dk dk, hn⟩ ((Heap.UpToSlots.of_keeps F.keep).trans k4)
end
end Mine
end

section
open PySem PySem.W PyProof.Rows PySem.Spec PySem.Calls
namespace Mine
section
variable {prog : Program} {w : World} {A₀ : Around} {E : Value → Shared → Prop} {s' : Shared} {base g g₀ G : Heap} {outer : List Env} {L a e C : Addr} {m : Str → Option Value} {name : Str} {scope : Scope} {cd : Value}
  {n : Str} {b₀ : Stmt} {suite : List Stmt} {pos np : Pos} {rest : List ExceptHandler} {Q : Flow → Shared → Prop} {news : List (Addr × Obj)} {KF : Frag} {k : Int}
  {p : Program} {loose : List Str} {mean : ExcName → Option Value} {mg mb : Str → Option Value} {x : Str}

/-- «except C as n» takes it -/
theorem caught_D (R : RaisedD base G (envOf name scope L a cd :: outer) e C k news s'.heap) (F : Fr g L G m) (K : Below A₀ base outer g) (hsm : G.UpToSlots s'.heap) (XB : KF.In base) (TB : Top p loose mean mg mb base)
    (D : KtsDicts (outer.filterMap (·.frame)) g)
    (ex : nsIn KF mainGlobals x = some (some (.ref C))) (q : ktsIn KF C "BaseException" = true)
    (kk : ∀ h' g' tk dx od, KtsTurn (outer.filterMap (·.frame)) g g' → Fr g' L h' (fun y => if y = n then some (.ref e) else m y) → News g' L h' ((dx, od) :: news) → ExcRec h' e C dx → NumAt od k → Below A₀ base outer g' → KF.In g' → Top p loose mean mg mb g' → KtsDicts (outer.filterMap (·.frame)) g' →
      wpAny (model prog w) ((A₀.deeper (envOf name scope L a cd)).mark (some (.ref e))) (execs (b₀ :: suite) (envOf name scope L a cd))
        (fun f s₄ => wpAny (model prog w) (A₀.deeper (envOf name scope L a cd)) (do bindName (envOf name scope L a cd) n .none; unbindBehindTheSuite (envOf name scope L a cd) n pos) (fun _ s₅ => Q f s₅) E s₄)
        (AsSuiteRaised (model prog w) ((A₀.deeper (envOf name scope L a cd)).mark (some (.ref e))) (envOf name scope L a cd) n pos (notedBy (model prog w) ((A₀.deeper (envOf name scope L a cd)).mark (some (.ref e))) (envOf name scope L a cd) (cameBackBy (model prog w) (A₀.deeper (envOf name scope L a cd)) (envOf name scope L a cd) E)))
        { s' with heap := h', toks := tk })
    (hk : scope.kind = .function := by rfl) (hlo : (envOf name scope L a cd).kindOf n = some .local := by rfl) (hx : (envOf name scope L a cd).kindOf x = some .globalImplicit := by rfl) (hd : (x == ("__debug__" : Str)) = false := by decide) :
    wpAny (model prog w) (A₀.deeper (envOf name scope L a cd)) (noteFrame (.ref e) (envOf name scope L a cd))
      (fun _ s₂ => wpAny (model prog w) (A₀.deeper (envOf name scope L a cd)) (setFlight (.ref e) none) (fun _ s₃ =>
        wpAny (model prog w) (A₀.deeper (envOf name scope L a cd)) (handleBy (.ref e) (envOf name scope L a cd) (.ExceptHandler (some (.Name x np)) (some n) (b₀ :: suite) pos :: rest)) Q E s₃) E s₂) E s' := by
  obtain ⟨dx, od, ⟨B, a0, hB, hBG, hl, hfl⟩, hxc, hnum⟩ := R
  have hL : B.get? L = none := by
    obtain ⟨_, ⟨L', _, hf, hn', _⟩, _⟩ := hfl.2.2.1
    obtain rfl : L = L' := Option.some.inj hf
    exact hn'
  refine wpAny_mono (wpAny_calm (calm_noteFrame _ _) (wpAny_looks_onW (E := E) (Q := fun _ s₂ => ∃ h', s₂ = { s' with heap := h' } ∧ Heap.HeldW B (envOf name scope L a cd :: outer) e (.ref C) a0 L h' ∧ s'.heap.UpToSlots h') (Around.frames_deeper K.stack) rfl hfl fun h' y1 y2 => ⟨h', rfl, y1, y2⟩)) (fun _ s₂ z => ?_) fun _ _ y => y.1
  obtain ⟨⟨h₄, rfl, held₄, sm₄⟩, dk₄⟩ := z
  refine wpAny_mono (wpAny_calm (calm_setFlight _ _) (wpAny_landsW (E := E) (Q := fun _ s₂ => ∃ h', s₂ = { s' with heap := h' } ∧ Heap.FlyingW B (envOf name scope L a cd :: outer) e (.ref C) a0 h' ∧ h₄.UpToSlots h') held₄ fun h' y1 y2 => ⟨h', rfl, y1, y2⟩)) (fun _ s₂ z => ?_) fun _ _ y => y.1
  obtain ⟨⟨h₅, rfl, fly₅, sm₅'⟩, dk₅⟩ := z
  have sm₅ := sm₄.trans sm₅'
  obtain ⟨g₅, T₅, F₅, K₅⟩ := kts_ground K F hBG fly₅.1 (hsm.trans sm₅)
  have X₅ : KF.In g₅ := XB.keeps K₅.stays
  have P₅ : TopRead p loose mg mb g₅ := topRead_of (TB.keeps K₅.stays)
  obtain ⟨ob, hob, hobc⟩ := fly₅.there
  obtain ⟨nm, q', N, bs, bm, hdct, sn, sub, ab, col, dd, k0, k1, k2, k3, k5, newId, hC, hbase, hbT⟩ := kts_cls X₅ q
  refine wpAny_handleBy_cons (codeAny_handlers_test (name_K F₅ X₅ P₅ ex ?_ hk hx hd)) (by intro q; cases q)
  refine wpAny_excMatches_sub_self (F₅.keep _ _ hC) hob hobc hbase (codeAny_handlers_suite_as ?_)
  refine wpAny_mono (wpAny_calm (calm_setFlight _ _) (lands_againW (Q := fun _ s₂ => ∃ h', s₂ = { s' with heap := h' } ∧ Heap.FlyingW B (envOf name scope L a cd :: outer) e (.ref C) a0 h' ∧ h₅.UpToSlots h') fly₅ fun h' y1 y2 => ⟨h', rfl, y1, y2⟩)) (fun _ s₂ z => ?_) fun _ _ y => y.1
  obtain ⟨⟨h₆, rfl, fly₆, sm₆⟩, dk₆⟩ := z
  obtain ⟨g₆, T₆, F₆, K₆⟩ := kts_ground K F hBG fly₆.1 ((hsm.trans sm₅).trans sm₆)
  have x₆ : ExcRec h₆ e C dx := ((hxc.dk dk₄).dk dk₅).dk dk₆
  have Nl : News g₆ L h₆ ((dx, od) :: news) := fun q hq => ⟨fly₆.1 _ _ (hl q hq).1, (fun z => by have := (hl q hq).1; rw [z, hL] at this; cases this), T₆.none_ _ (kts_none F.keep (hl q hq).2.1)⟩
  have X₆ : KF.In g₆ := XB.keeps K₆.stays
  have P₆ : Top p loose mean mg mb g₆ := TB.keeps K₆.stays
  have D₆ : KtsDicts (outer.filterMap (·.frame)) g₆ := D.turn T₆
  refine wpAny_storeName_local hlo F₆.ns (fun h₇ hn hs => ?_) (by show (scope.kind == .class || (scope.kind == .module && L != mainGlobals)) = false; rw [hk]; rfl)
  have x₇ : ExcRec h₇ e C dx := by
    obtain ⟨oe, h1, h2, h3, vs, h4⟩ := x₆
    have eL : e ≠ L := fun z => by
      obtain ⟨oL, es, ep, e1, e2, _⟩ := F₆.ns
      rw [← z, h1] at e1
      cases e1
      rw [h4] at e2
      cases e2
    exact ⟨oe, (hs.2 e eL).trans h1, h2, h3, vs, h4⟩
  exact kk h₇ g₆ _ dx od T₆ (F₆.set hn hs) (Nl.set hs) x₇ hnum K₆ X₆ P₆ D₆
end
end Mine
end

section
open PySem PySem.W PyProof.Rows PySem.Spec PySem.Calls
set_option maxRecDepth 100000
namespace Mine

abbrev bmX : List Value := [.type "Exception", .type "BaseException", .type "object"]
abbrev excNew (C t : Addr) : Obj := { cls := .ref C, data := .fields #[.ref t, .none, .none, .none, .bool false, .none] }

section
variable {prog : Program} {w : World} {A : Around} {K : Frag} {C fI : Addr} {R : Result → Shared → Prop} {h : Heap} {g : Array GenState} {d : Drawn} {t : Nat} {os : OsState}
variable {nm q : Str} {N : Addr} {bs : List Value} {hdct : Bool} {sn : List Str} {sub : List Value} {ab : Bool} {col : Option Bool} {dd : Option Addr} {k0 k1 k2 k3 k5 : Option Value}

theorem exc_core {rest : List Value} (X : K.In h) (hK : K.lookup C = some (excClassObj nm q C N bs bmX hdct sn sub ab col dd k0 k1 k2 k3 k5 "Exception.__new__"))
    (hi : findIn K (.ref C) "__init__" = some (some (.ref fI))) (hf : typeIn K (.ref fI) = some (.type "function")) (hrest : rest.length ≤ sizeLine)
    (hq : codeAny (model prog w) (A.under (.builtin "type.__call__" ⟨.ref C :: rest, []⟩)) (.call (.ref fI) ⟨.ref (h.objs.size + 1) :: rest, []⟩) (InitBack (h.objs.size + 1) R)
      ⟨(h.push { cls := .type "tuple", data := .seq rest.toArray }).push (excNew C h.objs.size), g, d, t, os⟩) :
    codeAny (model prog w) A (.call (.ref C) ⟨rest, []⟩) R ⟨h, g, d, t, os⟩ := by
  have F := PySem.F.excBase_Exception
  have hC := X _ _ hK
  have f1 := tc_lookup
  have f2 := tc_bind (.ref C)
  have hT : (⟨h, g, d, t, os⟩ : Shared).TypeIs (.ref C) "type" := ⟨_, hC, rfl⟩
  refine codeAny_of_tree ?_
  show wpAny _ _ (callAny (.ref C) _) _ _ _
  repeat (any_goals (first | assumption | with_reducible refine wpAny_loadPart_at hC ?_ | wp_step))
  refine ⟨rfl, ?_⟩
  refine codeAny_call_builtin_at (Code.quiet_builtin _ (by decide +kernel)) entry_typeCall (wpAny_check_type_call_sub hC ?_)
  repeat (first | with_reducible refine wpAny_loadPart_at hC ?_ | with_reducible refine wpAny_madeBy_exc hC ?_ | wp_step)
  refine codeAny_call_builtin_code (Code.quiet_builtin _ F.quiet) (wpAny_check_new_sub F hC ?_)
  refine codeAny_exc_new_sub F hC ?_ hrest
  show wpAny _ _ _ _ _ _
  have up : ∀ b o, h.get? b = some o → ((h.push { cls := .type "tuple", data := .seq rest.toArray }).push (excNew C h.objs.size)).get? b = some o := fun b o e => Heap.get?_push_of_some _ (Heap.get?_push_of_some _ e)
  have hC₁ := up _ _ hC
  have X₁ : K.In ((h.push { cls := .type "tuple", data := .seq rest.toArray }).push (excNew C h.objs.size)) := X.keeps up
  have hget : ((h.push { cls := .type "tuple", data := .seq rest.toArray }).push (excNew C h.objs.size)).get? (h.objs.size + 1) = some (excNew C h.objs.size) := by heap_get
  have hcC : (Value.ref C :: bmX).contains (.ref C) = true := by simp
  have lk1 := looks_findIn (M := model prog w) X₁ hi
  have lk2 := bind_fn (M := model prog w) X₁ (.ref (h.objs.size + 1)) hf
  unfold isInstance
  repeat (first | with_reducible refine wpAny_loadPart_at hget ?_ | (with_reducible refine wpAny_isSubtype_exc hC₁ ?_; rw [hcC]) | wp_step)
  refine wpAny_isSubtype_exc (C := C) hC₁ ?_
  rw [hcC]
  have t1 : Looks (model prog w) ((h.push { cls := .type "tuple", data := .seq rest.toArray }).push (excNew C h.objs.size)) (typeOf (.ref (h.objs.size + 1))) (.ref C) := (Looks.ld hget).andThen .now
  simp only [List.append_eq, List.nil_append, List.singleton_append, Bool.not_true, Bool.false_eq_true, if_false]
  change wpAny _ (A.under (.builtin "type.__call__" ⟨.ref C :: rest, []⟩)) _ _ _ ⟨(h.push { cls := .type "tuple", data := .seq rest.toArray }).push (excNew C h.objs.size), g, d, t, os⟩
  unfold callSpecial? specialOf
  repeat (first | with_reducible refine wpAny_call ?_ | lk)
  refine codeAny_mono hq fun r s' z => ?_
  rcases r with e | (v | _ | _ | _) <;> first | exact z | exact z.elim | skip
  obtain ⟨rfl, z⟩ := z
  exact wpAny_pure (wpAny_pure z)
end
end Mine
end

section
open PySem PySem.W PyProof.Rows PySem.Spec PySem.Calls
set_option maxRecDepth 100000
set_option maxHeartbeats 2000000
namespace Mine
abbrev excObj (C t : Addr) (dx : Option Addr) : Obj := { cls := .ref C, dict := dx, data := .fields #[.ref t, .none, .none, .none, .bool false, .none] }
theorem slot_wd_get : Slot "wrapper_descriptor" "__get__" "wrapper_descriptor.__get__" := .of (owner := "wrapper_descriptor") (n := "__get__") (by rw [typeLookup_type, builtinLookup_eq_fast]; kernel_rfl) (by decide +kernel) (by decide +kernel) (by decide +kernel)
  (by first | exact .inl (by decide +kernel) | exact .inr (by decide +kernel)) (by rw [isSubtype_type]; kernel_rfl)
theorem entry_wd_get : entryFor table "wrapper_descriptor.__get__" = some Builtin.«wrapper_descriptor.__get__» := entryFor_of_tree (by kernel_rfl)
theorem args_wd_get (a b c : Value) : argsOk "wrapper_descriptor.__get__" ⟨[a, b, c], []⟩ := by unfold argsOk; kernel_rfl
theorem ty_exc_init : typeOf (.builtin "Exception.__init__") = pure (.type "wrapper_descriptor") := by show builtinType _ = _; rw [builtinType_eq_fast]; kernel_rfl

section
variable {prog : Program} {w : World} {M : Model} {A : Around} {E : Value → Shared → Prop} {h : Heap} {g : Array GenState} {d : Drawn} {t : Nat} {os : OsState}

theorem super_ga_b {so D x C : Addr} {l₀ l : List Value} {K : Frag} {tk : Tok} {ox : Obj} {Q : Fin → Shared → Prop}
    (hso : h.get? so = some { cls := .type "super", dict := none, data := .fields #[.ref D, .ref x, .ref C], slots := #[] }) (hno : Looks (model prog w) h (opaqueClassAbove (.ref C)) none)
    (hC : Looks (model prog w) h (mroOf (.ref C)) l₀) (hl : (l₀.dropWhile (· != .ref D)).drop 1 = l) (X : K.In h)
    (hf : alongIn K "__init__" l = some (some (.builtin "Exception.__init__"))) (hx : h.get? x = some ox) (hxc : ox.cls = .ref C) (hsub : Looks (model prog w) h (isSubtype (.ref C) (.type "Exception")) true) (hxC : x ≠ C)
    (hq : Q (.done (.ret (.ref h.objs.size))) ⟨h.push { cls := .type "method-wrapper", data := .fields #[.builtin "Exception.__init__", .ref x] }, g, d, t, os⟩) :
    wpAny (model prog w) A (Builtin.«super.__getattribute__» ⟨[.ref so, .str "__init__" tk], []⟩) Q E ⟨h, g, d, t, os⟩ := by
  have hlk := slot_wd_get.lookup
  have hty := ty_exc_init
  have hne : (Value.ref x == Value.ref C) = false := by simp [hxC]
  have hbT : (⟨h, g, d, t, os⟩ : Shared).TypeIs (.builtin "Exception.__init__") "wrapper_descriptor" := by
    exact hty
  have hstr : ".".intercalate ("Exception.__init__".cutAt '.').dropLast = "Exception" := by decide +kernel
  have hdt : ({ cls := .type "super", dict := none, data := .fields #[.ref D, .ref x, .ref C], slots := #[] } : Obj).data = .fields #[.ref D, .ref x, .ref C] := rfl
  have f0 : (#[.ref D, .ref x, .ref C] : Array Value)[0]? = some (.ref D) := rfl
  have f1 : (#[.ref D, .ref x, .ref C] : Array Value)[1]? = some (.ref x) := rfl
  have f2 : (#[.ref D, .ref x, .ref C] : Array Value)[2]? = some (.ref C) := rfl
  unfold Builtin.«super.__getattribute__»
  repeat (first
    | (with_reducible refine wpAny_field hso hdt f0 ?_) | (with_reducible refine wpAny_field hso hdt f1 ?_) | (with_reducible refine wpAny_field hso hdt f2 ?_)
    | (with_reducible refine ks_wpAny_notOpaque hno ?_)
    | (with_reducible refine Looks.at hC ?_; rw [hl])
    | (refine ks_forIn_along X (fun _ _ => rfl) rfl ?_ hf)
    | (with_reducible refine wpAny_call_entry slot_wd_get hbT entry_wd_get ?_ (args_wd_get _ _ _))
    | (with_reducible refine ⟨_, rfl, ?_⟩)
    | (simp only [hne, Bool.or_false, Bool.false_eq_true, if_false])
    | (with_reducible refine wpAny_of_eq hty ?_)
    | (with_reducible refine wpAny_loadPart_at hx ?_; rw [hxc])
    | (with_reducible refine Looks.at hsub ?_)
    | wp_step
    | dsimp only)
  rw [hstr]
  refine Looks.at hsub ?_
  simp only [Bool.not_true, Bool.false_eq_true, if_false]
  unfold newFields
  repeat (first | (with_reducible refine wpAny_newObj_type ?_ (by size_fits)) | (with_reducible refine ⟨_, rfl, ?_⟩) | wp_step | dsimp only)
  all_goals exact hq

theorem ga_method_exc {so D x C : Addr} {l₀ l : List Value} {K : Frag} {pl : Sem Bool} {ox : Obj} {Q : Value × List Value → Shared → Prop}
    (hso : h.get? so = some { cls := .type "super", dict := none, data := .fields #[.ref D, .ref x, .ref C], slots := #[] }) (hno : Looks (model prog w) h (opaqueClassAbove (.ref C)) none)
    (hC : Looks (model prog w) h (mroOf (.ref C)) l₀) (hl : (l₀.dropWhile (· != .ref D)).drop 1 = l) (X : K.In h)
    (hf : alongIn K "__init__" l = some (some (.builtin "Exception.__init__"))) (hx : h.get? x = some ox) (hxc : ox.cls = .ref C) (hsub : Looks (model prog w) h (isSubtype (.ref C) (.type "Exception")) true) (hxC : x ≠ C)
    (hq : Q (.ref h.objs.size, []) ⟨h.push { cls := .type "method-wrapper", data := .fields #[.builtin "Exception.__init__", .ref x] }, g, d, t + 1, os⟩) :
    wpAny (model prog w) A (getMethod (.ref so) "__init__" pl) Q E ⟨h, g, d, t, os⟩ := by
  have hlk := PySem.F.ks_slot_super_ga.lookup
  have hcan := PySem.F.ks_canon_super_ga
  have hT : ∀ t', (⟨h, g, d, t', os⟩ : Shared).TypeIs (.ref so) "super" := fun _ => ⟨_, hso, rfl⟩
  unfold getMethod
  refine wpAny_bind (wpAny_specialOf (hT _) hlk ?_)
  show wpAny _ _ (if (Manifest.canonical "super.__getattribute__" != "object.__getattribute__") = true then _ else _) _ _ _
  rw [if_pos hcan]
  unfold getAttr getAttrBy
  refine wpAny_bind (wpAny_bind (wpAny_mkText (wpAny_holding (wpAny_bind (wpAny_typeOf (hT _) (wpAny_bind (wpAny_of_eq hlk ?_)))))))
  show wpAny _ _ (getAttrByItsOwn (.ref so) (.str "__init__" t) (.type "super") (.builtin "super.__getattribute__") true false) _ _ _
  unfold getAttrByItsOwn hookBefore callGetattribute boundAndCalled
  refine wpAny_bind (wpAny_of_eq (show (if onTheHeap (.type "super") then typeLookup (.type "super") "__getattr__" else pure none) = pure none from rfl) ?_)
  refine wpAny_bind (wpAny_attempt (wpAny_holding ?_))
  show wpAny _ _ (bindSpecial (.builtin "super.__getattribute__") (.ref so) >>= _) _ _ _
  refine wpAny_bind (wpAny_of_eq (PySem.F.ks_slot_super_ga.bind _) ?_)
  refine wpAny_mono (Q := fun v s' => v = .ref h.objs.size ∧ s' = ⟨h.push { cls := .type "method-wrapper", data := .fields #[.builtin "Exception.__init__", .ref x] }, g, d, t + 1, os⟩) (E := fun _ _ => False)
    (wpAny_call_entry PySem.F.ks_slot_super_ga (hT _) PySem.F.ks_entry_super_ga (super_ga_b hso hno hC hl X hf hx hxc hsub hxC ⟨_, rfl, rfl, rfl⟩) (PySem.F.ks_gaArgs_super _ _)) (fun v s' hv => ?_) fun _ _ z => z.elim
  obtain ⟨rfl, rfl⟩ := hv
  exact wpAny_pure (wpAny_pure hq)

variable {nm q : Str} {N : Addr} {bs : List Value} {hdct : Bool} {sn : List Str} {sub : List Value} {ab : Bool} {col : Option Bool} {dd : Option Addr} {k0 k1 k2 k3 k5 : Option Value}
/-- the call of the method wrapper of Exception.__init__ lays the arguments anew -/
theorem call_init_wrapper {mw x C t1 : Addr} {dx : Option Addr} {rest : List Value} {Q : Value → Shared → Prop}
    (hC : h.get? C = some (excClassObj nm q C N bs bmX hdct sn sub ab col dd k0 k1 k2 k3 k5 "Exception.__new__"))
    (hmw : h.get? mw = some { cls := .type "method-wrapper", data := .fields #[.builtin "Exception.__init__", .ref x] }) (hx : h.get? x = some (excObj C t1 dx))
    (hq : ∀ h', h'.get? x = some (excObj C h.objs.size dx) → (∀ b o, b ≠ x → h.get? b = some o → h'.get? b = some o) → Q .none ⟨h', g, d, t, os⟩) (hrest : rest.length ≤ sizeLine) :
    wpAny (model prog w) A (call (.ref mw) rest) Q E ⟨h, g, d, t, os⟩ := by
  have F := PySem.F.excBase_Exception
  have hshort := F.noStar
  have hpl := F.init.plain
  refine wpAny_call (codeAny_of_tree ?_)
  show wpAny _ _ (callAny (.ref mw) _) _ _ _
  unfold callAny
  refine wpAny_bind (wpAny_load hmw ?_)
  show wpAny _ _ (do checkBoundCall "Exception.__init__" ⟨.ref x :: rest, []⟩; again (.builtin "Exception.__init__" ⟨.ref x :: rest, []⟩)) _ _ _
  refine wpAny_bind ?_
  simp only [checkBoundCall, F.initRow, F.initKind]
  rw [if_pos (by decide)]
  repeat (first | with_reducible refine wpAny_loadPart_at hx ?_ | with_reducible refine wpAny_loadPart_at hC ?_ | wp_step)
  refine wpAny_onRaise ?_
  rw [show ∀ (a b : String) (n : Nat), Bind.check ⟨.positional, "*", "Exception", .self, [⟨"args", .varPos, false⟩]⟩ a b n (List.map (fun x => x.fst) ({ pos := Value.ref x :: rest } : Args).kw) = pure () from
    fun a b n => check_star_args _ _ _ _ _ _]
  refine wpAny_pure (wpAny_pure ⟨plainId_quiet hpl _, codeAny_builtin F.initEntry ?_⟩)
  rw [Around.under_plainId hpl _]
  unfold Builtin.«BaseException.__init__»
  wp_walk
  have hx₁ : (h.push { cls := .type "tuple", data := .seq rest.toArray }).get? x = some (excObj C t1 dx) := Heap.get?_push_of_some _ hx
  exact hq _ (Heap.get?_update_self _ hx₁ rfl) fun b o hb e => (Heap.get?_update_other _ _ (Ne.symm hb)).trans (Heap.get?_push_of_some _ e)
end
end Mine
end

section
open PySem PySem.W PyProof.Rows PySem.Spec PySem.Calls
open Builtin Builtin.ObjectAttr
set_option maxRecDepth 100000
set_option maxHeartbeats 4000000
namespace Mine
section
variable {prog : Program} {w : World} {A : Around} {E : Value → Shared → Prop} {s : Shared} {K : Frag}
variable {nm q : PySem.Str} {C N e dx : Addr} {bs : List Value} {sn : List PySem.Str} {sub : List Value} {ab : Bool} {col : Option Bool} {dd : Option Addr} {k0 k1 k2 k3 k5 : Option Value}
  {name : PySem.Str} {v : Value} {o : Obj} {od : Option Obj} {mA : PySem.Str → Option Value}

theorem store_open {Q : Unit → Shared → Prop} (X : K.In s.heap) (hK : K.lookup C = some (excClassObj nm q C N bs bmX true sn sub ab col dd k0 k1 k2 k3 k5 "Exception.__new__"))
    (hs : findIn K (.ref C) "__setattr__" = some (some (.builtin "object.__setattr__"))) (ha : findIn K (.ref C) name = some none) (I : InstAt s.heap e o C od)
    (h : wpAny (model prog w) A.in1 (ownDictForStores (.ref e) >>= fun r => match r with | some d => storeInDict d (.str name s.toks) name v | none => noDictFor (.ref e) (.ref C) name false)
      (fun fin s' => match fin with | .done f => (match f with | .ret _ => Q () s' | _ => False) | .again c' => c'.quiet = true ∧ codeAny (model prog w) A c' (fun r s' => match r with | .ok (.ret _) => Q () s' | .ok _ => False | .error e => E e s') s') (fun e s' => E e s') { s with toks := s.toks + 1 }) :
    wpAny (model prog w) A (setAttr (.ref e) name v) Q E s := by
  have SF := PySem.F.store_Exception
  have hc : clsIn K C = some { name := nm, bases := bs, mro := .ref C :: bmX, ns := N, qualname := q, hasDict := true, slotNames := sn, subclasses := sub, abstract := ab, collection := col, hasDel := false } := by unfold clsIn; rw [hK]
  have hm : Looks (model prog w) s.heap (mroOf (.ref C)) (.ref C :: bmX) := (looks_clsIn X hc).andThen .now
  have sub' : Looks (model prog w) s.heap (isInstance (.ref e) (.type "object")) true := I.type.andThen (looks_mroIn X (by unfold mroIn; rw [hc]; rfl))
  refine set_plain X I hs ?_
  refine codeAny_call_builtin SF.slot.plain SF.entry (@check_slot (model prog w) _ _ { s with toks := s.toks + 1 } "object.__setattr__" "object" "__setattr__" (.ref e) [.str name s.toks, v] [] _ SF.kind SF.split sub' (SF.args _ _ _) ?_)
  rw [osa_eq, refuse_eq]
  refine wpAny_bind (wpAny_bind (Looks.here (s := { s with toks := s.toks + 1 }) I.type (wpAny_bind (Looks.here (s := { s with toks := s.toks + 1 }) hm ?_))))
  rw [refuseLoop_ref, SF.passes]
  refine wpAny_pure (wpAny_bind (Looks.here (s := { s with toks := s.toks + 1 }) I.type (wpAny_bind (Looks.here (s := { s with toks := s.toks + 1 }) (looks_findIn X ha) (wpAny_bind (wpAny_pure ?_))))))
  show wpAny _ _ (storeInOwnDict (.ref e) (.ref C) (.str name s.toks) name v false) _ _ _
  unfold storeInOwnDict ownStreamTells
  exact wpAny_bind (wpAny_pure (wpAny_mono h (fun fin s' z => by
    cases fin with
    | done f => cases f <;> exact z
    | again c' => exact z) fun _ _ z => z))

/-- the first field of an exception: its dict is made, at the heap's end -/
theorem store_first {Q : Unit → Shared → Prop} (X : K.In s.heap) (hK : K.lookup C = some (excClassObj nm q C N bs bmX true sn sub ab col dd k0 k1 k2 k3 k5 "Exception.__new__"))
    (hs : findIn K (.ref C) "__setattr__" = some (some (.builtin "object.__setattr__"))) (ha : findIn K (.ref C) name = some none) (I : InstAt s.heap e o C none) (hdn : o.dict = none)
    (hq : ∀ h' tk', h'.get? e = some { o with dict := some s.heap.objs.size } → h'.Ns1 s.heap.objs.size (fun y => if y = name then some v else none) →
      (∀ b ob, b ≠ e → s.heap.get? b = some ob → h'.get? b = some ob) → Q () { s with heap := h', toks := tk' }) :
    wpAny (model prog w) A (setAttr (.ref e) name v) Q E s := by
  refine store_open X hK hs ha I ?_
  obtain ⟨h, g, d, t, os⟩ := s
  have hC := X _ _ hK
  have hx := I.at_
  have hcl := I.cls
  have hnc := I.no
  obtain ⟨oc, odi, odt, osl⟩ := o
  dsimp only at hcl hdn hx
  subst hcl hdn
  have hx₁ : (h.push { cls := .type "dict", data := .dict #[] }).get? e = some ⟨.ref C, none, odt, osl⟩ := Heap.get?_push_of_some _ hx
  have hes : e ≠ h.objs.size := Nat.ne_of_lt (Heap.lt_size hx)
  unfold ownDictForStores instanceDict
  refine wpAny_bind (wpAny_bind (wpAny_loadPart hx ?_))
  dsimp only
  refine wpAny_bind ?_
  unfold classData
  refine wpAny_bind (wpAny_load hC (wpAny_pure ?_))
  dsimp only
  simp only [Bool.not_true, Bool.false_eq_true, if_false, typeHasDict, Bool.or_self]
  have tail : wpAny (model prog w) A.in1 (do
      let d ← alloc { cls := .type "dict", data := .dict #[] }
      update e fun o => { o with dict := some d }
      dictMade (.ref C) e d) (fun r s' => wpAny (model prog w) A.in1 (match r with | some d => storeInDict d (.str name t) name v | none => noDictFor (.ref e) (.ref C) name false)
      (fun fin s' => match fin with | .done f => (match f with | .ret _ => Q () s' | _ => False) | .again c' => c'.quiet = true ∧ codeAny (model prog w) A c' (fun r s' => match r with | .ok (.ret _) => Q () s' | .ok _ => False | .error e => E e s') s') (fun e s' => E e s') s') (fun e s' => E e s') ⟨h, g, d, t + 1, os⟩ := by
    refine wpAny_bind (wpAny_alloc (wpAny_bind (wpAny_update hx₁ (wpAny_pure ?_))))
    have hgd : ((h.push { cls := .type "dict", data := .dict #[] }).update e fun o => { o with dict := some h.objs.size }).get? h.objs.size = some { cls := .type "dict", data := .dict #[] } :=
      (Heap.get?_update_ne _ _ _ _ hes.symm).trans (Heap.get?_push_at rfl rfl)
    have hnd : ((h.push { cls := .type "dict", data := .dict #[] }).update e fun o => { o with dict := some h.objs.size }).Ns h.objs.size (fun _ => none) :=
      ⟨_, #[], _, hgd, rfl, fun e he => absurd he (by simp), fun _ => rfl⟩
    show wpAny _ _ (storeInDict h.objs.size (.str name t) name v) _ _ _
    unfold storeInDict newKeyGuard
    refine wpAny_bind (wpAny_pure (wpAny_bind (wpAny_nsSet1 (Heap.Ns1.of_empty hnd) fun h' hn' hs => ?_)))
    obtain ⟨oD, esD, epD, hoD, hdD, hcD⟩ := hn'.count (Within.cons name v Within.nil)
    refine wpAny_bind (wpAny_lookBehind hoD (by rw [hdD]; exact pastItsLine_dict (Nat.le_trans hcD (by rw [List.length_cons, List.length_nil, sizeLine_eq]; omega))) (wpAny_pure ?_))
    refine hq h' _ ((hs.2 e hes).trans (Heap.get?_update_self _ hx₁ ?_)) hn' fun b ob hb eb => (hs.2 b (Nat.ne_of_lt (Heap.lt_size eb))).trans ((Heap.get?_update_ne _ _ _ _ hb).trans (Heap.get?_push_of_some _ eb))
    have hfr := (Heap.get?_some_iff.mp hx).2
    cases odt <;> first | rfl | exact hfr
  cases odt <;> first | exact tail | exact absurd hnc (by decide) | (simp only [notCls, Bool.false_eq_true] at hnc)

/-- a later field of an exception -/
theorem store_later {Q : Unit → Shared → Prop} {ns : List PySem.Str} (X : K.In s.heap) (hK : K.lookup C = some (excClassObj nm q C N bs bmX true sn sub ab col dd k0 k1 k2 k3 k5 "Exception.__new__"))
    (hs : findIn K (.ref C) "__setattr__" = some (some (.builtin "object.__setattr__"))) (ha : findIn K (.ref C) name = some none) (I : InstAt s.heap e o C od) (hdn : o.dict = some dx) (hns : s.heap.Ns1 dx mA)
    (hw : Within mA ns) (hz : ns.length ≤ 1000)
    (hq : ∀ h' tk', h'.Ns1 dx (fun y => if y = name then some v else mA y) → (∀ b ob, b ≠ dx → s.heap.get? b = some ob → h'.get? b = some ob) → Q () { s with heap := h', toks := tk' }) :
    wpAny (model prog w) A (setAttr (.ref e) name v) Q E s := by
  refine store_open X hK hs ha I ?_
  obtain ⟨h, g, d, t, os⟩ := s
  have hC := X _ _ hK
  have hx := I.at_
  have hcl := I.cls
  obtain ⟨oc, odi, odt, osl⟩ := o
  dsimp only at hcl hdn hx
  subst hcl hdn
  unfold ownDictForStores instanceDict
  refine wpAny_bind (wpAny_bind (wpAny_loadPart hx ?_))
  dsimp only
  refine wpAny_bind ?_
  unfold classData
  refine wpAny_bind (wpAny_load hC (wpAny_pure ?_))
  dsimp only
  simp only [Bool.not_true, Bool.false_eq_true, if_false]
  refine wpAny_pure ?_
  show wpAny _ _ (storeInDict dx (.str name t) name v) _ _ _
  unfold storeInDict newKeyGuard
  refine wpAny_bind (wpAny_pure (wpAny_bind (wpAny_nsSet1 hns fun h' hn' hs => ?_)))
  obtain ⟨oD, esD, epD, hoD, hdD, hcD⟩ := hn'.count (Within.cons name v hw)
  refine wpAny_bind (wpAny_lookBehind hoD (by rw [hdD]; exact pastItsLine_dict (Nat.le_trans hcD (by rw [List.length_cons, sizeLine_eq]; omega))) (wpAny_pure ?_))
  exact hq h' _ hn' fun b ob hb eb => (hs.2 b hb).trans eb
end
end Mine
end

section
open PySem PySem.W PyProof.Rows PySem.Spec PySem.Calls
set_option maxRecDepth 100000
set_option maxHeartbeats 4000000
namespace Mine
abbrev mwObj (x : Addr) : Obj := { cls := .type "method-wrapper", data := .fields #[.builtin "Exception.__init__", .ref x] }
theorem inst_exc {h : Heap} {e C t : Addr} (he : h.get? e = some (excObj C t none)) : InstAt h e (excObj C t none) C none := ⟨he, rfl, rfl, trivial⟩
section
variable {prog : Program} {w : World} {A : Around} {E : Value → Shared → Prop} {s : Shared} {K : Frag} {h₀ : Heap} {L : Addr} {m : PySem.Str → Option Value} {news : List (Addr × Obj)}
variable {nm q : PySem.Str} {C N e dx so D t mw : Addr} {bs : List Value} {sn : List PySem.Str} {sub : List Value} {ab : Bool} {col : Option Bool} {dd : Option Addr} {k0 k1 k2 k3 k5 : Option Value} {env : Env}

theorem super_meth_K {pl : Sem Bool} {Q : Value × List Value → Shared → Prop} (F : Fr h₀ L s.heap m) (X₀ : K.In h₀) (Nw : News h₀ L s.heap news) (hso : (so, ks_superObj D e C) ∈ news) (he : (e, excObj C t none) ∈ news)
    (hK : K.lookup C = some (excClassObj nm q C N bs bmX true sn sub ab col dd k0 k1 k2 k3 k5 "Exception.__new__")) (ho : nsIn K cStatics "thirdparty.any" = some none)
    (hm : ks_superIn K C D "__init__" = some (some (.builtin "Exception.__init__")))
    (h : ∀ mw h', Fr h₀ L h' m → News h₀ L h' ((mw, mwObj e) :: news) → (∀ p ∈ news, p.1 < mw) → Q (.ref mw, []) { s with heap := h', toks := s.toks + 1 }) :
    wpAny (model prog w) A (getMethod (.ref so) "__init__" pl) Q E s := by
  have X : K.In s.heap := X₀.keeps F.keep
  obtain ⟨hh, g, d, tt, os⟩ := s
  have hc : clsIn K C = some { name := nm, bases := bs, mro := .ref C :: bmX, ns := N, qualname := q, hasDict := true, slotNames := sn, subclasses := sub, abstract := ab, collection := col, hasDel := false } := by unfold clsIn; rw [hK]
  have hmro : Looks (model prog w) hh (mroOf (.ref C)) (.ref C :: bmX) := (looks_clsIn X hc).andThen .now
  unfold ks_superIn at hm
  rw [hc] at hm
  have hsub : Looks (model prog w) hh (isSubtype (.ref C) (.type "Exception")) true := looks_mroIn X (by unfold mroIn; rw [hc]; rfl)
  have hxC : e ≠ C := fun z => by
    have e1 := (Nw _ he).1
    rw [z, X _ _ hK] at e1
    cases e1
  refine ga_method_exc (Nw _ hso).1 (looks_opaque X ho) hmro rfl X hm (Nw _ he).1 rfl hsub hxC ?_
  exact h hh.objs.size _ (F.push _) (Nw.push F _) fun p hp => Heap.lt_size (Nw p hp).1

theorem callWith_W {pos : Pos} {ex : Expr} {rest : List Expr} {Q : Value → Shared → Prop}
    (h : wpAny (model prog w) A (spliced (backTo pos (starEach (ex :: rest) env))) (fun vs s₁ => s₁.heap.get? mw = some (mwObj e) ∧ wpAny (model prog w) A (call (.ref mw) ([] ++ vs)) Q E s₁) E s)
    (hs : starEach (ex :: rest) env = (false, eval ex env) :: starEach rest env := by rfl) (hplain : (backTo pos (starEach rest env)).any (·.1) = false := by rfl) :
    wpAny (model prog w) A (callWith pos (.ref mw) [] (backTo pos (starEach (ex :: rest) env)) []) Q E s := by
  rw [hs] at h ⊢
  exact callWith_of (by show ((false || (backTo pos (starEach rest env)).any (·.1)) || false) = false; rw [hplain]; rfl)
    (fun hp (Y : hp.get? mw = some (mwObj e)) => ⟨.machine, .inr (.inl rfl), (Looks.ld (part := none) Y).andThen .now⟩) (evalArgs_plain h)

theorem init_wrap_K {rest : List Value} {Q : Value → Shared → Prop} (F : Fr h₀ L s.heap m) (X₀ : K.In h₀) (Nw : News h₀ L s.heap ((mw, mwObj e) :: (e, excObj C t none) :: news)) (hl : ∀ p ∈ news, p.1 < e)
    (hK : K.lookup C = some (excClassObj nm q C N bs bmX true sn sub ab col dd k0 k1 k2 k3 k5 "Exception.__new__")) (hrest : rest.length ≤ sizeLine)
    (h : ∀ t' h', Fr h₀ L h' m → News h₀ L h' ((e, excObj C t' none) :: news) → Q .none { s with heap := h' }) :
    wpAny (model prog w) A (call (.ref mw) rest) Q E s := by
  have X : K.In s.heap := X₀.keeps F.keep
  obtain ⟨hh, g, d, tt, os⟩ := s
  have Ne := Nw _ (.tail _ (.head _))
  refine call_init_wrapper (X _ _ hK) (Nw _ (.head _)).1 Ne.1 (fun h' e1 e2 => ?_) hrest
  obtain ⟨oL, es, ep, hL, r⟩ := F.ns
  refine h hh.objs.size h' ⟨⟨oL, es, ep, e2 L oL (Ne.2.1).symm hL, r⟩, fun b o eb => e2 b o (fun z => by have := Ne.2.2; rw [← z, eb] at this; cases this) (F.keep b o eb), F.above⟩ fun p hp => ?_
  rcases List.mem_cons.mp hp with rfl | hp
  · exact ⟨e1, Ne.2⟩
  · have n := Nw p (.tail _ (.tail _ hp))
    exact ⟨e2 _ _ (Nat.ne_of_lt (hl p hp)) n.1, n.2⟩

theorem store_first_K {name : PySem.Str} {v : Value} {Q : Unit → Shared → Prop} (F : Fr h₀ L s.heap m) (X₀ : K.In h₀) (Nw : News h₀ L s.heap ((e, excObj C t none) :: news)) (hl : ∀ p ∈ news, p.1 < e)
    (hK : K.lookup C = some (excClassObj nm q C N bs bmX true sn sub ab col dd k0 k1 k2 k3 k5 "Exception.__new__"))
    (hs : findIn K (.ref C) "__setattr__" = some (some (.builtin "object.__setattr__"))) (ha : findIn K (.ref C) name = some none)
    (h : ∀ dx od h' tk, Fr h₀ L h' m → News h₀ L h' ((dx, od) :: (e, excObj C t (some dx)) :: news) → h'.Ns1 dx (fun y => if y = name then some v else none) → e < dx → Q () { s with heap := h', toks := tk }) :
    wpAny (model prog w) A (setAttr (.ref e) name v) Q E s := by
  have X : K.In s.heap := X₀.keeps F.keep
  have Ne := Nw _ (.head _)
  refine store_first X hK hs ha (inst_exc Ne.1) rfl fun h' tk' e1 hn e2 => ?_
  obtain ⟨oL, es, ep, hL, r⟩ := F.ns
  obtain ⟨od, es', ep', hod, r'⟩ := id hn
  refine h s.heap.objs.size od h' tk' ⟨⟨oL, es, ep, e2 L oL (Ne.2.1).symm hL, r⟩, fun b o eb => e2 b o (fun z => by have := Ne.2.2; rw [← z, eb] at this; cases this) (F.keep b o eb), F.above⟩ (fun p hp => ?_) hn (Heap.lt_size Ne.1)
  rcases List.mem_cons.mp hp with rfl | hp
  · refine ⟨hod, fun z => absurd (Heap.lt_size hL) (by rw [← z]; exact Nat.lt_irrefl _), ?_⟩
    cases z : h₀.get? s.heap.objs.size with
    | none => rfl
    | some o => exact absurd (Heap.lt_size (F.keep _ _ z)) (Nat.lt_irrefl _)
  · rcases List.mem_cons.mp hp with rfl | hp
    · exact ⟨e1, Ne.2⟩
    · have n := Nw p (.tail _ hp)
      exact ⟨e2 _ _ (Nat.ne_of_lt (hl p hp)) n.1, n.2⟩

theorem store_later_K {name : PySem.Str} {v : Value} {od : Obj} {mA : PySem.Str → Option Value} {ns : List PySem.Str} {Q : Unit → Shared → Prop} (F : Fr h₀ L s.heap m) (X₀ : K.In h₀) (Nw : News h₀ L s.heap ((dx, od) :: (e, excObj C t (some dx)) :: news)) (hl : ∀ p ∈ news, p.1 < e) (hed : e < dx)
    (hK : K.lookup C = some (excClassObj nm q C N bs bmX true sn sub ab col dd k0 k1 k2 k3 k5 "Exception.__new__"))
    (hs : findIn K (.ref C) "__setattr__" = some (some (.builtin "object.__setattr__"))) (ha : findIn K (.ref C) name = some none) (hn : s.heap.Ns1 dx mA) (hw : Within mA ns) (hz : ns.length ≤ 1000)
    (h : ∀ od h' tk, Fr h₀ L h' m → News h₀ L h' ((dx, od) :: (e, excObj C t (some dx)) :: news) → h'.Ns1 dx (fun y => if y = name then some v else mA y) → Q () { s with heap := h', toks := tk }) :
    wpAny (model prog w) A (setAttr (.ref e) name v) Q E s := by
  have X : K.In s.heap := X₀.keeps F.keep
  have Nd := Nw _ (.head _)
  have Ne := Nw _ (.tail _ (.head _))
  refine store_later X hK hs ha (od := some od) ⟨Ne.1, rfl, rfl, Nd.1⟩ rfl hn hw hz fun h' tk' hn' e2 => ?_
  obtain ⟨oL, es, ep, hL, r⟩ := F.ns
  obtain ⟨od', es', ep', hod, r'⟩ := id hn'
  refine h od' h' tk' ⟨⟨oL, es, ep, e2 L oL (Nd.2.1).symm hL, r⟩, fun b o eb => e2 b o (fun z => by have := Nd.2.2; rw [← z, eb] at this; cases this) (F.keep b o eb), F.above⟩ (fun p hp => ?_) hn'
  rcases List.mem_cons.mp hp with rfl | hp
  · exact ⟨hod, Nd.2⟩
  · have n := Nw p (.tail _ hp)
    refine ⟨e2 _ _ (fun z => ?_) n.1, n.2⟩
    rcases List.mem_cons.mp hp with rfl | hp
    · exact absurd hed (by rw [← z]; exact Nat.lt_irrefl _)
    · exact absurd (Nat.lt_trans (hl p hp) hed) (by rw [z]; exact Nat.lt_irrefl _)
theorem num_of_ns {h : Heap} {dx : Addr} {od : Obj} {mA : PySem.Str → Option Value} {n : Int} {tk : Tok} (hd : h.get? dx = some od) (hn : h.Ns1 dx mA) (e : mA "number" = some (.int n tk)) : NumAt od n := by
  obtain ⟨o, es, ep, e1, e2, e3, _, e4⟩ := hn
  rw [hd] at e1
  cases e1
  exact ⟨es, ep, tk, e2, e3, (e4 _).trans e⟩
end
end Mine
end

section
open PySem PySem.W PyProof.Rows PySem.Spec PySem.Calls
set_option maxRecDepth 100000
set_option maxHeartbeats 8000000
namespace Mine
theorem top_RhExcG : True := by
  w_top off
  exact True.intro
theorem call_exc {prog : Program} {w : World} {A : Around} {E : Value → Shared → Prop} {s : Shared} {K : Frag} {C fI L : Addr} {h₀ : Heap} {m : PySem.Str → Option Value} {news : List (Addr × Obj)} {Q : Value → Shared → Prop} {rest : List Value}
    {nm q : PySem.Str} {N : Addr} {bs : List Value} {hdct : Bool} {sn : List PySem.Str} {sub : List Value} {ab : Bool} {col : Option Bool} {dd : Option Addr} {k0 k1 k2 k3 k5 : Option Value}
    (F : Fr h₀ L s.heap m) (X₀ : K.In h₀) (Nw : News h₀ L s.heap news)
    (hK : K.lookup C = some (excClassObj nm q C N bs bmX hdct sn sub ab col dd k0 k1 k2 k3 k5 "Exception.__new__"))
    (hi : findIn K (.ref C) "__init__" = some (some (.ref fI))) (hf : typeIn K (.ref fI) = some (.type "function")) (hrest : rest.length ≤ sizeLine)
    (h : ∀ e t h', Fr h₀ L h' m → News h₀ L h' ((e, excObj C t none) :: news) → (∀ p ∈ news, p.1 < e) →
      codeAny (model prog w) (A.under (.builtin "type.__call__" ⟨.ref C :: rest, []⟩)) (.call (.ref fI) ⟨.ref e :: rest, []⟩) (InitBack e fun r s' => match r with | .ok (.ret v) => Q v s' | .ok _ => False | .error x => E x s') { s with heap := h' }) :
    wpAny (model prog w) A (call (.ref C) rest) Q E s := by
  obtain ⟨hh, g, d, t, os⟩ := s
  refine wpAny_call (exc_core (X₀.keeps F.keep) hK hi hf hrest ?_)
  have N₂ := (Nw.push F { cls := .type "tuple", data := .seq rest.toArray }).push (F.push _) (excNew C hh.objs.size)
  rw [Heap.size_push] at N₂
  exact h (hh.objs.size + 1) hh.objs.size _ ((F.push _).push _) (fun p hp => N₂ p (by rcases List.mem_cons.mp hp with rfl | hp; exact .head _; exact .tail _ (.tail _ hp))) fun p hp => Nat.lt_succ_of_lt (Heap.lt_size (Nw p hp).1)

local macro_rules | `(tactic| k_room) => `(tactic| ktr_room)
local macro_rules | `(tactic| k_inst) => `(tactic| exact InstAt.mk (News.get (by k_asm) (by k_mem)) rfl rfl trivial)

theorem skip2 {α : Type} {a b c : α} {l : List α} {p : α} (h : p ∈ a :: c :: l) : p ∈ a :: b :: c :: l := by
  rcases List.mem_cons.mp h with rfl | h
  · exact .head _
  · exact .tail _ (.tail _ h)
theorem c_snob {w : World} {p : Program} {loose : List PySem.Str} {mean : ExcName → Option Value} {mg mb : PySem.Str → Option Value} :
  ∀ (n : Int) (tn : Tok) (kd : PySem.Str) (tk : Tok) (news : List (Addr × Obj)) (dp un : Nat) (gd : Option (List Code)) (cn : PySem.Str) (cs : Scope) (a : Addr) (ccd : Value) (cl : List (PySem.Str × Addr)) (outer : List Env) (A₀ : Around) (base h₀ : Heap) (L : Addr) (m : PySem.Str → Option Value) (s : Shared) (Q E : Value → Shared → Prop),
    Below A₀ base outer h₀ → Fr h₀ L s.heap m → (Mine.hd.heap_1 w.params).In h₀ → News h₀ L s.heap news → Top p loose mean mg mb h₀ → cs.kind = .function → dp + 40 < recursionLimit → un + 200 < cLine →
    (∀ e dx od t h' tk', Fr h₀ L h' m → News h₀ L h' ((dx, od) :: (e, excObj 41 t (some dx)) :: news) → NumAt od n → (∀ p ∈ news, p.1 < e) → e < dx → Q (.ref e) { s with heap := h', toks := tk' }) →
      wpAny (model PySem.Challenge.rw_rh0227_01.row.prog w) (ktrTop dp un gd cn cs L a ccd cl outer) (call (.ref 41) [.int n tn, .str kd tk]) Q E s := by
  k_fill
  intro n tn kd tk news dp un gd cn cs a ccd cl outer A₀ base h₀ L m s Q E B F X N T hk hd hu hret
  k_dflt (refine' call_exc ?k1 ?k2 ?k3 ?k4 ?k5 ?k6 ?k7 ?_; (case k1 => k_asm); (case k2 => k_asm); (case k3 => k_asm); (case k4 => k_is); (case k5 => k_is); (case k6 => k_is); (case k7 => exact Nat.le_of_ble_eq_true rfl); k_whole)
  intro e t h' F' N' l1
  refine' ks_code_super ?k1 ?k2 ?k3 ?k4 ?k5 ?kA ?kF ?kK ?k6 ?k7 ?k8 ?k9 ?kB ?_ ?c1 ?c2 ?c3 ?c4; (case kA => exact rfl); (case kF => exact rfl); (case kK => assumption); (case k1 => k_asm); (case k2 => k_asm); (case k3 => k_asm); (case k4 => k_asm); (case k5 => k_asm); (case k6 => k_is); (case k7 => k_is); (case k8 => ktr_room); (case k9 => first | exact BindsTo.of_eq rfl | exact binds_K (by k_in) rfl (by k_is) rfl rfl rfl); (case kB => exact locs rfl); (case c1 => decide); (case c2 => exact rfl); (case c3 => exact rfl); (case c4 => exact rfl)
  intro g' L' h'' FG' F'' N'' B' X' T' l2
  (try dsimp only)
  walk1
  walk1
  walk1
  k_dflt (refine ks_node (by k_asm) (by k_asm) (by k_asm) (by k_asm) (by k_is) (by rfl) (by rfl) (inst_exc (News.get (by k_asm) (by k_mem))) (by k_is) (by rfl) (by first | rfl | decide +kernel) (by k_is) (by k_is) (by k_is) (by k_is) (by decide) (by rfl) (by rfl) (by rfl) (by rfl) (by decide +kernel) (by first | boot_by_name | rfl | kernel_rfl) ?_)
  intro so' h3 F3 N3 l3
  k_dflt (refine super_meth_K F3 (by k_asm) N3 (by k_mem) (by k_mem) (by k_is) (by k_is) (by ks_is) ?_)
  intro mw' h4 F4 N4 l4
  have N4' : News g' L' h4 ((mw', mwObj e) :: (e, excObj 41 t none) :: news) := fun p hp => N4 p (skip2 hp)
  k_dflt (refine callWith_W (e := e) ?_)
  k_steps
  · exact (N4 _ (.head _)).1
  k_dflt (refine init_wrap_K (by k_asm) (by k_asm) N4' l1 (by k_is) (Nat.le_of_ble_eq_true rfl) ?_)
  clear N4' N4 F4 N3 F3 N'' F''
  intro t5 h5 F5 N5
  k_steps
  k_dflt (refine store_first_K F5 X' N5 l1 (by k_is) (by k_is) (by k_is) ?_)
  clear F5 N5
  intro dx6 od6 h6 tk6 F6 N6 hn6 l6
  k_steps
  k_dflt (refine store_later_K F6 X' N6 l1 l6 (by k_is) (by k_is) (by k_is) hn6 (Within.cons _ _ Within.nil) (by decide) ?_)
  clear F6 N6
  intro od7 h7 tk7 F7 N7 hn7
  k_steps
  exact hret e dx6 od7 t5 h7 _ (by k_asm) (by k_asm) (num_of_ns (N7 _ (.head _)).1 hn7 (by rw [if_neg (by decide +kernel), if_pos rfl])) l1 l6
end Mine
end

section
open PySem PySem.W PyProof.Rows PySem.Spec PySem.Calls
set_option maxRecDepth 100000
set_option maxHeartbeats 2000000
namespace Mine
/-- what is raised: an exception of the class at C, not noted yet -/
def RaisableD (K : Frag) (C : Addr) (E : Value → Shared → Prop) (v : Value) (s₁ : Shared) : Prop :=
  ∃ a t dx, v = .ref a ∧ s₁.heap.get? a = some (excObj C t dx) ∧ K.In s₁.heap ∧ E (.ref a) s₁
section
variable {M : Model} {A : Around} {E : Value → Shared → Prop} {s : Shared} {env : Env} {K : Frag}
variable {nm q : PySem.Str} {C N : Addr} {bs : List Value} {hdct : Bool} {sn : List PySem.Str} {sub : List Value} {ab : Bool} {col : Option Bool} {dd : Option Addr} {k0 k1 k2 k3 k5 : Option Value}
theorem raise_D {e : Expr} {pos : Pos} {Q : Flow → Shared → Prop} (hh : A.handled = none) (hK : K.lookup C = some (excClassObj nm q C N bs bmX hdct sn sub ab col dd k0 k1 k2 k3 k5 "Exception.__new__"))
    (h : wpAny M A (eval e env) (RaisableD K C E) E s) : wpAny M A (exec (.Raise (some e) none pos) env) Q E s := by
  show wpAny M A (do standAt pos; raiseStmt env (some (do let v ← eval e env; standAt pos; pure v)) none) Q E s
  refine wpAny_bind (wpAny_standAt ?_)
  unfold raiseStmt
  dsimp only
  refine wpAny_bind (wpAny_bind (wpAny_mono h (fun v s₁ h₁ => wpAny_bind (wpAny_standAt (wpAny_pure ?_))) fun _ _ x => x))
  obtain ⟨a, t, dx, rfl, ha, X, hE⟩ := h₁
  obtain ⟨hp, g, d, tk, os⟩ := s₁
  have hC := X _ _ hK
  have hcB : (Value.ref C :: bmX).contains (.type "BaseException") = true := by simp
  have ty : ∀ {Q' : Value → Shared → Prop}, Q' (.ref C) ⟨hp, g, d, tk, os⟩ → wpAny M A (typeOf (.ref a)) Q' E ⟨hp, g, d, tk, os⟩ := fun hq => wpAny_bind (wpAny_loadPart ha (wpAny_pure hq))
  have nt : ∀ {Q' : Bool → Shared → Prop}, Q' false ⟨hp, g, d, tk, os⟩ → wpAny M A (isType (.ref a)) Q' E ⟨hp, g, d, tk, os⟩ := by
    intro Q' hq
    simp only [isType, loadHead]
    exact wpAny_bind (wpAny_loadPart ha (wpAny_pure hq))
  refine wpAny_bind (wpAny_pure ?_)
  dsimp only
  refine wpAny_bind (wpAny_holding ?_)
  unfold excFromValue isExcClass
  refine wpAny_bind (wpAny_bind (nt ?_))
  simp only [Bool.false_eq_true, if_false]
  refine wpAny_pure ?_
  simp only [Bool.false_eq_true, if_false]
  unfold isInstance
  refine wpAny_bind (wpAny_bind (ty (wpAny_isSubtype_exc hC ?_)))
  rw [hcB]
  simp only [if_true]
  refine wpAny_pure ?_
  refine wpAny_bind (nt ?_)
  simp only [Bool.false_eq_true, if_false]
  unfold raisedInstance
  refine wpAny_bind (wpAny_bind (ty (wpAny_bind (m := typeOf (.ref C)) (wpAny_bind (wpAny_loadPart hC (wpAny_pure ?_))))))
  rw [if_pos (by rfl)]
  refine wpAny_pure ?_
  unfold setFlight raiseNew
  have h1 : (#[Value.ref t, Value.none, Value.none, Value.none, Value.bool false, Value.none] : Array Value)[1]? = some .none := rfl
  refine wpAny_bind (wpAny_bind (wpAny_field ha rfl h1 ?_))
  rw [if_neg (by decide)]
  refine wpAny_pure (wpAny_bind (wpAny_handled ?_))
  rw [hh]
  first
    | exact wpAny_throw hE
    | exact wpAny_bind (wpAny_pure (wpAny_throw hE))
theorem raisD {e dx t L : Addr} {g : Heap} {m : PySem.Str → Option Value} {s₁ : Shared} (ha : s₁.heap.get? e = some (excObj C t (some dx))) (hX : K.In g) (F : Fr g L s₁.heap m) (hE : E (.ref e) s₁) : RaisableD K C E (.ref e) s₁ := ⟨e, t, some dx, rfl, ha, hX.keeps F.keep, hE⟩
theorem ne_new {dx e : Addr} {od : Obj} {news : List (Addr × Obj)} (h : ∀ p ∈ news, p.1 < e) (h2 : e < dx) : ∀ p ∈ (dx, od) :: news, p.1 ≠ e := by
  intro p hp
  rcases List.mem_cons.mp hp with rfl | hp
  · exact Nat.ne_of_gt h2
  · exact Nat.ne_of_lt (h p hp)
theorem raise_DX {e : Expr} {pos : Pos} {Q : Flow → Shared → Prop} {h₀ : Heap} (_hX : K.In h₀) (hh : A.handled = none) (hK : K.lookup C = some (excClassObj nm q C N bs bmX hdct sn sub ab col dd k0 k1 k2 k3 k5 "Exception.__new__"))
    (h : wpAny M A (eval e env) (RaisableD K C E) E s) : wpAny M A (exec (.Raise (some e) none pos) env) Q E s := raise_D hh hK h
end
end Mine
end

section
open PySem PySem.W PyProof.Rows PySem.Spec PySem.Calls
namespace Mine
structure ErrK (P : Prop) : Prop where
  out : P
theorem errK {P : Prop} (h : P) : ErrK P := ⟨h⟩
/-- what a call of the def at f may be relied on to do, from any frame -/
def Ctr (prog : Program) (w : World) (K : Frag) (p : Program) (loose : List PySem.Str) (mean : ExcName → Option Value) (mg mb : PySem.Str → Option Value) (D U : Nat) (f : Addr) (vs : List Value) (news : List (Addr × Obj))
    (ok : Value → List (Addr × Obj) → Prop) (er : Int → Prop) : Prop :=
  ∀ (dp un : Nat) (gd : Option (List Code)) (cn : PySem.Str) (cs : Scope) (a : Addr) (ccd : Value) (cl : List (PySem.Str × Addr)) (outer : List Env) (A₀ : Around) (base h₀ : Heap) (L : Addr) (m : PySem.Str → Option Value) (s : Shared) (Q E : Value → Shared → Prop),
    Below A₀ base outer h₀ → Fr h₀ L s.heap m → K.In h₀ → News h₀ L s.heap news → Top p loose mean mg mb h₀ → cs.kind = .function → dp + D < recursionLimit → un + U < cLine →
    (∀ v nw h' tk', ok v nw → Fr h₀ L h' m → News h₀ L h' nw → Q v { s with heap := h', toks := tk' }) →
    ErrK (∀ n e G h' tk', er n → Fr h₀ L G m → RaisedD base G (envX cn cs L a ccd cl :: outer) e 41 n news h' → G.UpToSlots h' → E (.ref e) { s with heap := h', toks := tk' }) →
    wpAny (model prog w) (ktrTop dp un gd cn cs L a ccd cl outer) (call (.ref f) vs) Q E s

def fitsB (n wd : Int) : Bool := decide (-(2 ^ (wd - 1).toNat) ≤ n ∧ n < 2 ^ (wd - 1).toNat)
def optV : Option Int → Tok → Value
  | none, _ => .none
  | some n, t => .int n t
/-- the value of a row of digits behind acc -/
def dig : List Int → Int → Option Int
  | [], acc => some acc
  | c :: r, acc => if 48 ≤ c ∧ c ≤ 57 then dig r (10 * acc + c - 48) else none
def wotD (ds : PySem.Str) (neg : Bool) (wd : Int) : Option Int :=
  if (ds == Str.ofString "") = true ∨ wd < ds.length then none else match dig (KStt.codes ds) 0 with
    | none => none
    | some n => if fitsB (if neg then -n else n) wd then some (if neg then -n else n) else none
/-- whole_of_text -/
def wot (t : PySem.Str) (wd : Int) : Option Int :=
  if (t == Str.ofString "") = true then some 0 else
    wotD (if (Builtin.Str.occurrences (Str.ofString "+-") (Txt.item t 0) 0 (Str.ofString "+-").length 1).isEmpty = true then t else Txt.slice t (some 1) none) (Txt.item t 0 == Str.ofString "-") wd

/-- a value that a count may be given: a whole number or a text -/
inductive PV where
  | i (n : Int)
  | s (t : PySem.Str)
def PV.val : PV → Tok → Value
  | .i n, t => .int n t
  | .s x, t => .str x t
def PV.fit : PV → Prop
  | .i _ => True
  | .s x => x.length ≤ 100
def tw : PV → Int → Option Int
  | .i n, _ => some n
  | .s x, wd => wot x wd
def pcOk (o : Option Int) (n : Int) : Prop := o = some n ∧ 0 ≤ n
def pcEr (o : Option Int) (k : Int) : Prop := (o = none ∧ k = 1) ∨ ∃ n, o = some n ∧ n < 0 ∧ k = 14
theorem dig_snoc (pre : List Int) (c : Int) : ∀ acc, dig (pre ++ [c]) acc = (dig pre acc).bind fun n => if 48 ≤ c ∧ c ≤ 57 then some (10 * n + c - 48) else none := by
  induction pre with
  | nil => intro acc; show dig [c] acc = _; simp only [dig, Option.bind_some]
  | cons d r ih =>
    intro acc
    show dig (d :: (r ++ [c])) acc = _
    simp only [dig]
    split
    · exact ih _
    · rfl
theorem dig_bad (pre post : List Int) (c : Int) (hc : ¬ (48 ≤ c ∧ c ≤ 57)) : ∀ acc, dig (pre ++ c :: post) acc = none := by
  induction pre with
  | nil => intro acc; show dig (c :: post) acc = _; simp only [dig, if_neg hc]
  | cons d r ih =>
    intro acc
    show dig (d :: (r ++ c :: post)) acc = _
    simp only [dig]
    split
    · exact ih _
    · rfl
theorem lt_zero {k : Nat} : (⟨#[k]⟩ : PySem.Str).cps.toList < (Str.ofString "0").cps.toList ↔ k < 48 := by
  show [k] < [48] ↔ k < 48
  rw [List.cons_lt_cons_iff]
  simp
theorem nine_lt {k : Nat} : (Str.ofString "9").cps.toList < (⟨#[k]⟩ : PySem.Str).cps.toList ↔ 57 < k := by
  show [57] < [k] ↔ 57 < k
  rw [List.cons_lt_cons_iff]
  simp
theorem state_end {pre : List Int} {n : Int} {k : Nat} (h1 : dig pre 0 = some n) (h2 : 0 ≤ n) (h3 : ¬ (⟨#[k]⟩ : PySem.Str).cps.toList < (Str.ofString "0").cps.toList) (h4 : ¬ (Str.ofString "9").cps.toList < (⟨#[k]⟩ : PySem.Str).cps.toList) :
    dig (pre ++ [(k : Int)]) 0 = some (10 * n + (k : Int) - 48) ∧ 0 ≤ 10 * n + (k : Int) - 48 := by
  rw [lt_zero] at h3
  rw [nine_lt] at h4
  rw [dig_snoc, h1, Option.bind_some, if_pos (by omega)]
  exact ⟨rfl, by omega⟩
section
variable {t ds : PySem.Str} {wd n : Int} {neg : Bool}
theorem wot0 (h : (t == Str.ofString "") = true) : wot t wd = some 0 := by unfold wot; rw [if_pos h]
theorem wotA (h : (t == Str.ofString "") = false) (ho : (Builtin.Str.occurrences (Str.ofString "+-") (Txt.item t 0) 0 (Str.ofString "+-").length 1).isEmpty = true) :
    wot t wd = wotD t (Txt.item t 0 == Str.ofString "-") wd := by unfold wot; rw [if_neg (by rw [h]; decide), if_pos ho]
theorem wotB (h : (t == Str.ofString "") = false) (ho : (Builtin.Str.occurrences (Str.ofString "+-") (Txt.item t 0) 0 (Str.ofString "+-").length 1).isEmpty = false) :
    wot t wd = wotD (Txt.slice t (some 1) none) (Txt.item t 0 == Str.ofString "-") wd := by unfold wot; rw [if_neg (by rw [h]; decide), if_neg (by rw [ho]; decide)]
theorem d_empty (h : (ds == Str.ofString "") = true) : wotD ds neg wd = none := by unfold wotD; rw [if_pos (.inl h)]
theorem d_long (h : wd < ds.length) : wotD ds neg wd = none := by unfold wotD; rw [if_pos (.inr h)]
theorem d_bad {pre post : List Int} {k : Nat} (h : KStt.codes ds = pre ++ (k : Int) :: post) (hk : (⟨#[k]⟩ : PySem.Str).cps.toList < (Str.ofString "0").cps.toList ∨ (Str.ofString "9").cps.toList < (⟨#[k]⟩ : PySem.Str).cps.toList) : wotD ds neg wd = none := by
  rw [lt_zero, nine_lt] at hk
  unfold wotD
  split
  · rfl
  · rw [h, dig_bad _ _ _ (by omega)]
theorem d_good (h1 : (ds == Str.ofString "") = false) (h2 : ¬ wd < ds.length) (h : dig (KStt.codes ds) 0 = some n) : wotD ds neg wd = if fitsB (if neg then -n else n) wd then some (if neg then -n else n) else none := by
  unfold wotD
  rw [if_neg (by rw [h1]; simpa using h2), h]
theorem d_neg (h1 : (ds == Str.ofString "") = false) (h2 : ¬ wd < ds.length) (h : dig (KStt.codes ds) 0 = some n) (hg : neg = true) {b : Bool} (hb : fitsB (-n) wd = b) : wotD ds neg wd = if b then some (-n) else none := by
  subst hg hb; exact d_good h1 h2 h
theorem d_pos (h1 : (ds == Str.ofString "") = false) (h2 : ¬ wd < ds.length) (h : dig (KStt.codes ds) 0 = some n) (hg : neg = false) {b : Bool} (hb : fitsB n wd = b) : wotD ds neg wd = if b then some n else none := by
  subst hg hb; exact d_good h1 h2 h
end
end Mine
end

section
open PySem PySem.W PyProof.Rows PySem.Spec PySem.Calls
set_option maxRecDepth 100000
set_option maxHeartbeats 8000000
namespace Mine
def AllA (d : Nat) (A : List Addr) : Prop := ∀ a ∈ A, @LT.lt Nat _ a d
theorem allA_of {d : Addr} {l : List (Addr × Obj)} (h : ∀ p ∈ l, p.1 < d) : AllA d (l.map (·.1)) := fun a ha => by
  obtain ⟨p, hp, rfl⟩ := List.mem_map.mp ha
  exact h p hp
theorem allA_c {d W : Nat} {A : List Addr} (l : @LT.lt Nat _ d W) (h : AllA d A) : AllA W (d :: A) := fun a ha => by
  rcases List.mem_cons.mp ha with rfl | ha
  · exact l
  · exact Nat.lt_trans (h a ha) l
theorem allA_get {a d : Nat} {A : List Addr} (h : AllA d A) (m : a ∈ A) : @LT.lt Nat _ a d := h a m
local macro_rules | `(tactic| k_lt $h:ident) => `(tactic| ((have hAA := allA_of $h); (try dsimp only [List.map] at hAA); (replace $h := allLt_of $h); simp only [AllLt, and_true] at $h:ident))
local macro_rules | `(tactic| k_ne) => `(tactic| (refine neN ?_; (try dsimp only); first | (refine' Nat.ne_of_gt ?_; (first | with_reducible assumption | (refine' allA_get ?cjh ?cjk; (case cjh => with_reducible assumption); (case cjk => ((repeat (first | with_reducible exact List.mem_cons_self | with_reducible refine' List.mem_cons_of_mem _ ?_)); done))) | (refine' Nat.lt_trans ?ltm ?ltw; (case ltw => with_reducible assumption); (case ltm => (first | with_reducible assumption | (refine' allA_get ?cjh ?cjk; (case cjh => with_reducible assumption); (case cjk => ((repeat (first | with_reducible exact List.mem_cons_self | with_reducible refine' List.mem_cons_of_mem _ ?_)); done)))))))) | (refine' Nat.ne_of_lt ?_; (first | with_reducible assumption | (refine' allA_get ?cjh ?cjk; (case cjh => with_reducible assumption); (case cjk => ((repeat (first | with_reducible exact List.mem_cons_self | with_reducible refine' List.mem_cons_of_mem _ ?_)); done))) | (refine' Nat.lt_trans ?ltm ?ltw; (case ltw => with_reducible assumption); (case ltm => (first | with_reducible assumption | (refine' allA_get ?cjh ?cjk; (case cjh => with_reducible assumption); (case cjk => ((repeat (first | with_reducible exact List.mem_cons_self | with_reducible refine' List.mem_cons_of_mem _ ?_)); done)))))))) | (refine' Nat.ne_of_gt ?_; (repeat (first | exact Nat.lt_succ_self _ | refine' Nat.lt_succ_of_lt ?_)); done) | (refine' Nat.ne_of_lt ?_; (repeat (first | exact Nat.lt_succ_self _ | refine' Nat.lt_succ_of_lt ?_)); done) | omega))
local macro_rules | `(tactic| k_room) => `(tactic| ktr_room)

section
local macro_rules | `(tactic| k_enter) => `(tactic| (refine' code_def ?k1 ?k2 ?k3 ?k4 ?k5 ?kA ?kF ?kK ?k6 ?k7 ?k8 ?k9 ?kB ?_ ?c2 ?c3 ?c4 ?c5; (case kA => exact rfl); (case kF => exact rfl); (case kK => first | exact rfl | assumption); (case k1 => k_asm); (case k2 => k_asm); (case k3 => k_asm); (case k4 => k_asm); (case k5 => k_asm); (case k6 => k_is); (case k7 => k_is); (case k8 => ktr_room); (case k9 => first | exact BindsTo.of_eq rfl | exact binds_K (by k_in) rfl (by k_is) rfl rfl rfl); (case c5 => decide); (case kB => exact locs rfl); (case c2 => exact rfl); (case c3 => exact rfl); (case c4 => exact rfl); k_whole; intro g' L' h' FG' F' N' B' X' T'; (try dsimp only); (try k_lift B'); (try k_fold)))

section
theorem top_RhF1 : True := by
  w_top off
  exact True.intro
theorem c_fits {w : World} {p : Program} {loose : List PySem.Str} {mean : ExcName → Option Value} {mg mb : PySem.Str → Option Value} (n : Int) (tn : Tok) (wd : Int) (tw : Tok) (news : List (Addr × Obj)) (h1 : 1 ≤ wd) (h2 : wd ≤ 64) :
    Ctr PySem.Challenge.rw_rh0227_01.row.prog w (Mine.hd.heap_1 w.params) p loose mean mg mb 5 50 135 [.int n tn, .int wd tw] news (fun v nw => nw = news ∧ v = .bool (fitsB n wd)) (fun _ => False) := by
  k_fill
  intro dp un gd cn cs a ccd cl outer A₀ base h₀ L m s Q E B F X N T hk hd hu hret herr
  refine wpAny_call ?_
  k_dflt k_enter
  k_steps
  all_goals (refine hret _ _ _ _ ⟨rfl, ?_⟩ (by k_asm) (by k_asm))
  all_goals (unfold fitsB; simp only [Value.bool.injEq, Int.one_mul, decide_eq_decide] at *; first | omega | (simp only [eq_comm, decide_eq_false_iff_not]; omega))
end

section
theorem top_RhF2 : True := by
  w_top off
  exact True.intro

theorem said_1 : True := by
  (k_with "call ref!" => (k_here; (with_reducible show wpAny _ _ (call (Value.ref 135) _) _ _ _); k_dflt (refine' c_fits _ _ _ _ _ (by with_reducible assumption) (by with_reducible assumption) _ _ _ _ _ _ _ _ _ _ _ _ _ _ _ _ _ ?k1z1 ?k2z1 ?k3z1 ?k4z1 ?k5z1 ?kKz1 ?kdz1 ?kuz1 ?_ ?kez1; (case k1z1 => k_asm); (case k2z1 => k_asm); (case k3z1 => k_asm); (case k4z1 => k_asm); (case k5z1 => k_asm); (case kKz1 => first | exact rfl | assumption); (case kdz1 => (try dsimp only [ktrTop, Around.deeper, Around.mark]); refine' Nat.lt_of_le_of_lt ?kqz1 ?kpz1; (case kpz1 => with_reducible assumption); (case kqz1 => omega)); (case kuz1 => (try dsimp only [ktrTop, Around.deeper, Around.mark]); refine' Nat.lt_of_le_of_lt ?kquz1 ?kpuz1; (case kpuz1 => with_reducible assumption); (case kquz1 => omega))); (case kez1 => refine errK ?_; intro _ _ _ _ _ hE9; exact hE9.elim); intro v9 n9 h9 tk9 ok9 F9 N9; obtain ⟨e91, e92⟩ := ok9; subst e91 e92; (try dsimp only); (try k_fold)))
  exact True.intro
theorem c_whole {w : World} {p : Program} {loose : List PySem.Str} {mean : ExcName → Option Value} {mg mb : PySem.Str → Option Value} (t : PySem.Str) (tt : Tok) (wd : Int) (tw : Tok) (news : List (Addr × Obj)) (h0 : t.length ≤ 100) (h1 : 1 ≤ wd) (h2 : wd ≤ 64) :
    Ctr PySem.Challenge.rw_rh0227_01.row.prog w (Mine.hd.heap_1 w.params) p loose mean mg mb 10 60 142 [.str t tt, .int wd tw] news (fun v nw => nw = news ∧ ∃ tk, v = optV (wot t wd) tk) (fun _ => False) := by
  k_fill
  intro dp un gd cn cs a ccd cl outer A₀ base h₀ L m s Q E B F X N T hk hd hu hret herr
  k_with "pyIter str" => k_state (fun pre n => dig pre 0 = some n ∧ 0 ≤ n) "number"
  k_with "state" => exact state_end (by with_reducible assumption) (by with_reducible assumption) (by with_reducible assumption) (by with_reducible assumption)
  refine wpAny_call ?_
  k_dflt k_enter
  k_steps
  all_goals refine hret _ _ _ _ ⟨rfl, ?_⟩ (by k_asm) (by first | k_asm | (refine' cb_drop ?cbN ?cbS; (case cbN => assumption); (case cbS => intro p hp; exact List.mem_append_left _ hp)))
  all_goals first
    | (apply Exists.intro; rw [wot0 (by with_reducible assumption)]; rfl)
    | (have e : wot t wd = none := by
        first | rw [wotA (by with_reducible assumption) (by with_reducible assumption)] | rw [wotB (by with_reducible assumption) (by with_reducible assumption)]
        first
        | exact d_empty (by with_reducible assumption)
        | exact d_long (by with_reducible assumption)
        | exact d_bad (by with_reducible assumption) (.inl (by with_reducible assumption))
        | exact d_bad (by with_reducible assumption) (.inr (by with_reducible assumption))
        | exact (d_neg (b := false) (by with_reducible assumption) (by with_reducible assumption) (by with_reducible assumption) (by with_reducible assumption) (by first | with_reducible assumption | (unfold fitsB; rw [decide_eq_false_iff_not]; omega))).trans rfl
        | exact (d_pos (b := false) (by with_reducible assumption) (by with_reducible assumption) (by with_reducible assumption) (by with_reducible assumption) (by first | with_reducible assumption | (unfold fitsB; rw [decide_eq_false_iff_not]; omega))).trans rfl
       refine ⟨0, ?_⟩
       rw [e]
       rfl)
    | (apply Exists.intro
       first | rw [wotA (by with_reducible assumption) (by with_reducible assumption)] | rw [wotB (by with_reducible assumption) (by with_reducible assumption)]
       first
       | (rw [d_neg (b := true) (by with_reducible assumption) (by with_reducible assumption) (by with_reducible assumption) (by with_reducible assumption) (by first | with_reducible assumption | (unfold fitsB; rw [decide_eq_true_iff]; omega))]; rfl)
       | (rw [d_pos (b := true) (by with_reducible assumption) (by with_reducible assumption) (by with_reducible assumption) (by with_reducible assumption) (by first | with_reducible assumption | (unfold fitsB; rw [decide_eq_true_iff]; omega))]; rfl))
end

section
theorem said_2 : True := by
  k_with_none
  exact True.intro
theorem top_RhF3 : True := by
  w_top off
  exact True.intro

theorem said_3 : True := by
  (k_with "call ref!" => (k_here; (with_reducible show wpAny _ _ (call (Value.ref 142) _) _ _ _); k_dflt (refine' c_whole _ _ _ _ _ (by with_reducible assumption) (by with_reducible assumption) (by with_reducible assumption) _ _ _ _ _ _ _ _ _ _ _ _ _ _ _ _ _ ?k1z2 ?k2z2 ?k3z2 ?k4z2 ?k5z2 ?kKz2 ?kdz2 ?kuz2 ?_ ?kez2; (case k1z2 => k_asm); (case k2z2 => k_asm); (case k3z2 => k_asm); (case k4z2 => k_asm); (case k5z2 => k_asm); (case kKz2 => first | exact rfl | assumption); (case kdz2 => (try dsimp only [ktrTop, Around.deeper, Around.mark]); refine' Nat.lt_of_le_of_lt ?kqz2 ?kpz2; (case kpz2 => with_reducible assumption); (case kqz2 => omega)); (case kuz2 => (try dsimp only [ktrTop, Around.deeper, Around.mark]); refine' Nat.lt_of_le_of_lt ?kquz2 ?kpuz2; (case kpuz2 => with_reducible assumption); (case kquz2 => omega))); (case kez2 => refine errK ?_; intro _ _ _ _ _ hE9; exact hE9.elim); intro v9 n9 h9 tk9 ok9 F9 N9; obtain ⟨e91, tk91, e92⟩ := ok9; subst e91 e92; generalize hw9 : wot _ _ = o9; (cases o9); all_goals ((try dsimp only [optV]); (try k_fold))))
  exact True.intro
theorem c_twi {w : World} {p : Program} {loose : List PySem.Str} {mean : ExcName → Option Value} {mg mb : PySem.Str → Option Value} (n : Int) (tt : Tok) (wd : Int) (tw : Tok) (news : List (Addr × Obj)) (h1 : 1 ≤ wd) (h2 : wd ≤ 64) :
    Ctr PySem.Challenge.rw_rh0227_01.row.prog w (Mine.hd.heap_1 w.params) p loose mean mg mb 15 75 156 [.int n tt, .int wd tw] news (fun v nw => nw = news ∧ v = .int n tt) (fun _ => False) := by
  k_fill
  intro dp un gd cn cs a ccd cl outer A₀ base h₀ L m s Q E B F X N T hk hd hu hret herr
  refine wpAny_call ?_
  k_dflt k_enter
  k_steps
  all_goals refine hret _ _ _ _ ⟨rfl, rfl⟩ (by k_asm) (by k_asm)
theorem c_tws {w : World} {p : Program} {loose : List PySem.Str} {mean : ExcName → Option Value} {mg mb : PySem.Str → Option Value} (t : PySem.Str) (tt : Tok) (wd : Int) (tw : Tok) (news : List (Addr × Obj)) (h0 : t.length ≤ 100) (h1 : 1 ≤ wd) (h2 : wd ≤ 64) :
    Ctr PySem.Challenge.rw_rh0227_01.row.prog w (Mine.hd.heap_1 w.params) p loose mean mg mb 15 75 156 [.str t tt, .int wd tw] news (fun v nw => nw = news ∧ ∃ tk, v = optV (wot t wd) tk) (fun _ => False) := by
  k_fill
  intro dp un gd cn cs a ccd cl outer A₀ base h₀ L m s Q E B F X N T hk hd hu hret herr
  refine wpAny_call ?_
  k_dflt k_enter
  k_steps
  all_goals refine hret _ _ _ _ ⟨rfl, ?_⟩ (by k_asm) (by k_asm)
  all_goals (rename wot t wd = _ => hw9; first | exact ⟨0, by rw [hw9]; rfl⟩ | (apply Exists.intro; rw [hw9]; rfl))
theorem c_tw {w : World} {p : Program} {loose : List PySem.Str} {mean : ExcName → Option Value} {mg mb : PySem.Str → Option Value} (pv : PV) (tt : Tok) (wd : Int) (tw' : Tok) (news : List (Addr × Obj)) (h0 : pv.fit) (h1 : 1 ≤ wd) (h2 : wd ≤ 64) :
    Ctr PySem.Challenge.rw_rh0227_01.row.prog w (Mine.hd.heap_1 w.params) p loose mean mg mb 15 75 156 [pv.val tt, .int wd tw'] news (fun v nw => nw = news ∧ ((tw pv wd = none ∧ v = .none) ∨ ∃ n t, tw pv wd = some n ∧ v = .int n t)) (fun _ => False) := by
  intro dp un gd cn cs a ccd cl outer A₀ base h₀ L m s Q E B F X N T hk hd hu hret herr
  cases pv with
  | i n =>
    refine c_twi n tt wd tw' news h1 h2 _ _ _ _ _ _ _ _ _ _ _ _ _ _ _ _ _ B F X N T hk hd hu ?_ herr
    intro v nw h' tk' ok F' N'
    exact hret v nw h' tk' ⟨ok.1, .inr ⟨n, tt, rfl, ok.2⟩⟩ F' N'
  | s x =>
    refine c_tws x tt wd tw' news h0 h1 h2 _ _ _ _ _ _ _ _ _ _ _ _ _ _ _ _ _ B F X N T hk hd hu ?_ herr
    intro v nw h' tk' ok F' N'
    obtain ⟨tk, hv⟩ := ok.2
    refine hret v nw h' tk' ⟨ok.1, ?_⟩ F' N'
    show (wot x wd = none ∧ _) ∨ ∃ n t, wot x wd = some n ∧ _
    cases hq : wot x wd with
    | none => rw [hq] at hv; exact .inl ⟨rfl, hv⟩
    | some n => rw [hq] at hv; exact .inr ⟨n, tk, rfl, hv⟩
end

section
theorem said_4 : True := by
  k_with_none
  exact True.intro
theorem top_RhF4 : True := by
  w_top off
  exact True.intro

theorem said_5 : True := by
  (k_with "call ref!" => (k_here; (with_reducible show wpAny _ _ (call (Value.ref 156) _) _ _ _); k_dflt (refine' c_tw _ _ _ _ _ (by with_reducible assumption) (by with_reducible assumption) (by with_reducible assumption) _ _ _ _ _ _ _ _ _ _ _ _ _ _ _ _ _ ?k1z3 ?k2z3 ?k3z3 ?k4z3 ?k5z3 ?kKz3 ?kdz3 ?kuz3 ?_ ?kez3; (case k1z3 => k_asm); (case k2z3 => k_asm); (case k3z3 => k_asm); (case k4z3 => k_asm); (case k5z3 => k_asm); (case kKz3 => first | exact rfl | assumption); (case kdz3 => (try dsimp only [ktrTop, Around.deeper, Around.mark]); refine' Nat.lt_of_le_of_lt ?kqz3 ?kpz3; (case kpz3 => with_reducible assumption); (case kqz3 => omega)); (case kuz3 => (try dsimp only [ktrTop, Around.deeper, Around.mark]); refine' Nat.lt_of_le_of_lt ?kquz3 ?kpuz3; (case kpuz3 => with_reducible assumption); (case kquz3 => omega))); (case kez3 => refine errK ?_; intro _ _ _ _ _ hE9; exact hE9.elim); intro v9 n9 h9 tk9 ok9 F9 N9; obtain ⟨e91, ok9⟩ := ok9; subst e91; rcases ok9 with ⟨hw9, e92⟩ | ⟨nn9, tn9, hw9, e92⟩ <;> subst e92 <;> ((try dsimp only); (try k_fold))))
  (k_with "call ref!" => (k_here; (with_reducible show wpAny _ _ (call (Value.ref 41) _) _ _ _); k_dflt (refine' c_snob _ _ _ _ _ _ _ _ _ _ _ _ _ _ _ _ _ _ _ _ _ _ ?k1z4 ?k2z4 ?k3z4 ?k4z4 ?k5z4 ?kKz4 ?kdz4 ?kuz4 ?_; (case k1z4 => k_asm); (case k2z4 => k_asm); (case k3z4 => k_asm); (case k4z4 => k_asm); (case k5z4 => k_asm); (case kKz4 => first | exact rfl | assumption); (case kdz4 => (try dsimp only [ktrTop, Around.deeper, Around.mark]); refine' Nat.lt_of_le_of_lt ?kqz4 ?kpz4; (case kpz4 => with_reducible assumption); (case kqz4 => omega)); (case kuz4 => (try dsimp only [ktrTop, Around.deeper, Around.mark]); refine' Nat.lt_of_le_of_lt ?kquz4 ?kpuz4; (case kpuz4 => with_reducible assumption); (case kquz4 => omega))); intro e9 dx9 od9 t9 h9 tk9 F9 N9 nn9 lt9 lu9; refine' raisD (News.get N9 (.tail _ (.head _))) ?kiz4 F9 ?_; (case kiz4 => with_reducible assumption); k_unfold; refine' leave_raiseD ?kbz4 rfl (fun hm9 => nomatch hm9) F9 N9 (ne_new lt9 lu9) rfl rfl rfl rfl rfl nn9 ?_; (case kbz4 => with_reducible assumption); intro h8 R8 U8; rename ErrK _ => hr8; refine hr8.out _ _ _ _ _ ?_ ?_ R8 U8))
  (k_with "exec Raise some none!" => (k_here; k_dflt (refine' raise_DX (C := 41) ?kxz5 ?khz5 ?kkz5 ?_; (case kxz5 => with_reducible assumption); (case khz5 => exact rfl); (case kkz5 => k_is))))
  exact True.intro
theorem c_pc {w : World} {p : Program} {loose : List PySem.Str} {mean : ExcName → Option Value} {mg mb : PySem.Str → Option Value} (pv : PV) (tt : Tok) (kd : PySem.Str) (tk : Tok) (wd : Int) (tw' : Tok) (news : List (Addr × Obj)) (h0 : pv.fit) (h1 : 1 ≤ wd) (h2 : wd ≤ 64) :
    Ctr PySem.Challenge.rw_rh0227_01.row.prog w (Mine.hd.heap_1 w.params) p loose mean mg mb 65 320 181 [pv.val tt, .str kd tk, .int wd tw'] news (fun v nw => nw = news ∧ ∃ n t, v = .int n t ∧ pcOk (tw pv wd) n) (pcEr (tw pv wd)) := by
  k_fill
  intro dp un gd cn cs a ccd cl outer A₀ base h₀ L m s Q E B F X N T hk hd hu hret herr
  refine wpAny_call ?_
  k_dflt k_enter
  k_steps
  all_goals first
    | (exact .inl ⟨by with_reducible assumption, rfl⟩)
    | (exact .inr ⟨_, by with_reducible assumption, by omega, rfl⟩)
    | (with_reducible assumption)
    | (refine hret _ _ _ _ ⟨rfl, _, _, rfl, by with_reducible assumption, by omega⟩ (by k_asm) (by k_asm))
end

section
theorem said_6 : True := by
  k_with_none
  exact True.intro
theorem top_RhF5 : True := by
  w_top off
  exact True.intro

abbrev CnOk (pv : PV) (kd : PySem.Str) (wd : Int) (news : List (Addr × Obj)) (v : Value) (nw : List (Addr × Obj)) : Prop :=
  ∃ D n t, v = .ref D ∧ pcOk (tw pv wd) n ∧ (∀ p ∈ news, p.1 < D) ∧ ∃ tk, nw = (D, { cls := .type "tuple", data := .seq #[.str kd tk, .int n t] }) :: news
theorem said_7 : True := by
  (k_with "call ref!" => (k_here; (with_reducible show wpAny _ _ (call (Value.ref 181) _) _ _ _); k_dflt (refine' c_pc _ _ _ _ _ _ _ (by with_reducible assumption) (by with_reducible assumption) (by with_reducible assumption) _ _ _ _ _ _ _ _ _ _ _ _ _ _ _ _ _ ?k1z6 ?k2z6 ?k3z6 ?k4z6 ?k5z6 ?kKz6 ?kdz6 ?kuz6 ?_ ?kez6; (case k1z6 => k_asm); (case k2z6 => k_asm); (case k3z6 => k_asm); (case k4z6 => k_asm); (case k5z6 => k_asm); (case kKz6 => first | exact rfl | assumption); (case kdz6 => (try dsimp only [ktrTop, Around.deeper, Around.mark]); refine' Nat.lt_of_le_of_lt ?kqz6 ?kpz6; (case kpz6 => with_reducible assumption); (case kqz6 => omega)); (case kuz6 => (try dsimp only [ktrTop, Around.deeper, Around.mark]); refine' Nat.lt_of_le_of_lt ?kquz6 ?kpuz6; (case kpuz6 => with_reducible assumption); (case kquz6 => omega))); (case kez6 => refine errK ?_; intro _ _ _ _ _ er8 F8 R8 U8; k_unfold; refine leave_onD (by with_reducible assumption) rfl F8 R8 U8 ?_; intro h7 R7 U7; rename ErrK _ => hr8; refine hr8.out _ _ _ _ _ er8 (by with_reducible assumption) R7 U7); intro v9 n9 h9 tk9 ok9 F9 N9; obtain ⟨e91, nn9, tn9, e92, hw9⟩ := ok9; subst e91 e92; (try dsimp only); (try k_fold)))
  exact True.intro
theorem c_cn {w : World} {p : Program} {loose : List PySem.Str} {mean : ExcName → Option Value} {mg mb : PySem.Str → Option Value} (pv : PV) (tt : Tok) (kd : PySem.Str) (tk : Tok) (wd : Int) (tw' : Tok) (news : List (Addr × Obj)) (h0 : pv.fit) (h1 : 1 ≤ wd) (h2 : wd ≤ 64) :
    Ctr PySem.Challenge.rw_rh0227_01.row.prog w (Mine.hd.heap_1 w.params) p loose mean mg mb 70 340 196 [.str kd tk, pv.val tt, .int wd tw'] news (CnOk pv kd wd news) (pcEr (tw pv wd)) := by
  k_fill
  intro dp un gd cn cs a ccd cl outer A₀ base h₀ L m s Q E B F X N T hk hd hu hret herr
  cases pv with
  | i n =>
    dsimp only [PV.val] at *
    refine wpAny_call ?_
    k_dflt k_enter
    k_steps
    all_goals (refine hret _ _ _ _ ⟨_, _, _, rfl, by with_reducible assumption, by with_reducible assumption, _, rfl⟩ (by k_asm) (by k_asm))
  | s x =>
    dsimp only [PV.val] at *
    refine wpAny_call ?_
    k_dflt k_enter
    k_steps
    all_goals (refine hret _ _ _ _ ⟨_, _, _, rfl, by with_reducible assumption, by with_reducible assumption, _, rfl⟩ (by k_asm) (by k_asm))
local macro_rules | `(tactic| k_mem) => `(tactic| ((repeat' apply List.Mem.tail); with_reducible assumption))

abbrev CdOk (D : Addr) (kd : PySem.Str) (news : List (Addr × Obj)) (v : Value) (nw : List (Addr × Obj)) : Prop :=
  ∃ T1 T2 t1 t2, v = .ref T1 ∧ (∀ p ∈ news, p.1 < T2) ∧ @LT.lt Nat _ T2 T1 ∧ nw = (T1, { cls := .type "tuple", data := .seq #[.str kd t1, .ref T2] }) :: (T2, { cls := .type "tuple", data := .seq #[.str (Str.ofString "delay") t2, .ref D] }) :: news
theorem said_8 : True := by
  (k_with "subscriptTail!" => (k_here; (with_reducible show wpAny _ _ (subscriptTail _ _ (Value.ref _) (Value.int _ _)) _ _ _); (with_unfolding_all refine' item_litK ?k1z7 ?k2z7 ?k3z7 ?k4z7 ?_ ?k6z7; (case k1z7 => exact News.isList (by k_asm) (by k_mem)); (case k2z7 => decide); (case k3z7 => decide); (case k4z7 => rfl); (case k6z7 => with_unfolding_all rfl); k_whole)))
  (k_with "subscriptTail!" => (k_here; (with_reducible show wpAny _ _ (subscriptTail _ _ (Value.ref _) (Value.int _ _)) _ _ _); k_dflt (refine' item_tupleT ?tz8 ?az8 ?bz8 ?cz8 ?dz8 ?_; (case tz8 => exact News.isTup (by k_asm) (by k_mem)); (case az8 => decide); (case bz8 => decide); (case cz8 => rfl); (case dz8 => rfl); k_whole)))
  exact True.intro
theorem c_cnd {w : World} {p : Program} {loose : List PySem.Str} {mean : ExcName → Option Value} {mg mb : PySem.Str → Option Value} (D x d : Addr) (hs : Int) (nt : Nat) (kd : PySem.Str) (tk : Tok) (wd : Int) (tw' : Tok) (news : List (Addr × Obj)) (hx : (x, instObj 96 d) ∈ news) (hd' : (d, dictOf [⟨hs, .str (Str.ofString "tree") nt, .ref D⟩] 1) ∈ news) :
    Ctr PySem.Challenge.rw_rh0227_01.row.prog w (Mine.hd.heap_1 w.params) p loose mean mg mb 70 340 196 [.str kd tk, .ref x, .int wd tw'] news (CdOk D kd news) (fun _ => False) := by
  k_fill
  intro dp un gd cn cs a ccd cl outer A₀ base h₀ L m s Q E B F X N T hk hd hu hret herr
  refine wpAny_call ?_
  k_dflt k_enter
  k_steps
  all_goals (refine hret _ _ _ _ ⟨_, _, _, _, rfl, by with_reducible assumption, by omega, rfl⟩ (by k_asm) (by k_asm))
end

section
theorem said_9 : True := by
  k_with_none
  exact True.intro
theorem top_RhF6 : True := by
  w_top off
  exact True.intro
local macro_rules | `(tactic| k_mem) => `(tactic| ((repeat' apply List.Mem.tail); with_reducible assumption))

theorem said_10 : True := by
  (k_with "subscriptTail!" => (k_here; (with_reducible show wpAny _ _ (subscriptTail _ _ (Value.ref _) (Value.int _ _)) _ _ _); (with_unfolding_all refine' item_litK ?k1z7 ?k2z7 ?k3z7 ?k4z7 ?_ ?k6z7; (case k1z7 => exact News.isList (by k_asm) (by k_mem)); (case k2z7 => decide); (case k3z7 => decide); (case k4z7 => rfl); (case k6z7 => with_unfolding_all rfl); k_whole)))
  (k_with "subscriptTail!" => (k_here; (with_reducible show wpAny _ _ (subscriptTail _ _ (Value.ref _) (Value.int _ _)) _ _ _); k_dflt (refine' item_tupleT ?tz8 ?az8 ?bz8 ?cz8 ?dz8 ?_; (case tz8 => exact News.isTup (by k_asm) (by k_mem)); (case az8 => decide); (case bz8 => decide); (case cz8 => rfl); (case dz8 => rfl); k_whole)))
  exact True.intro
theorem getL_head {name : PySem.Str} {e : DictEntry} {es : List DictEntry} (h : e.key.isStr name = true) : getL name (e :: es) = some (some e.val) := by unfold getL; rw [List.find?_cons, h]
abbrev wrlD (hs : Int) (nt : Nat) (wd : Int) (tw' : Tok) (its : List DictEntry) (c : Nat) : Obj := dictOf (⟨hs, .str (Str.ofString "width") nt, .int wd tw'⟩ :: its) c
abbrev patD (hs : Int) (nt : Nat) (D : Addr) : Obj := dictOf [⟨hs, .str (Str.ofString "node") nt, .ref D⟩] 1
abbrev tup2 (a b : Value) : Obj := { cls := .type "tuple", data := .seq #[a, b] }
abbrev MkOk (pv : PV) (kd : PySem.Str) (wd : Int) (news : List (Addr × Obj)) (v : Value) (nw : List (Addr × Obj)) : Prop :=
  ∃ x d D n t tk hs nt, v = .ref x ∧ pcOk (tw pv wd) n ∧ (∀ p ∈ news, p.1 < D) ∧ @LT.lt Nat _ D d ∧ @LT.lt Nat _ d x ∧ nw = (x, instObj 75 d) :: (d, patD hs nt D) :: (D, tup2 (.str kd tk) (.int n t)) :: news
abbrev MdOk (D : Addr) (kd : PySem.Str) (news : List (Addr × Obj)) (v : Value) (nw : List (Addr × Obj)) : Prop :=
  ∃ x d T1 T2 t1 t2 hs nt, v = .ref x ∧ (∀ p ∈ news, p.1 < T2) ∧ @LT.lt Nat _ T2 T1 ∧ @LT.lt Nat _ T1 d ∧ @LT.lt Nat _ d x ∧ nw = (x, instObj 75 d) :: (d, patD hs nt T1) :: (T1, tup2 (.str kd t1) (.ref T2)) :: (T2, tup2 (.str (Str.ofString "delay") t2) (.ref D)) :: news
local macro_rules | `(tactic| k_get) => `(tactic| exact getL_head rfl)

theorem said_11 : True := by
  (k_with "call ref!" => (k_here; (with_reducible show wpAny _ _ (call (Value.ref 196) _) _ _ _); k_dflt (refine' c_cn _ _ _ _ _ _ _ (by with_reducible assumption) (by with_reducible assumption) (by with_reducible assumption) _ _ _ _ _ _ _ _ _ _ _ _ _ _ _ _ _ ?k1z9 ?k2z9 ?k3z9 ?k4z9 ?k5z9 ?kKz9 ?kdz9 ?kuz9 ?_ ?kez9; (case k1z9 => k_asm); (case k2z9 => k_asm); (case k3z9 => k_asm); (case k4z9 => k_asm); (case k5z9 => k_asm); (case kKz9 => first | exact rfl | assumption); (case kdz9 => (try dsimp only [ktrTop, Around.deeper, Around.mark]); refine' Nat.lt_of_le_of_lt ?kqz9 ?kpz9; (case kpz9 => with_reducible assumption); (case kqz9 => omega)); (case kuz9 => (try dsimp only [ktrTop, Around.deeper, Around.mark]); refine' Nat.lt_of_le_of_lt ?kquz9 ?kpuz9; (case kpuz9 => with_reducible assumption); (case kquz9 => omega))); (case kez9 => refine errK ?_; intro _ _ _ _ _ er8 F8 R8 U8; k_unfold; refine leave_onD (by with_reducible assumption) rfl F8 R8 U8 ?_; intro h7 R7 U7; rename ErrK _ => hr8; refine hr8.out _ _ _ _ _ er8 (by with_reducible assumption) R7 U7); intro v9 n9 h9 tk9 ok9 F9 N9; obtain ⟨D9, nn9, tn9, e91, hw9, l9, tk91, e92⟩ := ok9; subst e91 e92; (try k_lt l9); (try dsimp only); (try k_fold)))
  exact True.intro
theorem c_mk0 {w : World} {p : Program} {loose : List PySem.Str} {mean : ExcName → Option Value} {mg mb : PySem.Str → Option Value} (W dW A : Addr) (hs : Int) (nt : Nat) (tw' : Tok) (its : List DictEntry) (c cA : Nat) (pv : PV) (tt : Tok) (wd : Int) (news : List (Addr × Obj)) (h0 : pv.fit) (h1 : 1 ≤ wd) (h2 : wd ≤ 64)
    (hW : (W, instObj 331 dW) ∈ news) (hdW : (dW, wrlD hs nt wd tw' its c) ∈ news) (hA : (A, PySem.W.listOf #[pv.val tt] cA) ∈ news) :
    Ctr PySem.Challenge.rw_rh0227_01.row.prog w (Mine.hd.heap_1 w.params) p loose mean mg mb 90 450 285 [.ref W, .ref A] news (MkOk pv (Str.ofString "len") wd news) (pcEr (tw pv wd)) := by
  k_fill
  intro dp un gd cn cs a ccd cl outer A₀ base h₀ L m s Q E B F X N T hk hd hu hret herr
  unfold wrlD at hdW
  refine wpAny_call ?_
  k_dflt k_enter
  k_steps
  
  all_goals (refine' hret _ _ _ _ ⟨_, _, _, _, _, _, _, _, rfl, ?a1, ?a2, ?a3, ?a4, rfl⟩ ?aF ?aN; (case aF => k_asm); (case aN => k_asm); (case a1 => with_reducible assumption); (case a2 => with_reducible assumption); (case a3 => omega); (case a4 => omega))

theorem c_mk1 {w : World} {p : Program} {loose : List PySem.Str} {mean : ExcName → Option Value} {mg mb : PySem.Str → Option Value} (W dW A : Addr) (hs : Int) (nt : Nat) (tw' : Tok) (its : List DictEntry) (c cA : Nat) (pv : PV) (tt : Tok) (wd : Int) (news : List (Addr × Obj)) (h0 : pv.fit) (h1 : 1 ≤ wd) (h2 : wd ≤ 64)
    (hW : (W, instObj 331 dW) ∈ news) (hdW : (dW, wrlD hs nt wd tw' its c) ∈ news) (hA : (A, PySem.W.listOf #[pv.val tt] cA) ∈ news) :
    Ctr PySem.Challenge.rw_rh0227_01.row.prog w (Mine.hd.heap_1 w.params) p loose mean mg mb 90 450 292 [.ref W, .ref A] news (MkOk pv (Str.ofString "pos") wd news) (pcEr (tw pv wd)) := by
  k_fill
  intro dp un gd cn cs a ccd cl outer A₀ base h₀ L m s Q E B F X N T hk hd hu hret herr
  unfold wrlD at hdW
  refine wpAny_call ?_
  k_dflt k_enter
  k_steps
  
  all_goals (refine' hret _ _ _ _ ⟨_, _, _, _, _, _, _, _, rfl, ?a1, ?a2, ?a3, ?a4, rfl⟩ ?aF ?aN; (case aF => k_asm); (case aN => k_asm); (case a1 => with_reducible assumption); (case a2 => with_reducible assumption); (case a3 => omega); (case a4 => omega))

theorem c_mk2 {w : World} {p : Program} {loose : List PySem.Str} {mean : ExcName → Option Value} {mg mb : PySem.Str → Option Value} (W dW A : Addr) (hs : Int) (nt : Nat) (tw' : Tok) (its : List DictEntry) (c cA : Nat) (pv : PV) (tt : Tok) (wd : Int) (news : List (Addr × Obj)) (h0 : pv.fit) (h1 : 1 ≤ wd) (h2 : wd ≤ 64)
    (hW : (W, instObj 331 dW) ∈ news) (hdW : (dW, wrlD hs nt wd tw' its c) ∈ news) (hA : (A, PySem.W.listOf #[pv.val tt] cA) ∈ news) :
    Ctr PySem.Challenge.rw_rh0227_01.row.prog w (Mine.hd.heap_1 w.params) p loose mean mg mb 90 450 299 [.ref W, .ref A] news (MkOk pv (Str.ofString "rpos") wd news) (pcEr (tw pv wd)) := by
  k_fill
  intro dp un gd cn cs a ccd cl outer A₀ base h₀ L m s Q E B F X N T hk hd hu hret herr
  unfold wrlD at hdW
  refine wpAny_call ?_
  k_dflt k_enter
  k_steps
  
  all_goals (refine' hret _ _ _ _ ⟨_, _, _, _, _, _, _, _, rfl, ?a1, ?a2, ?a3, ?a4, rfl⟩ ?aF ?aN; (case aF => k_asm); (case aN => k_asm); (case a1 => with_reducible assumption); (case a2 => with_reducible assumption); (case a3 => omega); (case a4 => omega))

theorem c_mk3 {w : World} {p : Program} {loose : List PySem.Str} {mean : ExcName → Option Value} {mg mb : PySem.Str → Option Value} (W dW A : Addr) (hs : Int) (nt : Nat) (tw' : Tok) (its : List DictEntry) (c cA : Nat) (pv : PV) (tt : Tok) (wd : Int) (news : List (Addr × Obj)) (h0 : pv.fit) (h1 : 1 ≤ wd) (h2 : wd ≤ 64)
    (hW : (W, instObj 331 dW) ∈ news) (hdW : (dW, wrlD hs nt wd tw' its c) ∈ news) (hA : (A, PySem.W.listOf #[pv.val tt] cA) ∈ news) :
    Ctr PySem.Challenge.rw_rh0227_01.row.prog w (Mine.hd.heap_1 w.params) p loose mean mg mb 90 450 306 [.ref W, .ref A] news (MkOk pv (Str.ofString "tab") wd news) (pcEr (tw pv wd)) := by
  k_fill
  intro dp un gd cn cs a ccd cl outer A₀ base h₀ L m s Q E B F X N T hk hd hu hret herr
  unfold wrlD at hdW
  refine wpAny_call ?_
  k_dflt k_enter
  k_steps
  
  all_goals (refine' hret _ _ _ _ ⟨_, _, _, _, _, _, _, _, rfl, ?a1, ?a2, ?a3, ?a4, rfl⟩ ?aF ?aN; (case aF => k_asm); (case aN => k_asm); (case a1 => with_reducible assumption); (case a2 => with_reducible assumption); (case a3 => omega); (case a4 => omega))

theorem c_mk4 {w : World} {p : Program} {loose : List PySem.Str} {mean : ExcName → Option Value} {mg mb : PySem.Str → Option Value} (W dW A : Addr) (hs : Int) (nt : Nat) (tw' : Tok) (its : List DictEntry) (c cA : Nat) (pv : PV) (tt : Tok) (wd : Int) (news : List (Addr × Obj)) (h0 : pv.fit) (h1 : 1 ≤ wd) (h2 : wd ≤ 64)
    (hW : (W, instObj 331 dW) ∈ news) (hdW : (dW, wrlD hs nt wd tw' its c) ∈ news) (hA : (A, PySem.W.listOf #[pv.val tt] cA) ∈ news) :
    Ctr PySem.Challenge.rw_rh0227_01.row.prog w (Mine.hd.heap_1 w.params) p loose mean mg mb 90 450 313 [.ref W, .ref A] news (MkOk pv (Str.ofString "rtab") wd news) (pcEr (tw pv wd)) := by
  k_fill
  intro dp un gd cn cs a ccd cl outer A₀ base h₀ L m s Q E B F X N T hk hd hu hret herr
  unfold wrlD at hdW
  refine wpAny_call ?_
  k_dflt k_enter
  k_steps
  
  all_goals (refine' hret _ _ _ _ ⟨_, _, _, _, _, _, _, _, rfl, ?a1, ?a2, ?a3, ?a4, rfl⟩ ?aF ?aN; (case aF => k_asm); (case aN => k_asm); (case a1 => with_reducible assumption); (case a2 => with_reducible assumption); (case a3 => omega); (case a4 => omega))

def kdOf : Nat → PySem.Str
  | 0 => Str.ofString "len"
  | 1 => Str.ofString "pos"
  | 2 => Str.ofString "rpos"
  | 3 => Str.ofString "tab"
  | _ => Str.ofString "rtab"
def fOf : Nat → Addr
  | 0 => 285
  | 1 => 292
  | 2 => 299
  | 3 => 306
  | _ => 313
theorem c_mk {w : World} {p : Program} {loose : List PySem.Str} {mean : ExcName → Option Value} {mg mb : PySem.Str → Option Value} (j : Nat) (W dW A : Addr) (hs : Int) (nt : Nat) (tw' : Tok) (its : List DictEntry) (c cA : Nat) (pv : PV) (tt : Tok) (wd : Int) (news : List (Addr × Obj)) (h0 : pv.fit) (h1 : 1 ≤ wd) (h2 : wd ≤ 64)
    (hW : (W, instObj 331 dW) ∈ news) (hdW : (dW, wrlD hs nt wd tw' its c) ∈ news) (hA : (A, PySem.W.listOf #[pv.val tt] cA) ∈ news) :
    Ctr PySem.Challenge.rw_rh0227_01.row.prog w (Mine.hd.heap_1 w.params) p loose mean mg mb 90 450 (fOf j) [.ref W, .ref A] news (MkOk pv (kdOf j) wd news) (pcEr (tw pv wd)) := by
  match j with
  | 0 => exact c_mk0 W dW A hs nt tw' its c cA pv tt wd news h0 h1 h2 hW hdW hA
  | 1 => exact c_mk1 W dW A hs nt tw' its c cA pv tt wd news h0 h1 h2 hW hdW hA
  | 2 => exact c_mk2 W dW A hs nt tw' its c cA pv tt wd news h0 h1 h2 hW hdW hA
  | 3 => exact c_mk3 W dW A hs nt tw' its c cA pv tt wd news h0 h1 h2 hW hdW hA
  | n + 4 => exact c_mk4 W dW A hs nt tw' its c cA pv tt wd news h0 h1 h2 hW hdW hA
end

section
theorem said_12 : True := by
  k_with_none
  exact True.intro
theorem top_RhF6b : True := by
  w_top off
  exact True.intro
local macro_rules | `(tactic| k_mem) => `(tactic| ((repeat' apply List.Mem.tail); with_reducible assumption))
local macro_rules | `(tactic| k_get) => `(tactic| exact getL_head rfl)

theorem said_13 : True := by
  (k_with "subscriptTail!" => (k_here; (with_reducible show wpAny _ _ (subscriptTail _ _ (Value.ref _) (Value.int _ _)) _ _ _); (with_unfolding_all refine' item_litK ?k1z7 ?k2z7 ?k3z7 ?k4z7 ?_ ?k6z7; (case k1z7 => exact News.isList (by k_asm) (by k_mem)); (case k2z7 => decide); (case k3z7 => decide); (case k4z7 => rfl); (case k6z7 => with_unfolding_all rfl); k_whole)))
  (k_with "subscriptTail!" => (k_here; (with_reducible show wpAny _ _ (subscriptTail _ _ (Value.ref _) (Value.int _ _)) _ _ _); k_dflt (refine' item_tupleT ?tz8 ?az8 ?bz8 ?cz8 ?dz8 ?_; (case tz8 => exact News.isTup (by k_asm) (by k_mem)); (case az8 => decide); (case bz8 => decide); (case cz8 => rfl); (case dz8 => rfl); k_whole)))
  (k_with "call ref!" => (k_here; (with_reducible show wpAny _ _ (call (Value.ref 196) _) _ _ _); k_dflt (refine' c_cnd _ _ _ _ _ _ _ _ _ _ ?q1z10 ?q2z10 _ _ _ _ _ _ _ _ _ _ _ _ _ _ _ _ _ ?k1z10 ?k2z10 ?k3z10 ?k4z10 ?k5z10 ?kKz10 ?kdz10 ?kuz10 ?_ ?kez10; (case k1z10 => k_asm); (case q1z10 => k_mem); (case q2z10 => k_mem); (case k2z10 => k_asm); (case k3z10 => k_asm); (case k4z10 => k_asm); (case k5z10 => k_asm); (case kKz10 => first | exact rfl | assumption); (case kdz10 => (try dsimp only [ktrTop, Around.deeper, Around.mark]); refine' Nat.lt_of_le_of_lt ?kqz10 ?kpz10; (case kpz10 => with_reducible assumption); (case kqz10 => omega)); (case kuz10 => (try dsimp only [ktrTop, Around.deeper, Around.mark]); refine' Nat.lt_of_le_of_lt ?kquz10 ?kpuz10; (case kpuz10 => with_reducible assumption); (case kquz10 => omega))); (case kez10 => refine errK ?_; intro _ _ _ _ _ hE9; exact hE9.elim); intro v9 n9 h9 tk9 ok9 F9 N9; obtain ⟨T91, T92, t91, t92, e91, l9, l91, e92⟩ := ok9; subst e91 e92; (try k_lt l9); (try dsimp only); (try k_fold)))
  exact True.intro
theorem c_md0 {w : World} {p : Program} {loose : List PySem.Str} {mean : ExcName → Option Value} {mg mb : PySem.Str → Option Value} (W dW A x d D : Addr) (hs : Int) (nt : Nat) (tw' : Tok) (its : List DictEntry) (c cA : Nat) (hs2 : Int) (nt2 : Nat) (wd : Int) (news : List (Addr × Obj))
    (hW : (W, instObj 331 dW) ∈ news) (hdW : (dW, wrlD hs nt wd tw' its c) ∈ news) (hA : (A, PySem.W.listOf #[.ref x] cA) ∈ news) (hx : (x, instObj 96 d) ∈ news) (hd' : (d, dictOf [⟨hs2, .str (Str.ofString "tree") nt2, .ref D⟩] 1) ∈ news) :
    Ctr PySem.Challenge.rw_rh0227_01.row.prog w (Mine.hd.heap_1 w.params) p loose mean mg mb 90 450 285 [.ref W, .ref A] news (MdOk D (Str.ofString "len") news) (fun _ => False) := by
  k_fill
  intro dp un gd cn cs a ccd cl outer A₀ base h₀ L m s Q E B F X N T hk hd hu hret herr
  unfold wrlD at hdW
  refine wpAny_call ?_
  k_dflt k_enter
  k_steps
  
  all_goals (refine' hret _ _ _ _ ⟨_, _, _, _, _, _, _, _, rfl, ?a2, ?a3, ?a4, ?a5, rfl⟩ ?aF ?aN; (case aF => k_asm); (case aN => k_asm); (case a2 => with_reducible assumption); (case a3 => omega); (case a4 => omega); (case a5 => omega))

theorem c_md1 {w : World} {p : Program} {loose : List PySem.Str} {mean : ExcName → Option Value} {mg mb : PySem.Str → Option Value} (W dW A x d D : Addr) (hs : Int) (nt : Nat) (tw' : Tok) (its : List DictEntry) (c cA : Nat) (hs2 : Int) (nt2 : Nat) (wd : Int) (news : List (Addr × Obj))
    (hW : (W, instObj 331 dW) ∈ news) (hdW : (dW, wrlD hs nt wd tw' its c) ∈ news) (hA : (A, PySem.W.listOf #[.ref x] cA) ∈ news) (hx : (x, instObj 96 d) ∈ news) (hd' : (d, dictOf [⟨hs2, .str (Str.ofString "tree") nt2, .ref D⟩] 1) ∈ news) :
    Ctr PySem.Challenge.rw_rh0227_01.row.prog w (Mine.hd.heap_1 w.params) p loose mean mg mb 90 450 292 [.ref W, .ref A] news (MdOk D (Str.ofString "pos") news) (fun _ => False) := by
  k_fill
  intro dp un gd cn cs a ccd cl outer A₀ base h₀ L m s Q E B F X N T hk hd hu hret herr
  unfold wrlD at hdW
  refine wpAny_call ?_
  k_dflt k_enter
  k_steps
  
  all_goals (refine' hret _ _ _ _ ⟨_, _, _, _, _, _, _, _, rfl, ?a2, ?a3, ?a4, ?a5, rfl⟩ ?aF ?aN; (case aF => k_asm); (case aN => k_asm); (case a2 => with_reducible assumption); (case a3 => omega); (case a4 => omega); (case a5 => omega))

theorem c_md2 {w : World} {p : Program} {loose : List PySem.Str} {mean : ExcName → Option Value} {mg mb : PySem.Str → Option Value} (W dW A x d D : Addr) (hs : Int) (nt : Nat) (tw' : Tok) (its : List DictEntry) (c cA : Nat) (hs2 : Int) (nt2 : Nat) (wd : Int) (news : List (Addr × Obj))
    (hW : (W, instObj 331 dW) ∈ news) (hdW : (dW, wrlD hs nt wd tw' its c) ∈ news) (hA : (A, PySem.W.listOf #[.ref x] cA) ∈ news) (hx : (x, instObj 96 d) ∈ news) (hd' : (d, dictOf [⟨hs2, .str (Str.ofString "tree") nt2, .ref D⟩] 1) ∈ news) :
    Ctr PySem.Challenge.rw_rh0227_01.row.prog w (Mine.hd.heap_1 w.params) p loose mean mg mb 90 450 299 [.ref W, .ref A] news (MdOk D (Str.ofString "rpos") news) (fun _ => False) := by
  k_fill
  intro dp un gd cn cs a ccd cl outer A₀ base h₀ L m s Q E B F X N T hk hd hu hret herr
  unfold wrlD at hdW
  refine wpAny_call ?_
  k_dflt k_enter
  k_steps
  
  all_goals (refine' hret _ _ _ _ ⟨_, _, _, _, _, _, _, _, rfl, ?a2, ?a3, ?a4, ?a5, rfl⟩ ?aF ?aN; (case aF => k_asm); (case aN => k_asm); (case a2 => with_reducible assumption); (case a3 => omega); (case a4 => omega); (case a5 => omega))

theorem c_md3 {w : World} {p : Program} {loose : List PySem.Str} {mean : ExcName → Option Value} {mg mb : PySem.Str → Option Value} (W dW A x d D : Addr) (hs : Int) (nt : Nat) (tw' : Tok) (its : List DictEntry) (c cA : Nat) (hs2 : Int) (nt2 : Nat) (wd : Int) (news : List (Addr × Obj))
    (hW : (W, instObj 331 dW) ∈ news) (hdW : (dW, wrlD hs nt wd tw' its c) ∈ news) (hA : (A, PySem.W.listOf #[.ref x] cA) ∈ news) (hx : (x, instObj 96 d) ∈ news) (hd' : (d, dictOf [⟨hs2, .str (Str.ofString "tree") nt2, .ref D⟩] 1) ∈ news) :
    Ctr PySem.Challenge.rw_rh0227_01.row.prog w (Mine.hd.heap_1 w.params) p loose mean mg mb 90 450 306 [.ref W, .ref A] news (MdOk D (Str.ofString "tab") news) (fun _ => False) := by
  k_fill
  intro dp un gd cn cs a ccd cl outer A₀ base h₀ L m s Q E B F X N T hk hd hu hret herr
  unfold wrlD at hdW
  refine wpAny_call ?_
  k_dflt k_enter
  k_steps
  
  all_goals (refine' hret _ _ _ _ ⟨_, _, _, _, _, _, _, _, rfl, ?a2, ?a3, ?a4, ?a5, rfl⟩ ?aF ?aN; (case aF => k_asm); (case aN => k_asm); (case a2 => with_reducible assumption); (case a3 => omega); (case a4 => omega); (case a5 => omega))

theorem c_md4 {w : World} {p : Program} {loose : List PySem.Str} {mean : ExcName → Option Value} {mg mb : PySem.Str → Option Value} (W dW A x d D : Addr) (hs : Int) (nt : Nat) (tw' : Tok) (its : List DictEntry) (c cA : Nat) (hs2 : Int) (nt2 : Nat) (wd : Int) (news : List (Addr × Obj))
    (hW : (W, instObj 331 dW) ∈ news) (hdW : (dW, wrlD hs nt wd tw' its c) ∈ news) (hA : (A, PySem.W.listOf #[.ref x] cA) ∈ news) (hx : (x, instObj 96 d) ∈ news) (hd' : (d, dictOf [⟨hs2, .str (Str.ofString "tree") nt2, .ref D⟩] 1) ∈ news) :
    Ctr PySem.Challenge.rw_rh0227_01.row.prog w (Mine.hd.heap_1 w.params) p loose mean mg mb 90 450 313 [.ref W, .ref A] news (MdOk D (Str.ofString "rtab") news) (fun _ => False) := by
  k_fill
  intro dp un gd cn cs a ccd cl outer A₀ base h₀ L m s Q E B F X N T hk hd hu hret herr
  unfold wrlD at hdW
  refine wpAny_call ?_
  k_dflt k_enter
  k_steps
  
  all_goals (refine' hret _ _ _ _ ⟨_, _, _, _, _, _, _, _, rfl, ?a2, ?a3, ?a4, ?a5, rfl⟩ ?aF ?aN; (case aF => k_asm); (case aN => k_asm); (case a2 => with_reducible assumption); (case a3 => omega); (case a4 => omega); (case a5 => omega))

theorem c_md {w : World} {p : Program} {loose : List PySem.Str} {mean : ExcName → Option Value} {mg mb : PySem.Str → Option Value} (j : Nat) (W dW A x d D : Addr) (hs : Int) (nt : Nat) (tw' : Tok) (its : List DictEntry) (c cA : Nat) (hs2 : Int) (nt2 : Nat) (wd : Int) (news : List (Addr × Obj))
    (hW : (W, instObj 331 dW) ∈ news) (hdW : (dW, wrlD hs nt wd tw' its c) ∈ news) (hA : (A, PySem.W.listOf #[.ref x] cA) ∈ news) (hx : (x, instObj 96 d) ∈ news) (hd' : (d, dictOf [⟨hs2, .str (Str.ofString "tree") nt2, .ref D⟩] 1) ∈ news) :
    Ctr PySem.Challenge.rw_rh0227_01.row.prog w (Mine.hd.heap_1 w.params) p loose mean mg mb 90 450 (fOf j) [.ref W, .ref A] news (MdOk D (kdOf j) news) (fun _ => False) := by
  match j with
  | 0 => exact c_md0 W dW A x d D hs nt tw' its c cA hs2 nt2 wd news hW hdW hA hx hd'
  | 1 => exact c_md1 W dW A x d D hs nt tw' its c cA hs2 nt2 wd news hW hdW hA hx hd'
  | 2 => exact c_md2 W dW A x d D hs nt tw' its c cA hs2 nt2 wd news hW hdW hA hx hd'
  | 3 => exact c_md3 W dW A x d D hs nt tw' its c cA hs2 nt2 wd news hW hdW hA hx hd'
  | n + 4 => exact c_md4 W dW A x d D hs nt tw' its c cA hs2 nt2 wd news hW hdW hA hx hd'
end

section
theorem said_14 : True := by
  k_with_none
  exact True.intro
theorem top_RhF7 : True := by
  w_top off
  exact True.intro
local macro_rules | `(tactic| k_mem) => `(tactic| ((repeat' apply List.Mem.tail); with_reducible assumption))
section
variable {prog : Program} {w : World} {A : Around} {E : Value → Shared → Prop} {s : Shared}
theorem said_15 : True := by
  (k_with "subscriptTail!" => (k_here; (with_reducible show wpAny _ _ (subscriptTail _ _ (Value.ref _) (Value.int _ _)) _ _ _); (with_unfolding_all refine' item_litK ?k1z7 ?k2z7 ?k3z7 ?k4z7 ?_ ?k6z7; (case k1z7 => exact News.isList (by k_asm) (by k_mem)); (case k2z7 => decide); (case k3z7 => decide); (case k4z7 => rfl); (case k6z7 => with_unfolding_all rfl); k_whole)))
  (k_with "subscriptTail!" => (k_here; (with_reducible show wpAny _ _ (subscriptTail _ _ (Value.ref _) (Value.int _ _)) _ _ _); k_dflt (refine' item_tupleT ?tz8 ?az8 ?bz8 ?cz8 ?dz8 ?_; (case tz8 => exact News.isTup (by k_asm) (by k_mem)); (case az8 => decide); (case bz8 => decide); (case cz8 => rfl); (case dz8 => rfl); k_whole)))
  exact True.intro
theorem in_tup_true {t : Addr} {items : Array Value} {ys : List PySem.Str} {x : PySem.Str} {u : Tok} {Q : Value → Shared → Prop} (ht : IsTup s.heap t items) (hi : StrsAre items.toList ys) (hz : ys.any (· == x) = true)
    (h : Q (.bool true) s) : wpAny (model prog w) A (compareOp .In (.str x u) (.ref t)) Q E s := in_tuple_strs ht hi (by rw [hz]; exact h)
theorem in_tup_false {t : Addr} {items : Array Value} {ys : List PySem.Str} {x : PySem.Str} {u : Tok} {Q : Value → Shared → Prop} (ht : IsTup s.heap t items) (hi : StrsAre items.toList ys) (hz : ys.any (· == x) = false)
    (h : Q (.bool false) s) : wpAny (model prog w) A (compareOp .In (.str x u) (.ref t)) Q E s := in_tuple_strs ht hi (by rw [hz]; exact h)
theorem notin_tup_true {t : Addr} {items : Array Value} {ys : List PySem.Str} {x : PySem.Str} {u : Tok} {Q : Value → Shared → Prop} (ht : IsTup s.heap t items) (hi : StrsAre items.toList ys) (hz : ys.any (· == x) = true)
    (h : Q (.bool false) s) : wpAny (model prog w) A (compareOp .NotIn (.str x u) (.ref t)) Q E s := notin_tuple_strs ht hi (by rw [hz]; exact h)
theorem notin_tup_false {t : Addr} {items : Array Value} {ys : List PySem.Str} {x : PySem.Str} {u : Tok} {Q : Value → Shared → Prop} (ht : IsTup s.heap t items) (hi : StrsAre items.toList ys) (hz : ys.any (· == x) = false)
    (h : Q (.bool true) s) : wpAny (model prog w) A (compareOp .NotIn (.str x u) (.ref t)) Q E s := notin_tuple_strs ht hi (by rw [hz]; exact h)
end

abbrev hostD (h1 h2 h3 h4 h5 h6 : Int) (n1 n2 n3 n4 n5 n6 : Nat) (A B : Addr) (t9 t0 : Tok) (wd : Int) (tw' : Tok) (C : Addr) : Obj :=
  dictOf [⟨h1, .str (Str.ofString "values") n1, .ref A⟩, ⟨h2, .str (Str.ofString "limit") n2, .int 9 t9⟩, ⟨h3, .str (Str.ofString "refused") n3, .ref B⟩, ⟨h4, .str (Str.ofString "width") n4, .int wd tw'⟩, ⟨h5, .str (Str.ofString "steps") n5, .int 0 t0⟩, ⟨h6, .str (Str.ofString "log") n6, .ref C⟩] 6
abbrev StOk (pv : PV) (kd : PySem.Str) (wd : Int) (news : List (Addr × Obj)) (v : Value) (nw : List (Addr × Obj)) : Prop :=
  ∃ D n t tk, v = .ref D ∧ pcOk (tw pv wd) n ∧ (∀ p ∈ news, p.1 < D) ∧ nw = (D, tup2 (.str kd tk) (.int n t)) :: news

theorem said_16 : True := by
  (k_with "compareOp In str ref!" => (k_here; (with_reducible show wpAny _ _ (compareOp CmpOp.In (Value.str _ _) (Value.ref _)) _ _ _); k_dflt (refine' in_tup_true ?k1z11 ?k2z11 ?kzz11 ?_; (case k1z11 => exact kun_topT (by k_asm) (by k_asm) (by k_is)); (case k2z11 => kde_strs); (case kzz11 => decide +kernel)); (try dsimp only)))
  (k_with "compareOp In str ref!" => (k_here; (with_reducible show wpAny _ _ (compareOp CmpOp.In (Value.str _ _) (Value.ref _)) _ _ _); k_dflt (refine' in_tup_false ?k1z12 ?k2z12 ?kzz12 ?_; (case k1z12 => exact kun_topT (by k_asm) (by k_asm) (by k_is)); (case k2z12 => kde_strs); (case kzz12 => decide +kernel)); (try dsimp only)))
  (k_with "compareOp NotIn str ref!" => (k_here; (with_reducible show wpAny _ _ (compareOp CmpOp.NotIn (Value.str _ _) (Value.ref _)) _ _ _); k_dflt (refine' notin_tup_true ?k1z13 ?k2z13 ?kzz13 ?_; (case k1z13 => exact kun_topT (by k_asm) (by k_asm) (by k_is)); (case k2z13 => kde_strs); (case kzz13 => decide +kernel)); (try dsimp only)))
  (k_with "compareOp NotIn str ref!" => (k_here; (with_reducible show wpAny _ _ (compareOp CmpOp.NotIn (Value.str _ _) (Value.ref _)) _ _ _); k_dflt (refine' notin_tup_false ?k1z14 ?k2z14 ?kzz14 ?_; (case k1z14 => exact kun_topT (by k_asm) (by k_asm) (by k_is)); (case k2z14 => kde_strs); (case kzz14 => decide +kernel)); (try dsimp only)))
  exact True.intro
theorem c_isf {w : World} {p : Program} {loose : List PySem.Str} {mean : ExcName → Option Value} {mg mb : PySem.Str → Option Value} (pv : PV) (tt : Tok) (news : List (Addr × Obj)) :
    Ctr PySem.Challenge.rw_rh0227_01.row.prog w (Mine.hd.heap_1 w.params) p loose mean mg mb 10 60 128 [pv.val tt] news (fun v nw => nw = news ∧ v = .bool false) (fun _ => False) := by
  k_fill
  intro dp un gd cn cs a ccd cl outer A₀ base h₀ L m s Q E B F X N T hk hd hu hret herr
  cases pv with
  | i n =>
    dsimp only [PV.val] at *
    refine wpAny_call ?_
    k_dflt k_enter
    k_steps
    all_goals (refine hret _ _ _ _ ⟨rfl, rfl⟩ (by k_asm) (by k_asm))
  | s x =>
    dsimp only [PV.val] at *
    refine wpAny_call ?_
    k_dflt k_enter
    k_steps
    all_goals (refine hret _ _ _ _ ⟨rfl, rfl⟩ (by k_asm) (by k_asm))

theorem said_17 : True := by
  (k_with "call ref!" => (k_here; (with_reducible show wpAny _ _ (call (Value.ref 181) _) _ _ _); k_dflt (refine' c_pc _ _ _ _ _ _ _ (by with_reducible assumption) (by with_reducible assumption) (by with_reducible assumption) _ _ _ _ _ _ _ _ _ _ _ _ _ _ _ _ _ ?k1z6 ?k2z6 ?k3z6 ?k4z6 ?k5z6 ?kKz6 ?kdz6 ?kuz6 ?_ ?kez6; (case k1z6 => k_asm); (case k2z6 => k_asm); (case k3z6 => k_asm); (case k4z6 => k_asm); (case k5z6 => k_asm); (case kKz6 => first | exact rfl | assumption); (case kdz6 => (try dsimp only [ktrTop, Around.deeper, Around.mark]); refine' Nat.lt_of_le_of_lt ?kqz6 ?kpz6; (case kpz6 => with_reducible assumption); (case kqz6 => omega)); (case kuz6 => (try dsimp only [ktrTop, Around.deeper, Around.mark]); refine' Nat.lt_of_le_of_lt ?kquz6 ?kpuz6; (case kpuz6 => with_reducible assumption); (case kquz6 => omega))); (case kez6 => refine errK ?_; intro _ _ _ _ _ er8 F8 R8 U8; k_unfold; refine leave_onD (by with_reducible assumption) rfl F8 R8 U8 ?_; intro h7 R7 U7; rename ErrK _ => hr8; refine hr8.out _ _ _ _ _ er8 (by with_reducible assumption) R7 U7); intro v9 n9 h9 tk9 ok9 F9 N9; obtain ⟨e91, nn9, tn9, e92, hw9⟩ := ok9; subst e91 e92; (try dsimp only); (try k_fold)))
  (k_with "call ref!" => (k_here; (with_reducible show wpAny _ _ (call (Value.ref 128) _) _ _ _); k_dflt (refine' c_isf _ _ _ _ _ _ _ _ _ _ _ _ _ _ _ _ _ _ _ _ ?k1z15 ?k2z15 ?k3z15 ?k4z15 ?k5z15 ?kKz15 ?kdz15 ?kuz15 ?_ ?kez15; (case k1z15 => k_asm); (case k2z15 => k_asm); (case k3z15 => k_asm); (case k4z15 => k_asm); (case k5z15 => k_asm); (case kKz15 => first | exact rfl | assumption); (case kdz15 => (try dsimp only [ktrTop, Around.deeper, Around.mark]); refine' Nat.lt_of_le_of_lt ?kqz15 ?kpz15; (case kpz15 => with_reducible assumption); (case kqz15 => omega)); (case kuz15 => (try dsimp only [ktrTop, Around.deeper, Around.mark]); refine' Nat.lt_of_le_of_lt ?kquz15 ?kpuz15; (case kpuz15 => with_reducible assumption); (case kquz15 => omega))); (case kez15 => refine errK ?_; intro _ _ _ _ _ hE9; exact hE9.elim); intro v9 n9 h9 tk9 ok9 F9 N9; obtain ⟨e91, e92⟩ := ok9; subst e91 e92; (try dsimp only); (try k_fold)))
  exact True.intro
theorem c_st0 {w : World} {p : Program} {loose : List PySem.Str} {mean : ExcName → Option Value} {mg mb : PySem.Str → Option Value} (H dH T1 T2 D A B C : Addr) (h1 h2 h3 h4 h5 h6 : Int) (n1 n2 n3 n4 n5 n6 t1 t2 t3 : Nat) (t9 t0 tw' tt : Tok) (pv : PV) (wd : Int) (news : List (Addr × Obj)) (h0 : pv.fit) (hw1 : 1 ≤ wd) (hw2 : wd ≤ 64)
    (hH : (H, instObj 274 dH) ∈ news) (hdH : (dH, hostD h1 h2 h3 h4 h5 h6 n1 n2 n3 n4 n5 n6 A B t9 t0 wd tw' C) ∈ news) (hT1 : (T1, tup2 (.str (Str.ofString "len") t1) (.ref T2)) ∈ news) (hT2 : (T2, tup2 (.str (Str.ofString "delay") t2) (.ref D)) ∈ news) (hD : (D, tup2 (.str (Str.ofString "value") t3) (pv.val tt)) ∈ news) :
    Ctr PySem.Challenge.rw_rh0227_01.row.prog w (Mine.hd.heap_1 w.params) p loose mean mg mb 100 500 210 [.ref T1, .ref H] news (StOk pv (Str.ofString "len") wd news) (pcEr (tw pv wd)) := by
  k_fill
  intro dp un gd cn cs a ccd cl outer A₀ base h₀ L m s Q E B F X N T hk hd hu hret herr
  refine wpAny_call ?_
  k_dflt k_enter
  k_steps
  
  all_goals (refine hret _ _ _ _ ⟨_, _, _, _, rfl, by with_reducible assumption, by with_reducible assumption, rfl⟩ (by k_asm) (by k_asm))

theorem c_st1 {w : World} {p : Program} {loose : List PySem.Str} {mean : ExcName → Option Value} {mg mb : PySem.Str → Option Value} (H dH T1 T2 D A B C : Addr) (h1 h2 h3 h4 h5 h6 : Int) (n1 n2 n3 n4 n5 n6 t1 t2 t3 : Nat) (t9 t0 tw' tt : Tok) (pv : PV) (wd : Int) (news : List (Addr × Obj)) (h0 : pv.fit) (hw1 : 1 ≤ wd) (hw2 : wd ≤ 64)
    (hH : (H, instObj 274 dH) ∈ news) (hdH : (dH, hostD h1 h2 h3 h4 h5 h6 n1 n2 n3 n4 n5 n6 A B t9 t0 wd tw' C) ∈ news) (hT1 : (T1, tup2 (.str (Str.ofString "pos") t1) (.ref T2)) ∈ news) (hT2 : (T2, tup2 (.str (Str.ofString "delay") t2) (.ref D)) ∈ news) (hD : (D, tup2 (.str (Str.ofString "value") t3) (pv.val tt)) ∈ news) :
    Ctr PySem.Challenge.rw_rh0227_01.row.prog w (Mine.hd.heap_1 w.params) p loose mean mg mb 100 500 210 [.ref T1, .ref H] news (StOk pv (Str.ofString "pos") wd news) (pcEr (tw pv wd)) := by
  k_fill
  intro dp un gd cn cs a ccd cl outer A₀ base h₀ L m s Q E B F X N T hk hd hu hret herr
  refine wpAny_call ?_
  k_dflt k_enter
  k_steps
  
  all_goals (refine hret _ _ _ _ ⟨_, _, _, _, rfl, by with_reducible assumption, by with_reducible assumption, rfl⟩ (by k_asm) (by k_asm))

theorem c_st2 {w : World} {p : Program} {loose : List PySem.Str} {mean : ExcName → Option Value} {mg mb : PySem.Str → Option Value} (H dH T1 T2 D A B C : Addr) (h1 h2 h3 h4 h5 h6 : Int) (n1 n2 n3 n4 n5 n6 t1 t2 t3 : Nat) (t9 t0 tw' tt : Tok) (pv : PV) (wd : Int) (news : List (Addr × Obj)) (h0 : pv.fit) (hw1 : 1 ≤ wd) (hw2 : wd ≤ 64)
    (hH : (H, instObj 274 dH) ∈ news) (hdH : (dH, hostD h1 h2 h3 h4 h5 h6 n1 n2 n3 n4 n5 n6 A B t9 t0 wd tw' C) ∈ news) (hT1 : (T1, tup2 (.str (Str.ofString "rpos") t1) (.ref T2)) ∈ news) (hT2 : (T2, tup2 (.str (Str.ofString "delay") t2) (.ref D)) ∈ news) (hD : (D, tup2 (.str (Str.ofString "value") t3) (pv.val tt)) ∈ news) :
    Ctr PySem.Challenge.rw_rh0227_01.row.prog w (Mine.hd.heap_1 w.params) p loose mean mg mb 100 500 210 [.ref T1, .ref H] news (StOk pv (Str.ofString "rpos") wd news) (pcEr (tw pv wd)) := by
  k_fill
  intro dp un gd cn cs a ccd cl outer A₀ base h₀ L m s Q E B F X N T hk hd hu hret herr
  refine wpAny_call ?_
  k_dflt k_enter
  k_steps
  
  all_goals (refine hret _ _ _ _ ⟨_, _, _, _, rfl, by with_reducible assumption, by with_reducible assumption, rfl⟩ (by k_asm) (by k_asm))

theorem c_st3 {w : World} {p : Program} {loose : List PySem.Str} {mean : ExcName → Option Value} {mg mb : PySem.Str → Option Value} (H dH T1 T2 D A B C : Addr) (h1 h2 h3 h4 h5 h6 : Int) (n1 n2 n3 n4 n5 n6 t1 t2 t3 : Nat) (t9 t0 tw' tt : Tok) (pv : PV) (wd : Int) (news : List (Addr × Obj)) (h0 : pv.fit) (hw1 : 1 ≤ wd) (hw2 : wd ≤ 64)
    (hH : (H, instObj 274 dH) ∈ news) (hdH : (dH, hostD h1 h2 h3 h4 h5 h6 n1 n2 n3 n4 n5 n6 A B t9 t0 wd tw' C) ∈ news) (hT1 : (T1, tup2 (.str (Str.ofString "tab") t1) (.ref T2)) ∈ news) (hT2 : (T2, tup2 (.str (Str.ofString "delay") t2) (.ref D)) ∈ news) (hD : (D, tup2 (.str (Str.ofString "value") t3) (pv.val tt)) ∈ news) :
    Ctr PySem.Challenge.rw_rh0227_01.row.prog w (Mine.hd.heap_1 w.params) p loose mean mg mb 100 500 210 [.ref T1, .ref H] news (StOk pv (Str.ofString "tab") wd news) (pcEr (tw pv wd)) := by
  k_fill
  intro dp un gd cn cs a ccd cl outer A₀ base h₀ L m s Q E B F X N T hk hd hu hret herr
  refine wpAny_call ?_
  k_dflt k_enter
  k_steps
  
  all_goals (refine hret _ _ _ _ ⟨_, _, _, _, rfl, by with_reducible assumption, by with_reducible assumption, rfl⟩ (by k_asm) (by k_asm))

theorem c_st4 {w : World} {p : Program} {loose : List PySem.Str} {mean : ExcName → Option Value} {mg mb : PySem.Str → Option Value} (H dH T1 T2 D A B C : Addr) (h1 h2 h3 h4 h5 h6 : Int) (n1 n2 n3 n4 n5 n6 t1 t2 t3 : Nat) (t9 t0 tw' tt : Tok) (pv : PV) (wd : Int) (news : List (Addr × Obj)) (h0 : pv.fit) (hw1 : 1 ≤ wd) (hw2 : wd ≤ 64)
    (hH : (H, instObj 274 dH) ∈ news) (hdH : (dH, hostD h1 h2 h3 h4 h5 h6 n1 n2 n3 n4 n5 n6 A B t9 t0 wd tw' C) ∈ news) (hT1 : (T1, tup2 (.str (Str.ofString "rtab") t1) (.ref T2)) ∈ news) (hT2 : (T2, tup2 (.str (Str.ofString "delay") t2) (.ref D)) ∈ news) (hD : (D, tup2 (.str (Str.ofString "value") t3) (pv.val tt)) ∈ news) :
    Ctr PySem.Challenge.rw_rh0227_01.row.prog w (Mine.hd.heap_1 w.params) p loose mean mg mb 100 500 210 [.ref T1, .ref H] news (StOk pv (Str.ofString "rtab") wd news) (pcEr (tw pv wd)) := by
  k_fill
  intro dp un gd cn cs a ccd cl outer A₀ base h₀ L m s Q E B F X N T hk hd hu hret herr
  refine wpAny_call ?_
  k_dflt k_enter
  k_steps
  
  all_goals (refine hret _ _ _ _ ⟨_, _, _, _, rfl, by with_reducible assumption, by with_reducible assumption, rfl⟩ (by k_asm) (by k_asm))

theorem c_st {w : World} {p : Program} {loose : List PySem.Str} {mean : ExcName → Option Value} {mg mb : PySem.Str → Option Value} (j : Nat) (H dH T1 T2 D A B C : Addr) (h1 h2 h3 h4 h5 h6 : Int) (n1 n2 n3 n4 n5 n6 t1 t2 t3 : Nat) (t9 t0 tw' tt : Tok) (pv : PV) (wd : Int) (news : List (Addr × Obj)) (h0 : pv.fit) (hw1 : 1 ≤ wd) (hw2 : wd ≤ 64)
    (hH : (H, instObj 274 dH) ∈ news) (hdH : (dH, hostD h1 h2 h3 h4 h5 h6 n1 n2 n3 n4 n5 n6 A B t9 t0 wd tw' C) ∈ news) (hT1 : (T1, tup2 (.str (kdOf j) t1) (.ref T2)) ∈ news) (hT2 : (T2, tup2 (.str (Str.ofString "delay") t2) (.ref D)) ∈ news) (hD : (D, tup2 (.str (Str.ofString "value") t3) (pv.val tt)) ∈ news) :
    Ctr PySem.Challenge.rw_rh0227_01.row.prog w (Mine.hd.heap_1 w.params) p loose mean mg mb 100 500 210 [.ref T1, .ref H] news (StOk pv (kdOf j) wd news) (pcEr (tw pv wd)) := by
  match j with
  | 0 => exact c_st0 H dH T1 T2 D A B C h1 h2 h3 h4 h5 h6 n1 n2 n3 n4 n5 n6 t1 t2 t3 t9 t0 tw' tt pv wd news h0 hw1 hw2 hH hdH hT1 hT2 hD
  | 1 => exact c_st1 H dH T1 T2 D A B C h1 h2 h3 h4 h5 h6 n1 n2 n3 n4 n5 n6 t1 t2 t3 t9 t0 tw' tt pv wd news h0 hw1 hw2 hH hdH hT1 hT2 hD
  | 2 => exact c_st2 H dH T1 T2 D A B C h1 h2 h3 h4 h5 h6 n1 n2 n3 n4 n5 n6 t1 t2 t3 t9 t0 tw' tt pv wd news h0 hw1 hw2 hH hdH hT1 hT2 hD
  | 3 => exact c_st3 H dH T1 T2 D A B C h1 h2 h3 h4 h5 h6 n1 n2 n3 n4 n5 n6 t1 t2 t3 t9 t0 tw' tt pv wd news h0 hw1 hw2 hH hdH hT1 hT2 hD
  | n + 4 => exact c_st4 H dH T1 T2 D A B C h1 h2 h3 h4 h5 h6 n1 n2 n3 n4 n5 n6 t1 t2 t3 t9 t0 tw' tt pv wd news h0 hw1 hw2 hH hdH hT1 hT2 hD
end

section
theorem said_18 : True := by
  k_with_none
  exact True.intro
theorem top_RhF8 : True := by
  w_top off
  exact True.intro
local macro_rules | `(tactic| k_mem) => `(tactic| ((repeat' apply List.Mem.tail); with_reducible assumption))

structure UpdA (d : Addr) (o : Obj) (o' : Tok → Obj) (news : List (Addr × Obj)) (nwf : Tok → List (Addr × Obj)) : Prop where
  out : ∀ t, Upd d o (o' t) news (nwf t)
structure MemA (D : Addr) (o : Obj) (nwf : Tok → List (Addr × Obj)) : Prop where
  out : ∀ t, (D, o) ∈ nwf t
theorem said_19 : True := by
  (k_with "subscriptTail!" => (k_here; (with_reducible show wpAny _ _ (subscriptTail _ _ (Value.ref _) (Value.int _ _)) _ _ _); (with_unfolding_all refine' item_litK ?k1z7 ?k2z7 ?k3z7 ?k4z7 ?_ ?k6z7; (case k1z7 => exact News.isList (by k_asm) (by k_mem)); (case k2z7 => decide); (case k3z7 => decide); (case k4z7 => rfl); (case k6z7 => with_unfolding_all rfl); k_whole)))
  (k_with "subscriptTail!" => (k_here; (with_reducible show wpAny _ _ (subscriptTail _ _ (Value.ref _) (Value.int _ _)) _ _ _); k_dflt (refine' item_tupleT ?tz8 ?az8 ?bz8 ?cz8 ?dz8 ?_; (case tz8 => exact News.isTup (by k_asm) (by k_mem)); (case az8 => decide); (case bz8 => decide); (case cz8 => rfl); (case dz8 => rfl); k_whole)))
  exact True.intro
theorem updMem {d : Addr} {o o' : Obj} {r r' : List (Addr × Obj)} (U : Upd d o o' r r') {q : Addr × Obj} (hq : q ∈ r) (hne : q.1 ≠ d) : q ∈ r' := by
  induction U with
  | head h => rcases List.mem_cons.mp hq with rfl | hq; exact absurd rfl hne; exact .tail _ hq
  | tail h U ih => rcases List.mem_cons.mp hq with rfl | hq; exact .head _; exact .tail _ (ih hq)
abbrev feedO (D : Addr) (turn : Int) (t : Tok) : Obj := PySem.W.listOf #[.ref D, .int turn t] 0
section
variable {prog : Program} {w : World} {A : Around} {E : Value → Shared → Prop} {s : Shared} {h₀ : Heap} {L D : Addr} {m : PySem.Str → Option Value} {news news' : List (Addr × Obj)} {its : Array Value} {n : Nat}
theorem ki_setU {k : Int} {t : Tok} {v : Value} {q : List Value} {Q : Unit → Shared → Prop} (F : Fr h₀ L s.heap m) (N : News h₀ L s.heap news) (_hl : (D, listOf its n) ∈ news) (h0 : 0 ≤ k) (hfit : k < 2 ^ 63) (e : ki_setL its.toList k.toNat v = some q) (U : Upd D (listOf its n) (listOf q.toArray n) news news')
    (h : ∀ h', Fr h₀ L h' m → News h₀ L h' news' → Q () { s with heap := h' }) : wpAny (model prog w) A (setItem (.ref D) (.int k t) v) Q E s := ki_set F N h0 hfit e U h
end
local macro_rules | `(tactic| k_mem) => `(tactic| exact MemA.out (by with_reducible assumption) _)
local macro_rules | `(tactic| is_list) => `(tactic| exact News.isList (by k_asm) (by k_mem))

theorem said_20 : True := by
  (k_with "setItem ref int!" => (k_here; k_dflt (refine' ki_setU ?Fz16 ?Nz16 ?lz16 ?az16 ?bz16 ?ez16 ?Uz16 ?_; (case Fz16 => k_asm); (case Nz16 => k_asm); (case lz16 => k_mem); (case az16 => decide); (case bz16 => decide); (case ez16 => rfl); (case Uz16 => rename UpdA _ _ _ _ _ => hU9; exact hU9.out _)); ki_rest))
  exact True.intro
theorem c_next {w : World} {p : Program} {loose : List PySem.Str} {mean : ExcName → Option Value} {mg mb : PySem.Str → Option Value} (l D : Addr) (turn : Int) (tu : Tok) (ws : List Value) (ns : List Int) (many : Int) (tm : Tok) (news : List (Addr × Obj)) (nwf : Tok → List (Addr × Obj))
    (hi : IntsAre ws ns) (hn : ns.length ≤ 16) (hn2 : ws.length ≤ 16) (ht0 : 0 ≤ turn) (ht1 : turn ≤ 100) (hm0 : 0 < many) (hm1 : many ≤ 100) (hne : D ≠ l) (hl : (l, feedO D turn tu) ∈ news) (hD : (D, PySem.W.listOf ws.toArray 0) ∈ news) (hU : UpdA l (feedO D turn tu) (feedO D (turn + 1)) news nwf) :
    Ctr PySem.Challenge.rw_rh0227_01.row.prog w (Mine.hd.heap_1 w.params) p loose mean mg mb 40 200 342 [.ref l, .int many tm] news (fun v nw => ∃ r t tk, v = .int r t ∧ 0 ≤ r ∧ r < many ∧ nw = nwf tk) (fun _ => False) := by
  k_fill
  intro dp un gd cn cs a ccd cl outer A₀ base h₀ L m s Q E B F X N T hk hd hu hret herr
  have hA : MemA D (PySem.W.listOf ws.toArray 0) nwf := ⟨fun t => updMem (hU.out t) hD hne⟩
  refine wpAny_call ?_
  k_dflt k_enter
  k_steps
  
  all_goals (refine hret _ _ _ _ ⟨_, _, _, rfl, Int.fmod_nonneg_of_pos _ hm0, Int.fmod_lt_of_pos _ hm0, rfl⟩ (by k_asm) (by k_asm))
end

section
theorem said_21 : True := by
  k_with_none
  exact True.intro
theorem top_RhF9 : True := by
  w_top off
  exact True.intro
local macro_rules | `(tactic| k_mem) => `(tactic| ((repeat' apply List.Mem.tail); with_reducible assumption))
theorem said_22 : True := by
  (k_with "subscriptTail!" => (k_here; (with_reducible show wpAny _ _ (subscriptTail _ _ (Value.ref _) (Value.int _ _)) _ _ _); (with_unfolding_all refine' item_litK ?k1z7 ?k2z7 ?k3z7 ?k4z7 ?_ ?k6z7; (case k1z7 => exact News.isList (by k_asm) (by k_mem)); (case k2z7 => decide); (case k3z7 => decide); (case k4z7 => rfl); (case k6z7 => with_unfolding_all rfl); k_whole)))
  (k_with "subscriptTail!" => (k_here; (with_reducible show wpAny _ _ (subscriptTail _ _ (Value.ref _) (Value.int _ _)) _ _ _); k_dflt (refine' item_tupleT ?tz8 ?az8 ?bz8 ?cz8 ?dz8 ?_; (case tz8 => exact News.isTup (by k_asm) (by k_mem)); (case az8 => decide); (case bz8 => decide); (case cz8 => rfl); (case dz8 => rfl); k_whole)))
  exact True.intro
theorem ite_yes {c A B : Prop} [Decidable c] (h : c) (x : A) : if c then A else B := by rw [if_pos h]; exact x
theorem ite_no {c A B : Prop} [Decidable c] (h : ¬ c) (x : B) : if c then A else B := by rw [if_neg h]; exact x

def strZ (n : Int) : PySem.Str := Str.ofString (toString n)
abbrev VaOk (pv : PV) (num : Option Int) (news : List (Addr × Obj)) (v : Value) (nw : List (Addr × Obj)) : Prop :=
  ∃ T t1 t2 v1 v2, v = .ref T ∧ (∀ p ∈ news, p.1 < T) ∧ v1 = pv.val t1 ∧ v2 = optV num t2 ∧ nw = (T, tup2 v1 v2) :: news
theorem va_lt {news : List (Addr × Obj)} {l D : Addr} (h : ∀ p ∈ news, p.1 < l) (h2 : @LT.lt Nat _ l D) : ∀ p ∈ news, p.1 < D := fun p hp => Nat.lt_trans (h p hp) h2

theorem said_23 : True := by
  (k_with "ite!" => (first | refine ite_no (by decide) ?_ | refine ite_yes (by decide) ?_))
  exact True.intro
theorem c_va0 {w : World} {p : Program} {loose : List PySem.Str} {mean : ExcName → Option Value} {mg mb : PySem.Str → Option Value} (e : Int) (tf te : Tok) (news : List (Addr × Obj)) (he0 : 2 ≤ e) (he1 : e ≤ 549755813888) :
    Ctr PySem.Challenge.rw_rh0227_01.row.prog w (Mine.hd.heap_1 w.params) p loose mean mg mb 40 200 349 [.int 0 tf, .int e te] news (VaOk (.i (e - 1)) (some (e - 1)) news) (fun _ => False) := by
  k_fill
  intro dp un gd cn cs a ccd cl outer A₀ base h₀ L m s Q E B F X N T hk hd hu hret herr
  refine wpAny_call ?_
  k_dflt k_enter
  k_steps
  
  all_goals (refine' hret _ _ _ _ ⟨_, _, _, _, _, rfl, ?a1, ?a2, ?a3, rfl⟩ ?aF ?aN; (case aF => k_asm); (case aN => first | k_asm | (refine' cb_drop ?cbN ?cbS; (case cbN => with_reducible assumption); (case cbS => (refine' List.forall_mem_cons.mpr ⟨?cbH, fun p hp => by (repeat' apply List.Mem.tail); exact hp⟩; (case cbH => repeat (first | exact List.Mem.head _ | refine' List.Mem.tail _ ?_)))))); (case a2 => exact rfl); (case a3 => first | exact rfl | exact (rfl : _ = optV _ 0)); (case a1 => first | with_reducible assumption | exact va_lt (by with_reducible assumption) (by omega)))
  all_goals (try exact (0 : Nat))

theorem c_va1 {w : World} {p : Program} {loose : List PySem.Str} {mean : ExcName → Option Value} {mg mb : PySem.Str → Option Value} (e : Int) (tf te : Tok) (news : List (Addr × Obj)) (he0 : 2 ≤ e) (he1 : e ≤ 549755813888) :
    Ctr PySem.Challenge.rw_rh0227_01.row.prog w (Mine.hd.heap_1 w.params) p loose mean mg mb 40 200 349 [.int 1 tf, .int e te] news (VaOk (.s (strZ (e - 1))) (some (e - 1)) news) (fun _ => False) := by
  k_fill
  intro dp un gd cn cs a ccd cl outer A₀ base h₀ L m s Q E B F X N T hk hd hu hret herr
  refine wpAny_call ?_
  k_dflt k_enter
  k_steps
  
  all_goals (refine' hret _ _ _ _ ⟨_, _, _, _, _, rfl, ?a1, ?a2, ?a3, rfl⟩ ?aF ?aN; (case aF => k_asm); (case aN => first | k_asm | (refine' cb_drop ?cbN ?cbS; (case cbN => with_reducible assumption); (case cbS => (refine' List.forall_mem_cons.mpr ⟨?cbH, fun p hp => by (repeat' apply List.Mem.tail); exact hp⟩; (case cbH => repeat (first | exact List.Mem.head _ | refine' List.Mem.tail _ ?_)))))); (case a2 => exact rfl); (case a3 => first | exact rfl | exact (rfl : _ = optV _ 0)); (case a1 => first | with_reducible assumption | exact va_lt (by with_reducible assumption) (by omega)))
  all_goals (try exact (0 : Nat))

theorem c_va2 {w : World} {p : Program} {loose : List PySem.Str} {mean : ExcName → Option Value} {mg mb : PySem.Str → Option Value} (e : Int) (tf te : Tok) (news : List (Addr × Obj)) (he0 : 2 ≤ e) (he1 : e ≤ 549755813888) :
    Ctr PySem.Challenge.rw_rh0227_01.row.prog w (Mine.hd.heap_1 w.params) p loose mean mg mb 40 200 349 [.int 2 tf, .int e te] news (VaOk (.s (strZ e)) (some e) news) (fun _ => False) := by
  k_fill
  intro dp un gd cn cs a ccd cl outer A₀ base h₀ L m s Q E B F X N T hk hd hu hret herr
  refine wpAny_call ?_
  k_dflt k_enter
  k_steps
  
  all_goals (refine' hret _ _ _ _ ⟨_, _, _, _, _, rfl, ?a1, ?a2, ?a3, rfl⟩ ?aF ?aN; (case aF => k_asm); (case aN => first | k_asm | (refine' cb_drop ?cbN ?cbS; (case cbN => with_reducible assumption); (case cbS => (refine' List.forall_mem_cons.mpr ⟨?cbH, fun p hp => by (repeat' apply List.Mem.tail); exact hp⟩; (case cbH => repeat (first | exact List.Mem.head _ | refine' List.Mem.tail _ ?_)))))); (case a2 => exact rfl); (case a3 => first | exact rfl | exact (rfl : _ = optV _ 0)); (case a1 => first | with_reducible assumption | exact va_lt (by with_reducible assumption) (by omega)))
  all_goals (try exact (0 : Nat))

theorem c_va3 {w : World} {p : Program} {loose : List PySem.Str} {mean : ExcName → Option Value} {mg mb : PySem.Str → Option Value} (e : Int) (tf te : Tok) (news : List (Addr × Obj)) (he0 : 2 ≤ e) (he1 : e ≤ 549755813888) :
    Ctr PySem.Challenge.rw_rh0227_01.row.prog w (Mine.hd.heap_1 w.params) p loose mean mg mb 40 200 349 [.int 3 tf, .int e te] news (VaOk (.s (strZ (0 - e))) (some (0 - e)) news) (fun _ => False) := by
  k_fill
  intro dp un gd cn cs a ccd cl outer A₀ base h₀ L m s Q E B F X N T hk hd hu hret herr
  refine wpAny_call ?_
  k_dflt k_enter
  k_steps
  
  all_goals (refine' hret _ _ _ _ ⟨_, _, _, _, _, rfl, ?a1, ?a2, ?a3, rfl⟩ ?aF ?aN; (case aF => k_asm); (case aN => first | k_asm | (refine' cb_drop ?cbN ?cbS; (case cbN => with_reducible assumption); (case cbS => (refine' List.forall_mem_cons.mpr ⟨?cbH, fun p hp => by (repeat' apply List.Mem.tail); exact hp⟩; (case cbH => repeat (first | exact List.Mem.head _ | refine' List.Mem.tail _ ?_)))))); (case a2 => exact rfl); (case a3 => first | exact rfl | exact (rfl : _ = optV _ 0)); (case a1 => first | with_reducible assumption | exact va_lt (by with_reducible assumption) (by omega)))
  all_goals (try exact (0 : Nat))

theorem c_va4 {w : World} {p : Program} {loose : List PySem.Str} {mean : ExcName → Option Value} {mg mb : PySem.Str → Option Value} (e : Int) (tf te : Tok) (news : List (Addr × Obj)) (he0 : 2 ≤ e) (he1 : e ≤ 549755813888) :
    Ctr PySem.Challenge.rw_rh0227_01.row.prog w (Mine.hd.heap_1 w.params) p loose mean mg mb 40 200 349 [.int 4 tf, .int e te] news (VaOk (.s (strZ (0 - e - 1))) (some (0 - e - 1)) news) (fun _ => False) := by
  k_fill
  intro dp un gd cn cs a ccd cl outer A₀ base h₀ L m s Q E B F X N T hk hd hu hret herr
  refine wpAny_call ?_
  k_dflt k_enter
  k_steps
  
  all_goals (refine' hret _ _ _ _ ⟨_, _, _, _, _, rfl, ?a1, ?a2, ?a3, rfl⟩ ?aF ?aN; (case aF => k_asm); (case aN => first | k_asm | (refine' cb_drop ?cbN ?cbS; (case cbN => with_reducible assumption); (case cbS => (refine' List.forall_mem_cons.mpr ⟨?cbH, fun p hp => by (repeat' apply List.Mem.tail); exact hp⟩; (case cbH => repeat (first | exact List.Mem.head _ | refine' List.Mem.tail _ ?_)))))); (case a2 => exact rfl); (case a3 => first | exact rfl | exact (rfl : _ = optV _ 0)); (case a1 => first | with_reducible assumption | exact va_lt (by with_reducible assumption) (by omega)))
  all_goals (try exact (0 : Nat))

theorem c_va5 {w : World} {p : Program} {loose : List PySem.Str} {mean : ExcName → Option Value} {mg mb : PySem.Str → Option Value} (e : Int) (tf te : Tok) (news : List (Addr × Obj)) (he0 : 2 ≤ e) (he1 : e ≤ 549755813888) :
    Ctr PySem.Challenge.rw_rh0227_01.row.prog w (Mine.hd.heap_1 w.params) p loose mean mg mb 40 200 349 [.int 5 tf, .int e te] news (VaOk (.s (Str.ofString "+7")) (some 7) news) (fun _ => False) := by
  k_fill
  intro dp un gd cn cs a ccd cl outer A₀ base h₀ L m s Q E B F X N T hk hd hu hret herr
  refine wpAny_call ?_
  k_dflt k_enter
  k_steps
  
  all_goals (refine' hret _ _ _ _ ⟨_, _, _, _, _, rfl, ?a1, ?a2, ?a3, rfl⟩ ?aF ?aN; (case aF => k_asm); (case aN => first | k_asm | (refine' cb_drop ?cbN ?cbS; (case cbN => with_reducible assumption); (case cbS => (refine' List.forall_mem_cons.mpr ⟨?cbH, fun p hp => by (repeat' apply List.Mem.tail); exact hp⟩; (case cbH => repeat (first | exact List.Mem.head _ | refine' List.Mem.tail _ ?_)))))); (case a2 => exact rfl); (case a3 => first | exact rfl | exact (rfl : _ = optV _ 0)); (case a1 => first | with_reducible assumption | exact va_lt (by with_reducible assumption) (by omega)))
  all_goals (try exact (0 : Nat))

theorem c_va6 {w : World} {p : Program} {loose : List PySem.Str} {mean : ExcName → Option Value} {mg mb : PySem.Str → Option Value} (e : Int) (tf te : Tok) (news : List (Addr × Obj)) (he0 : 2 ≤ e) (he1 : e ≤ 549755813888) :
    Ctr PySem.Challenge.rw_rh0227_01.row.prog w (Mine.hd.heap_1 w.params) p loose mean mg mb 40 200 349 [.int 6 tf, .int e te] news (VaOk (.s (Str.ofString "")) (some 0) news) (fun _ => False) := by
  k_fill
  intro dp un gd cn cs a ccd cl outer A₀ base h₀ L m s Q E B F X N T hk hd hu hret herr
  refine wpAny_call ?_
  k_dflt k_enter
  k_steps
  
  all_goals (refine' hret _ _ _ _ ⟨_, _, _, _, _, rfl, ?a1, ?a2, ?a3, rfl⟩ ?aF ?aN; (case aF => k_asm); (case aN => first | k_asm | (refine' cb_drop ?cbN ?cbS; (case cbN => with_reducible assumption); (case cbS => (refine' List.forall_mem_cons.mpr ⟨?cbH, fun p hp => by (repeat' apply List.Mem.tail); exact hp⟩; (case cbH => repeat (first | exact List.Mem.head _ | refine' List.Mem.tail _ ?_)))))); (case a2 => exact rfl); (case a3 => first | exact rfl | exact (rfl : _ = optV _ 0)); (case a1 => first | with_reducible assumption | exact va_lt (by with_reducible assumption) (by omega)))
  all_goals (try exact (0 : Nat))

theorem c_va7 {w : World} {p : Program} {loose : List PySem.Str} {mean : ExcName → Option Value} {mg mb : PySem.Str → Option Value} (e : Int) (tf te : Tok) (news : List (Addr × Obj)) (he0 : 2 ≤ e) (he1 : e ≤ 549755813888) :
    Ctr PySem.Challenge.rw_rh0227_01.row.prog w (Mine.hd.heap_1 w.params) p loose mean mg mb 40 200 349 [.int 7 tf, .int e te] news (VaOk (.s (Str.ofString "x")) (none) news) (fun _ => False) := by
  k_fill
  intro dp un gd cn cs a ccd cl outer A₀ base h₀ L m s Q E B F X N T hk hd hu hret herr
  refine wpAny_call ?_
  k_dflt k_enter
  k_steps
  
  all_goals (refine' hret _ _ _ _ ⟨_, _, _, _, _, rfl, ?a1, ?a2, ?a3, rfl⟩ ?aF ?aN; (case aF => k_asm); (case aN => first | k_asm | (refine' cb_drop ?cbN ?cbS; (case cbN => with_reducible assumption); (case cbS => (refine' List.forall_mem_cons.mpr ⟨?cbH, fun p hp => by (repeat' apply List.Mem.tail); exact hp⟩; (case cbH => repeat (first | exact List.Mem.head _ | refine' List.Mem.tail _ ?_)))))); (case a2 => exact rfl); (case a3 => first | exact rfl | exact (rfl : _ = optV _ 0)); (case a1 => first | with_reducible assumption | exact va_lt (by with_reducible assumption) (by omega)))
  all_goals (try exact (0 : Nat))

theorem c_va8 {w : World} {p : Program} {loose : List PySem.Str} {mean : ExcName → Option Value} {mg mb : PySem.Str → Option Value} (e : Int) (tf te : Tok) (news : List (Addr × Obj)) (he0 : 2 ≤ e) (he1 : e ≤ 549755813888) :
    Ctr PySem.Challenge.rw_rh0227_01.row.prog w (Mine.hd.heap_1 w.params) p loose mean mg mb 40 200 349 [.int 8 tf, .int e te] news (VaOk (.i (0 - 1)) (some (0 - 1)) news) (fun _ => False) := by
  k_fill
  intro dp un gd cn cs a ccd cl outer A₀ base h₀ L m s Q E B F X N T hk hd hu hret herr
  refine wpAny_call ?_
  k_dflt k_enter
  k_steps
  
  all_goals (refine' hret _ _ _ _ ⟨_, _, _, _, _, rfl, ?a1, ?a2, ?a3, rfl⟩ ?aF ?aN; (case aF => k_asm); (case aN => first | k_asm | (refine' cb_drop ?cbN ?cbS; (case cbN => with_reducible assumption); (case cbS => (refine' List.forall_mem_cons.mpr ⟨?cbH, fun p hp => by (repeat' apply List.Mem.tail); exact hp⟩; (case cbH => repeat (first | exact List.Mem.head _ | refine' List.Mem.tail _ ?_)))))); (case a2 => exact rfl); (case a3 => first | exact rfl | exact (rfl : _ = optV _ 0)); (case a1 => first | with_reducible assumption | exact va_lt (by with_reducible assumption) (by omega)))
  all_goals (try exact (0 : Nat))

theorem Ctr.mono {prog : Program} {w : World} {K : Frag} {p : Program} {loose : List PySem.Str} {mean : ExcName → Option Value} {mg mb : PySem.Str → Option Value} {D U : Nat} {f : Addr} {vs : List Value} {news : List (Addr × Obj)} {ok ok' : Value → List (Addr × Obj) → Prop} {er : Int → Prop}
    (h : Ctr prog w K p loose mean mg mb D U f vs news ok er) (ho : ∀ v nw, ok v nw → ok' v nw) : Ctr prog w K p loose mean mg mb D U f vs news ok' er := by
  intro dp un gd cn cs a ccd cl outer A₀ base h₀ L m s Q E B F X N T hk hd hu hret herr
  exact h dp un gd cn cs a ccd cl outer A₀ base h₀ L m s Q E B F X N T hk hd hu (fun v nw h' tk' ok => hret v nw h' tk' (ho v nw ok)) herr
def LV (e : Int) (pv : PV) (num : Option Int) : Prop :=
  (pv = .i (e - 1) ∧ num = some (e - 1)) ∨ (pv = .s (strZ (e - 1)) ∧ num = some (e - 1)) ∨ (pv = .s (strZ e) ∧ num = some e) ∨ (pv = .s (strZ (0 - e)) ∧ num = some (0 - e)) ∨ (pv = .s (strZ (0 - e - 1)) ∧ num = some (0 - e - 1)) ∨ (pv = .s (Str.ofString "+7") ∧ num = some 7) ∨ (pv = .s (Str.ofString "") ∧ num = some 0) ∨ (pv = .s (Str.ofString "x") ∧ num = none) ∨ (pv = .i (0 - 1) ∧ num = some (0 - 1))
theorem c_value {w : World} {p : Program} {loose : List PySem.Str} {mean : ExcName → Option Value} {mg mb : PySem.Str → Option Value} (r e : Int) (tf te : Tok) (news : List (Addr × Obj)) (hr0 : 0 ≤ r) (hr9 : r < 9) (he0 : 2 ≤ e) (he1 : e ≤ 549755813888) :
    Ctr PySem.Challenge.rw_rh0227_01.row.prog w (Mine.hd.heap_1 w.params) p loose mean mg mb 40 200 349 [.int r tf, .int e te] news (fun v nw => ∃ pv num, LV e pv num ∧ VaOk pv num news v nw) (fun _ => False) := by
  by_cases er : r = 0
  · subst er
    exact (c_va0 e tf te news he0 he1).mono fun v nw h => ⟨_, _, .inl ⟨rfl, rfl⟩, h⟩
  by_cases er : r = 1
  · subst er
    exact (c_va1 e tf te news he0 he1).mono fun v nw h => ⟨_, _, .inr (.inl ⟨rfl, rfl⟩), h⟩
  by_cases er : r = 2
  · subst er
    exact (c_va2 e tf te news he0 he1).mono fun v nw h => ⟨_, _, .inr (.inr (.inl ⟨rfl, rfl⟩)), h⟩
  by_cases er : r = 3
  · subst er
    exact (c_va3 e tf te news he0 he1).mono fun v nw h => ⟨_, _, .inr (.inr (.inr (.inl ⟨rfl, rfl⟩))), h⟩
  by_cases er : r = 4
  · subst er
    exact (c_va4 e tf te news he0 he1).mono fun v nw h => ⟨_, _, .inr (.inr (.inr (.inr (.inl ⟨rfl, rfl⟩)))), h⟩
  by_cases er : r = 5
  · subst er
    exact (c_va5 e tf te news he0 he1).mono fun v nw h => ⟨_, _, .inr (.inr (.inr (.inr (.inr (.inl ⟨rfl, rfl⟩))))), h⟩
  by_cases er : r = 6
  · subst er
    exact (c_va6 e tf te news he0 he1).mono fun v nw h => ⟨_, _, .inr (.inr (.inr (.inr (.inr (.inr (.inl ⟨rfl, rfl⟩)))))), h⟩
  by_cases er : r = 7
  · subst er
    exact (c_va7 e tf te news he0 he1).mono fun v nw h => ⟨_, _, .inr (.inr (.inr (.inr (.inr (.inr (.inr (.inl ⟨rfl, rfl⟩))))))), h⟩
  by_cases er : r = 8
  · subst er
    exact (c_va8 e tf te news he0 he1).mono fun v nw h => ⟨_, _, .inr (.inr (.inr (.inr (.inr (.inr (.inr (.inr (⟨rfl, rfl⟩)))))))), h⟩
  omega
end

section
theorem said_24 : True := by
  k_with_none
  exact True.intro
theorem top_RhF10 : True := by
  w_top off
  exact True.intro
structure PowK (P wd : Int) : Prop where
  out : P = 2 ^ (wd - 1).toNat
theorem pow_K {prog : Program} {w : World} {A : Around} {E : Value → Shared → Prop} {s : Shared} {Q : Value → Shared → Prop} {P wd : Int} {t u : Tok} (hP : PowK P wd) (h1 : 1 ≤ wd) (h2 : wd ≤ 64)
    (h : Q (.int P s.toks) { s with toks := s.toks + 1 }) : wpAny (model prog w) A (binaryOp .Pow (.int 2 t) (.int (wd - 1) u)) Q E s :=
  pow_int_small (by omega) (by omega) (by decide) (hP.out ▸ h)
def dueErr (num : Option Int) (wd k : Int) : Prop := (num = none ∧ k = 1) ∨ ∃ n, num = some n ∧ ((fitsB n wd = false ∧ k = 1) ∨ (fitsB n wd = true ∧ n < 0 ∧ k = 14))
abbrev DueOk (num : Option Int) (wd : Int) (kd : PySem.Str) (news : List (Addr × Obj)) (v : Value) (nw : List (Addr × Obj)) : Prop :=
  (∃ k t, v = .int k t ∧ nw = news ∧ dueErr num wd k) ∨ ∃ T n t tk, v = .ref T ∧ num = some n ∧ fitsB n wd = true ∧ 0 ≤ n ∧ (∀ p ∈ news, p.1 < T) ∧ nw = (T, tup2 (.str kd tk) (.int n t)) :: news
theorem fit_yes {n P wd : Int} (hP : PowK P wd) (h1 : 0 - P ≤ n) (h2 : n < P) : fitsB n wd = true := by
  unfold fitsB; rw [← hP.out, decide_eq_true_eq]; omega
theorem fit_no1 {n P wd : Int} (hP : PowK P wd) (h1 : ¬ 0 - P ≤ n) : fitsB n wd = false := by
  unfold fitsB; rw [← hP.out, decide_eq_false_iff_not]; omega
theorem fit_no2 {n P wd : Int} (hP : PowK P wd) (h1 : ¬ n < P) : fitsB n wd = false := by
  unfold fitsB; rw [← hP.out, decide_eq_false_iff_not]; omega

theorem said_25 : True := by
  (k_with "ite!" => (first | refine ite_no (by decide) ?_ | refine ite_yes (by decide) ?_))
  (k_with "binaryOp Pow int int!" => (k_here; with_reducible refine pow_K (by with_reducible assumption) (by with_reducible assumption) (by with_reducible assumption) ?_; (try dsimp only)))
  exact True.intro
theorem c_due_none {w : World} {p : Program} {loose : List PySem.Str} {mean : ExcName → Option Value} {mg mb : PySem.Str → Option Value} (kd : PySem.Str) (tk : Tok) (wd : Int) (tw' : Tok) (news : List (Addr × Obj)) (h1 : 1 ≤ wd) (h2 : wd ≤ 64) :
    Ctr PySem.Challenge.rw_rh0227_01.row.prog w (Mine.hd.heap_1 w.params) p loose mean mg mb 40 200 356 [.str kd tk, .none, .int wd tw'] news (DueOk none wd kd news) (fun _ => False) := by
  k_fill
  intro dp un gd cn cs a ccd cl outer A₀ base h₀ L m s Q E B F X N T hk hd hu hret herr
  refine wpAny_call ?_
  k_dflt k_enter
  k_steps
  all_goals (refine hret _ _ _ _ (.inl ⟨_, _, rfl, rfl, .inl ⟨rfl, rfl⟩⟩) (by k_asm) (by k_asm))
theorem c_due_some {w : World} {p : Program} {loose : List PySem.Str} {mean : ExcName → Option Value} {mg mb : PySem.Str → Option Value} (n : Int) (tn : Tok) (kd : PySem.Str) (tk : Tok) (wd P : Int) (tw' : Tok) (news : List (Addr × Obj)) (h1 : 1 ≤ wd) (h2 : wd ≤ 64) (hP : PowK P wd) :
    Ctr PySem.Challenge.rw_rh0227_01.row.prog w (Mine.hd.heap_1 w.params) p loose mean mg mb 40 200 356 [.str kd tk, .int n tn, .int wd tw'] news (DueOk (some n) wd kd news) (fun _ => False) := by
  k_fill
  intro dp un gd cn cs a ccd cl outer A₀ base h₀ L m s Q E B F X N T hk hd hu hret herr
  refine wpAny_call ?_
  k_dflt k_enter
  k_steps
  
  
  all_goals first
    | (refine' hret _ _ _ _ (.inr ⟨_, n, _, _, rfl, rfl, ?a1, ?a2, ?a3, rfl⟩) ?aF ?aN; (case aF => k_asm); (case aN => k_asm); (case a3 => with_reducible assumption); (case a1 => (first | exact fit_yes (by with_reducible assumption) (by with_reducible assumption) (by with_reducible assumption) | exact fit_no1 (by with_reducible assumption) (by with_reducible assumption) | exact fit_no2 (by with_reducible assumption) (by with_reducible assumption))); (case a2 => omega))
    | (refine hret _ _ _ _ (.inl ⟨14, _, rfl, rfl, .inr ⟨n, rfl, .inr ⟨?a1, ?a2, rfl⟩⟩⟩) (by k_asm) (by k_asm); (case a1 => (first | exact fit_yes (by with_reducible assumption) (by with_reducible assumption) (by with_reducible assumption) | exact fit_no1 (by with_reducible assumption) (by with_reducible assumption) | exact fit_no2 (by with_reducible assumption) (by with_reducible assumption))); (case a2 => omega))
    | (refine hret _ _ _ _ (.inl ⟨1, _, rfl, rfl, .inr ⟨n, rfl, .inl ⟨?a1, rfl⟩⟩⟩) (by k_asm) (by k_asm); (case a1 => (first | exact fit_yes (by with_reducible assumption) (by with_reducible assumption) (by with_reducible assumption) | exact fit_no1 (by with_reducible assumption) (by with_reducible assumption) | exact fit_no2 (by with_reducible assumption) (by with_reducible assumption))))
theorem c_due {w : World} {p : Program} {loose : List PySem.Str} {mean : ExcName → Option Value} {mg mb : PySem.Str → Option Value} (num : Option Int) (tn : Tok) (kd : PySem.Str) (tk : Tok) (wd : Int) (tw' : Tok) (news : List (Addr × Obj)) (h1 : 1 ≤ wd) (h2 : wd ≤ 64) :
    Ctr PySem.Challenge.rw_rh0227_01.row.prog w (Mine.hd.heap_1 w.params) p loose mean mg mb 40 200 356 [.str kd tk, optV num tn, .int wd tw'] news (DueOk num wd kd news) (fun _ => False) := by
  cases num with
  | none => exact c_due_none kd tk wd tw' news h1 h2
  | some n => exact c_due_some n tn kd tk wd _ tw' news h1 h2 ⟨rfl⟩
end

section
theorem said_26 : True := by
  k_with_none
  exact True.intro
theorem top_RhG1 : True := by
  w_top off
  exact True.intro
/-- the same as Ctr, from a frame that is called from outside alone -/
def CtrL (prog : Program) (w : World) (K : Frag) (p : Program) (loose : List PySem.Str) (mean : ExcName → Option Value) (mg mb : PySem.Str → Option Value) (D U : Nat) (f : Addr) (vs : List Value) (news : List (Addr × Obj))
    (ok : Value → List (Addr × Obj) → Prop) : Prop :=
  ∀ (dp un : Nat) (gd : Option (List Code)) (cn : PySem.Str) (cs : Scope) (a : Addr) (ccd : Value) (cl : List (PySem.Str × Addr)) (A₀ : Around) (base h₀ : Heap) (L : Addr) (m : PySem.Str → Option Value) (s : Shared) (Q E : Value → Shared → Prop),
    Below A₀ base [] h₀ → Fr h₀ L s.heap m → K.In h₀ → News h₀ L s.heap news → Top p loose mean mg mb h₀ → K.In base → Top p loose mean mg mb base → cs.kind = .function → dp + D < recursionLimit → un + U < cLine →
    (∀ v nw h' tk', ok v nw → Fr h₀ L h' m → News h₀ L h' nw → Q v { s with heap := h', toks := tk' }) →
    wpAny (model prog w) (ktrTop dp un gd cn cs L a ccd cl []) (call (.ref f) vs) Q E s
section
variable {prog : Program} {w : World} {A₀ A : Around} {s : Shared} {base h₀ : Heap} {L a : Addr} {m : PySem.Str → Option Value} {cn : PySem.Str} {cs : Scope} {ccd : Value} {cl : List (PySem.Str × Addr)} {news : List (Addr × Obj)} {K : Frag} {p : Program} {loose : List PySem.Str} {mean : ExcName → Option Value} {mg mb : PySem.Str → Option Value}
    {R : Result → Shared → Prop} {name qual : PySem.Str} {params : Arguments} {body : List Stmt} {scope : Scope} {dV kV doc pm cdv ct oc : Value} {an od : Option Addr} {osl : Array (Option Value)} {f : Addr} {args : Args} {binds : List (PySem.Str × Value)}
/-- a def that may catch, called from a frame that has cells -/
theorem code_defX0 (B : Below A₀ base [] h₀) (F : Fr h₀ L s.heap m) (X₀ : K.In h₀) (N : News h₀ L s.heap news) (T : Top p loose mean mg mb h₀) (hA : A.frames = some [envX cn cs L a ccd cl])
    (ho : K.lookup f = some ⟨oc, od, .func (fnOf name qual params body scope dV kV doc pm an cdv ct), osl⟩) (hcd : codeIn K cdv qual = true) (hroom : A.depth < recursionLimit)
    (hbind : BindsTo s (fnOf name qual params body scope dV kV doc pm an cdv ct) args binds) (hloc : ∀ y ∈ binds, scope.names.lookup y.1 = some .local)
    (h : ∀ g L' h₁, Fr h₀ L g m → Fr g L' h₁ (fun y => binds.reverse.lookup y) → News g L' h₁ news → Below A base [envX cn cs L a ccd cl] g → K.In g → Top p loose mean mg mb g → KtsDicts ([envX cn cs L a ccd cl].filterMap (·.frame)) g →
      wpAny (model prog w) (A.deeper (envOf qual scope L' f cdv)) (execs body (envOf qual scope L' f cdv))
        (fun fl s' => LeaveS0 ([envX cn cs L a ccd cl].filterMap (·.frame)) h₀ L m g R (match fl with | .ret v => v | _ => .none) s')
        (fun e s' => wpAny (model prog w) (A.deeper (envOf qual scope L' f cdv)) (leaving (envOf qual scope L' f cdv) e) (fun _ s'' => R (.error e) s'') (fun e' s'' => R (.error e') s'') s')
        { s with heap := h₁, toks := s.toks + binds.length })
    (hck : cs.kind = .function) (hco : scope.isCoroutine = false) (hgen : scope.isGenerator = false) (hk : scope.kind = .function)
    (hcell : ∀ x ∈ scope.names, x.2 ≠ .cell) : codeAny (model prog w) A (.call (.ref f) args) R s := by
  have X := X₀.keeps F.keep
  refine codeAny_call_def (fd := fnOf name qual params body scope dV kV doc pm an cdv ct) (body := body) (binds := binds) hroom (X _ _ ho) rfl (T.nolimit.keeps F.keep) (codeRec_of X hcd) rfl hbind hcell hloc (fun h₁ hns hk₁ => ?_) hco hgen hk
  obtain ⟨FG, BG, st, _⟩ := groundX (R := R) B F N hA rfl hck
  have only : ∀ {b}, b ∈ [envX cn cs L a ccd cl].filterMap (·.frame) → b = L := fun {b} hb => List.mem_singleton.mp hb
  have dL : KtsDicts ([envX cn cs L a ccd cl].filterMap (·.frame)) (hideAll s.heap (news.map (·.1))) := fun b hb => by
    cases only hb
    obtain ⟨o, es, ep, e1, e2, _⟩ := FG.ns
    exact ⟨o, es, ep, e1, e2⟩
  refine wpAny_mono (h _ s.heap.objs.size h₁ FG ⟨hns, fun b o e => hk₁ b o (of_hideAll _ e), Nat.le_of_eq (hideAll_size _ _)⟩
    (fun q hq => ⟨hk₁ _ _ (N q hq).1, Nat.ne_of_lt (Heap.lt_size (N q hq).1), hideAll_none _ (List.mem_map_of_mem hq)⟩) BG (X₀.keeps st) (T.keeps st) dL) (fun fl s' hl => ?_) fun _ _ y => y
  obtain ⟨g', L', m', news', T', F', N', k⟩ := hl
  obtain ⟨oL, es, ep, e1, e2⟩ := FG.ns
  obtain ⟨sl, hs⟩ := T'.up e1
  have none_ : ∀ q ∈ news', ∀ b o, h₀.get? b = some o → q.1 ≠ b := fun q hq b o e z => by
    obtain ⟨sl', hs'⟩ := T'.up (st b o e)
    have := (N' q hq).2.2
    rw [z, hs'] at this
    cases this
  refine k ⟨⟨_, es, ep, F'.keep _ _ hs, e2⟩, fun b o e => F'.keep b o (T'.other b o (st b o e) fun hb => ?_), F.above⟩ fun q hq => ⟨(N' q hq).1, fun z => ?_, ?_⟩
  · have := kts_self F
    rw [← only hb, e] at this
    cases this
  · have := (N' q hq).2.2
    rw [z, hs] at this
    cases this
  · cases z : h₀.get? q.1 with
    | none => rfl
    | some o => exact absurd rfl (none_ q hq _ o z)
end

section
open PySem.F
variable {prog : Program} {w : World} {A : Around} {E : Value → Shared → Prop} {s : Shared} {K : Frag}
variable {nm q : PySem.Str} {C N e dx : Addr} {bs : List Value} {sn : List PySem.Str} {sub : List Value} {ab : Bool} {col : Option Bool} {dd : Option Addr} {k0 k1 k2 k3 k5 : Option Value} {od : Obj} {n : Int} {expr : Bool}
/-- an attribute of an exception that its own dict has -/
theorem get_exc {Q : Value → Shared → Prop} {name : PySem.Str} {oe : Obj} {vs : Array Value} {v : Value} (X : K.In s.heap) (hx : s.heap.get? e = some oe) (hoc : oe.cls = .ref C) (hod : oe.data = .fields vs) (I : InstAt s.heap e oe C (some od)) (hK : K.lookup C = some (excClassObj nm q C N bs bmX true sn sub ab col dd k0 k1 k2 k3 k5 "Exception.__new__"))
    (hga : findIn K (.ref C) "__getattribute__" = some (some (.builtin "BaseException.__getattribute__"))) (hgt : findIn K (.ref C) "__getattr__" = some none) (hf : findObj K C (some od) name = some (.value v)) (hh : handedIn v = true)
    (h : Q v { s with toks := s.toks + 1 }) : wpAny (model prog w) A (getAttr (.ref e) name expr) Q E s := by
  obtain ⟨hp, g, d, t, os⟩ := s
  have hC := X _ _ hK
  have L0 := I.type (M := model prog w)
  have L1 := looks_findIn (M := model prog w) X hga
  have L2 := looks_findIn (M := model prog w) X hgt
  have L3 := looks_find (M := model prog w) X I hf
  have f3 := attr_Exception.ga.bind (.ref e)
  have hx0 : (expr && onTheHeap (Value.builtin "BaseException.__getattribute__")) = false := by cases expr <;> rfl
  have hx2 : (Value.builtin "BaseException.__getattribute__" == Value.builtin "object.__getattribute__") = false := by decide +kernel
  have hx1 : (onTheHeap (Value.ref C) && Value.builtin "BaseException.__getattribute__" == Value.builtin "object.__getattribute__") = false := by rw [hx2]; rfl
  have hcB : (Value.ref C :: bmX).contains (.type "BaseException") = true := by simp
  have chk : ∀ {nv : Value} {A' : Around} {E' : Value → Shared → Prop} {Q' : Unit → Shared → Prop} {t' : Nat}, Q' () ⟨hp, g, d, t', os⟩ → wpAny (model prog w) A' (checkBuiltinCall "BaseException.__getattribute__" ⟨[.ref e, nv], []⟩) Q' E' ⟨hp, g, d, t', os⟩ := by
    intro nv A' E' Q' t' hq
    have hk : builtinKind "BaseException.__getattribute__" = some .slot := by decide +kernel
    have hsplit : splitId "BaseException.__getattribute__" = some ("BaseException", "__getattribute__") := by decide +kernel
    have ha := args_bexc_ga (.ref e) nv
    simp only [checkBuiltinCall, hk, hsplit]
    refine wpAny_bind ?_
    unfold isInstance
    repeat (first | (with_reducible refine wpAny_loadPart_at hx ?_; rw [hoc]) | (with_reducible refine wpAny_isSubtype_exc hC ?_; rw [hcB]) | wp_step)
    exact hq
  have back : ∀ {A' : Around} {R : Result → Shared → Prop}, R (.ok (.ret v)) ⟨hp, g, d, t + 1, os⟩ → codeAny (model prog w) A' (.call (.builtin "BaseException.__getattribute__") ⟨[.ref e, .str name t], []⟩) R ⟨hp, g, d, t + 1, os⟩ := by
    intro A' R hR
    refine codeAny_call_builtin attr_Exception.ga.plain entry_bexc_ga (chk ?_)
    unfold Builtin.«object.__getattribute__»
    refine wpAny_bind (wpAny_pure (wpAny_bind (wpAny_pure (wpAny_bind (L0.at (wpAny_bind (L3.at ?_)))))))
    exact wpAny_pure hR
  unfold getAttr getAttrBy
  refine wpAny_bind (wpAny_mkText (wpAny_holding (wpAny_bind (L0.at (wpAny_bind (L1.at ?_))))))
  dsimp only
  rw [hx1]
  unfold getAttrByItsOwn hookBefore
  refine wpAny_bind (L2.at ?_)
  repeat (any_goals (first | assumption | wp_step))
  refine back ?_
  repeat (any_goals (first | assumption | (with_reducible refine wpAny_pure ?_) | wp_step))
  all_goals (show wpAny (model prog w) A (handedOut v) Q E _; rw [handedOut_of hh]; exact wpAny_pure h)
/-- the number of an exception that has one -/
theorem get_num {Q : Value → Shared → Prop} {g : Heap} {L : Addr} {m : PySem.Str → Option Value} (F : Fr g L s.heap m) (X₀ : K.In g) (hx : ExcRec s.heap e C dx) (hd : s.heap.get? dx = some od) (hn : NumAt od n) (hK : K.lookup C = some (excClassObj nm q C N bs bmX true sn sub ab col dd k0 k1 k2 k3 k5 "Exception.__new__"))
    (hga : findIn K (.ref C) "__getattribute__" = some (some (.builtin "BaseException.__getattribute__"))) (hgt : findIn K (.ref C) "__getattr__" = some none) (ha : findIn K (.ref C) "number" = some none)
    (h : ∀ tk, Q (.int n tk) { s with toks := s.toks + 1 }) : wpAny (model prog w) A (getAttr (.ref e) "number" expr) Q E s := by
  obtain ⟨oe, h1, h2, h3, vs, h4⟩ := hx
  obtain ⟨es, ep, tk, e1, _, e3⟩ := hn
  have hc : clsIn K C = some { name := nm, bases := bs, mro := .ref C :: bmX, ns := N, qualname := q, hasDict := true, slotNames := sn, subclasses := sub, abstract := ab, collection := col, hasDel := false } := by unfold clsIn; rw [hK]
  have I : InstAt s.heap e oe C (some od) := ⟨h1, h2, by unfold notCls; rw [h4], by rw [h3]; exact hd⟩
  have hl : lookIn "number" od = some (some (.int n tk)) := by
    have e4 : (es.find? (·.key.isStr "number")).map (·.val) = some (.int n tk) := e3
    obtain ⟨en, e5, e6⟩ := Option.map_eq_some_iff.mp e4
    unfold lookIn
    rw [e1]
    dsimp only
    rw [Array.find?_toList, e5]
    dsimp only
    rw [e6]
  refine get_exc (X₀.keeps F.keep) h1 h2 h4 I hK hga hgt (v := .int n tk) ?_ rfl (h tk)
  unfold findObj
  rw [hc, Option.bind_some, ha, Option.bind_some]
  dsimp only [Option.bind_some]
  unfold PySem.W.ownOf
  rw [if_pos rfl]
  dsimp only
  rw [hl]
  rfl
end

theorem said_27 : True := by
  (k_with "callWith ref!" => (k_here; k_dflt (refine' callWith_F0 ?k1z19 ?_; (case k1z19 => exact FnAt.of (by k_asm) (by with_reducible assumption)); k_whole; try dsimp only [List.nil_append, List.cons_append])))
  exact True.intro
theorem c_heard {w : World} {p : Program} {loose : List PySem.Str} {mean : ExcName → Option Value} {mg mb : PySem.Str → Option Value} (fv : Addr) (oc : Value) (od : Option Addr) (fd : FuncData) (sl : Array (Option Value)) (D U : Nat) (news : List (Addr × Obj)) (ok : Value → List (Addr × Obj) → Prop) (er : Int → Prop)
    (hf : (fv, (⟨oc, od, .func fd, sl⟩ : Obj)) ∈ news) (hC : Ctr PySem.Challenge.rw_rh0227_01.row.prog w (Mine.hd.heap_1 w.params) p loose mean mg mb D U fv [] news ok er) :
    CtrL PySem.Challenge.rw_rh0227_01.row.prog w (Mine.hd.heap_1 w.params) p loose mean mg mb (D + 20) (U + 100) 363 [.ref fv] news (fun v nw => ok v nw ∨ ∃ n t, er n ∧ v = .int n t ∧ nw = news) := by
  k_fill
  intro dp un gd cn cs a ccd cl A₀ base h₀ L m s Q E B F X N T XB TB hk hd hu hret
  refine wpAny_call ?_
  k_dflt (refine' code_defX0 ?k1 ?k2 ?k3 ?k4 ?k5 ?kA ?k6 ?k7 ?k8 ?k9 ?kB ?_ ?cK ?c2 ?c3 ?c4 ?c5; (case kA => exact rfl); (case cK => first | exact rfl | assumption); (case k1 => k_asm); (case k2 => k_asm); (case k3 => assumption); (case k4 => k_asm); (case k5 => assumption); (case k6 => k_is); (case k7 => k_is); (case k8 => ktr_room); (case k9 => first | exact BindsTo.of_eq rfl | exact binds_K (by k_in) rfl (by k_is) rfl rfl rfl); (case c5 => decide); (case kB => exact locs rfl); (case c2 => exact rfl); (case c3 => exact rfl); (case c4 => exact rfl); k_whole; intro g' L' h' FG' F' N' B' X' T' D'; (try dsimp only); (try k_lift B'); (try k_fold))
  k_steps
  k_dflt (refine' hC _ _ _ _ _ _ _ _ _ _ _ _ _ _ _ _ _ ?k1 ?k2 ?k3 ?k4 ?k5 ?kK ?kd ?ku ?_ ?ke; (case k1 => k_asm); (case k2 => k_asm); (case k3 => k_asm); (case k4 => k_asm); (case k5 => k_asm); (case kK => first | exact rfl | assumption); (case kd => (try dsimp only [ktrTop, Around.deeper, Around.mark]); refine' Nat.lt_of_le_of_lt ?kq ?kp; (case kp => with_reducible assumption); (case kq => omega)); (case ku => (try dsimp only [ktrTop, Around.deeper, Around.mark]); refine' Nat.lt_of_le_of_lt ?kqu ?kpu; (case kpu => with_reducible assumption); (case kqu => omega)))
  · intro v9 n9 h9 tk9 ok9 F9 N9
    try dsimp only
    try k_fold
    k_steps
    exact hret _ _ _ _ (.inl ok9) (by k_asm) (by k_asm)
  · refine errK ?_
    intro n8 e8 G8 h8 tk8 er8 F8 R8 U8
    try dsimp only
    clear N N'
    refine caught_D R8 F8 (by assumption) U8 (by assumption) (by assumption) (by assumption) (by k_is) (by kts_isx) ?_
    intro h' g' tk' dx od T' F' N' hx hn K' X' P' D'
    try k_lift K'
    k_steps
    k_dflt (refine' get_num ?k1 ?k2 ?k3 ?k4 ?k5 ?k6 ?k7 ?k8 ?k9 ?_; (case k1 => k_asm); (case k2 => k_asm); (case k3 => with_reducible assumption); (case k4 => exact News.get (by k_asm) (.head _)); (case k5 => with_reducible assumption); (case k6 => k_is); (case k7 => k_is); (case k8 => k_is); (case k9 => k_is))
    intro tk5
    k_steps
    exact hret _ _ _ _ (.inr ⟨_, _, er8, rfl, rfl⟩) (by k_asm) (fun q hq => by rename News _ _ _ _ => kN9; exact kN9 q (.tail _ hq))
end

section
theorem said_28 : True := by
  k_with_none
  exact True.intro
theorem top_RhG2 : True := by
  w_top off
  exact True.intro
abbrev WrlOk (wd : Int) (news : List (Addr × Obj)) (v : Value) (nw : List (Addr × Obj)) : Prop :=
  ∃ W d hs nt tw' its c, v = .ref W ∧ (∀ p ∈ news, p.1 < d) ∧ @LT.lt Nat _ d W ∧ nw = (W, instObj 331 d) :: (d, wrlD hs nt wd tw' its c) :: news
abbrev HostOk (A B : Addr) (news : List (Addr × Obj)) (v : Value) (nw : List (Addr × Obj)) : Prop :=
  ∃ H d h1 h2 h3 h4 h5 h6 n1 n2 n3 n4 n5 n6 t9 t0 tw' C, v = .ref H ∧ (∀ p ∈ news, p.1 < d) ∧ @LT.lt Nat _ d H ∧ nw = (H, instObj 274 d) :: (d, hostD h1 h2 h3 h4 h5 h6 n1 n2 n3 n4 n5 n6 A B t9 t0 64 tw' C) :: news
abbrev DelOk (T : Addr) (news : List (Addr × Obj)) (v : Value) (nw : List (Addr × Obj)) : Prop :=
  ∃ x d hs nt, v = .ref x ∧ (∀ p ∈ news, p.1 < d) ∧ @LT.lt Nat _ d x ∧ nw = (x, instObj 96 d) :: (d, dictOf [⟨hs, .str (Str.ofString "tree") nt, .ref T⟩] 1) :: news

theorem c_delay {w : World} {p : Program} {loose : List PySem.Str} {mean : ExcName → Option Value} {mg mb : PySem.Str → Option Value} (T : Addr) (news : List (Addr × Obj)) :
    Ctr PySem.Challenge.rw_rh0227_01.row.prog w (Mine.hd.heap_1 w.params) p loose mean mg mb 40 200 96 [.ref T] news (DelOk T news) (fun _ => False) := by
  k_fill
  intro dp un gd cn cs a ccd cl outer A₀ base h₀ L m s Q E B F X N T hk hd hu hret herr
  k_steps
  
  all_goals (refine' hret _ _ _ _ ⟨_, _, _, _, rfl, ?a1, ?a2, rfl⟩ ?aF ?aN; (case aF => k_asm); (case aN => first | k_asm | (refine' cb_drop ?cbN ?cbS; (case cbN => with_reducible assumption); (case cbS => (refine' List.forall_mem_cons.mpr ⟨?cbH, List.forall_mem_cons.mpr ⟨?cbH2, fun p hp => by (repeat' apply List.Mem.tail); exact hp⟩⟩; (case cbH => (repeat (first | exact List.Mem.head _ | refine' List.Mem.tail _ ?_))); (case cbH2 => (repeat (first | exact List.Mem.head _ | refine' List.Mem.tail _ ?_))))))); (case a1 => with_reducible assumption); (case a2 => first | with_reducible assumption | omega))

theorem c_host {w : World} {p : Program} {loose : List PySem.Str} {mean : ExcName → Option Value} {mg mb : PySem.Str → Option Value} (A B : Addr) (t9 : Tok) (news : List (Addr × Obj)) :
    Ctr PySem.Challenge.rw_rh0227_01.row.prog w (Mine.hd.heap_1 w.params) p loose mean mg mb 40 200 274 [.ref A, .int 9 t9, .ref B] news (HostOk A B news) (fun _ => False) := by
  k_fill
  intro dp un gd cn cs a ccd cl outer A₀ base h₀ L m s Q E B F X N T hk hd hu hret herr
  k_steps
  
  all_goals (refine' hret _ _ _ _ ⟨_, _, _, _, _, _, _, _, _, _, _, _, _, _, _, _, _, _, rfl, ?a1, ?a2, rfl⟩ ?aF ?aN; (case aF => k_asm); (case aN => first | k_asm | (refine' cb_drop ?cbN ?cbS; (case cbN => with_reducible assumption); (case cbS => (refine' List.forall_mem_cons.mpr ⟨?cbH, List.forall_mem_cons.mpr ⟨?cbH2, fun p hp => by (repeat' apply List.Mem.tail); exact hp⟩⟩; (case cbH => (repeat (first | exact List.Mem.head _ | refine' List.Mem.tail _ ?_))); (case cbH2 => (repeat (first | exact List.Mem.head _ | refine' List.Mem.tail _ ?_))))))); (case a1 => with_reducible assumption); (case a2 => first | with_reducible assumption | omega))

theorem c_world {w : World} {p : Program} {loose : List PySem.Str} {mean : ExcName → Option Value} {mg mb : PySem.Str → Option Value} (wd : Int) (tw' : Tok) (news : List (Addr × Obj)) :
    Ctr PySem.Challenge.rw_rh0227_01.row.prog w (Mine.hd.heap_1 w.params) p loose mean mg mb 40 200 331 [.int wd tw'] news (WrlOk wd news) (fun _ => False) := by
  k_fill
  intro dp un gd cn cs a ccd cl outer A₀ base h₀ L m s Q E B F X N T hk hd hu hret herr
  k_steps
  
  all_goals (refine' hret _ _ _ _ ⟨_, _, _, _, _, _, _, rfl, ?a1, ?a2, rfl⟩ ?aF ?aN; (case aF => k_asm); (case aN => first | k_asm | (refine' cb_drop ?cbN ?cbS; (case cbN => with_reducible assumption); (case cbS => (refine' List.forall_mem_cons.mpr ⟨?cbH, List.forall_mem_cons.mpr ⟨?cbH2, fun p hp => by (repeat' apply List.Mem.tail); exact hp⟩⟩; (case cbH => (repeat (first | exact List.Mem.head _ | refine' List.Mem.tail _ ?_))); (case cbH2 => (repeat (first | exact List.Mem.head _ | refine' List.Mem.tail _ ?_))))))); (case a1 => with_reducible assumption); (case a2 => first | with_reducible assumption | omega))
end

section
theorem top_RhG3 : True := by
  w_top off
  exact True.intro
local macro_rules | `(tactic| k_mem) => `(tactic| (first | with_reducible assumption | (refine' List.mem_cons_of_mem _ ?_; first | with_reducible assumption | (refine' List.mem_cons_of_mem _ ?_; first | with_reducible assumption | (refine' List.mem_cons_of_mem _ ?_; first | with_reducible assumption | (refine' List.mem_cons_of_mem _ ?_; with_reducible assumption))))))

def kn (b : Bool) : PySem.Str := if b then Str.ofString "keyword" else Str.ofString "var"
def nm (b : Bool) : PySem.Str := if b then Str.ofString "&ANCHOR" else Str.ofString "ANCHOR"

theorem said_29 : True := by
  (k_with "subscriptTail!" => (k_here; (with_reducible show wpAny _ _ (subscriptTail _ _ (Value.ref _) (Value.int _ _)) _ _ _); (with_unfolding_all refine' item_litK ?k1z7 ?k2z7 ?k3z7 ?k4z7 ?_ ?k6z7; (case k1z7 => exact News.isList (by k_asm) (by k_mem)); (case k2z7 => decide); (case k3z7 => decide); (case k4z7 => rfl); (case k6z7 => with_unfolding_all rfl); k_whole)))
  (k_with "subscriptTail!" => (k_here; (with_reducible show wpAny _ _ (subscriptTail _ _ (Value.ref _) (Value.int _ _)) _ _ _); k_dflt (refine' item_tupleT ?tz8 ?az8 ?bz8 ?cz8 ?dz8 ?_; (case tz8 => exact News.isTup (by k_asm) (by k_mem)); (case az8 => decide); (case bz8 => decide); (case cz8 => rfl); (case dz8 => rfl); k_whole)))
  exact True.intro
theorem nm_len {b : Bool} : (nm b).length ≤ 7 := by cases b <;> decide
local macro_rules | `(tactic| kt_len) => `(tactic| exact nm_len)
abbrev refD (h1 h2 h3 : Int) (n1 n2 n3 : Nat) (b : Bool) (t1 t3 : Tok) : Obj :=
  dictOf [⟨h1, .str (Str.ofString "kind") n1, .str (kn b) t1⟩, ⟨h2, .str (Str.ofString "owner") n2, .none⟩, ⟨h3, .str (Str.ofString "key") n3, .str (Str.ofString "ANCHOR") t3⟩] 3
abbrev tup1 (a : Value) : Obj := { cls := .type "tuple", data := .seq #[a] }
abbrev tup3 (a b c : Value) : Obj := { cls := .type "tuple", data := .seq #[a, b, c] }
abbrev TxOk (x : PySem.Str) (news : List (Addr × Obj)) (v : Value) (nw : List (Addr × Obj)) : Prop := nw = news ∧ ∃ t, v = .str x t
theorem tx_elim {x : PySem.Str} {news nw : List (Addr × Obj)} {v : Value} {P : Prop} (ok : TxOk x news v nw) (k : ∀ t, news = nw → v = .str x t → P) : P := by obtain ⟨a, t, b⟩ := ok; exact k t a.symm b
theorem tx {x y : PySem.Str} {t : Tok} (h : x = y) : ∃ u, Value.str x t = .str y u := ⟨t, by rw [h]⟩
theorem sign_later {t1 t2 t3 t4 t5 t6 t7 t8 : Tok} : valueAt (strPairs [(Value.str (Str.ofString "cat") t1, Value.str (Str.ofString " ") t2), (Value.str (Str.ofString "alt") t3, Value.str (Str.ofString " | ") t4), (Value.str (Str.ofString "later") t5, Value.str (Str.ofString " . ") t6), (Value.str (Str.ofString "now") t7, Value.str (Str.ofString " $ ") t8)]) (Str.ofString "later") = some (.str (Str.ofString " . ") t6) := rfl
theorem sign_now {t1 t2 t3 t4 t5 t6 t7 t8 : Tok} : valueAt (strPairs [(Value.str (Str.ofString "cat") t1, Value.str (Str.ofString " ") t2), (Value.str (Str.ofString "alt") t3, Value.str (Str.ofString " | ") t4), (Value.str (Str.ofString "later") t5, Value.str (Str.ofString " . ") t6), (Value.str (Str.ofString "now") t7, Value.str (Str.ofString " $ ") t8)]) (Str.ofString "now") = some (.str (Str.ofString " $ ") t8) := rfl

theorem said_30 : True := by
  (k_with "compareOp In str ref!" => (k_here; (with_reducible show wpAny _ _ (compareOp CmpOp.In (Value.str _ _) (Value.ref _)) _ _ _); k_dflt (refine' in_tup_true ?k1z11 ?k2z11 ?kzz11 ?_; (case k1z11 => exact kun_topT (by k_asm) (by k_asm) (by k_is)); (case k2z11 => kde_strs); (case kzz11 => decide +kernel)); (try dsimp only)))
  (k_with "compareOp In str ref!" => (k_here; (with_reducible show wpAny _ _ (compareOp CmpOp.In (Value.str _ _) (Value.ref _)) _ _ _); k_dflt (refine' in_tup_false ?k1z12 ?k2z12 ?kzz12 ?_; (case k1z12 => exact kun_topT (by k_asm) (by k_asm) (by k_is)); (case k2z12 => kde_strs); (case kzz12 => decide +kernel)); (try dsimp only)))
  (k_with "compareOp NotIn str ref!" => (k_here; (with_reducible show wpAny _ _ (compareOp CmpOp.NotIn (Value.str _ _) (Value.ref _)) _ _ _); k_dflt (refine' notin_tup_true ?k1z13 ?k2z13 ?kzz13 ?_; (case k1z13 => exact kun_topT (by k_asm) (by k_asm) (by k_is)); (case k2z13 => kde_strs); (case kzz13 => decide +kernel)); (try dsimp only)))
  (k_with "compareOp NotIn str ref!" => (k_here; (with_reducible show wpAny _ _ (compareOp CmpOp.NotIn (Value.str _ _) (Value.ref _)) _ _ _); k_dflt (refine' notin_tup_false ?k1z14 ?k2z14 ?kzz14 ?_; (case k1z14 => exact kun_topT (by k_asm) (by k_asm) (by k_is)); (case k2z14 => kde_strs); (case kzz14 => decide +kernel)); (try dsimp only)))
  (k_with "ite!" => (first | refine ite_no (by decide) ?_ | refine ite_yes (by decide) ?_))
  (k_with "call type:str!" => (k_here; (with_reducible show wpAny _ _ (call (Value.type "str") [Value.str _ _]) _ _ _); k_dflt (refine PySem.P.str_of_str ?_); (try dsimp only)))
  exact True.intro
theorem c_ref_true {w : World} {p : Program} {loose : List PySem.Str} {mean : ExcName → Option Value} {mg mb : PySem.Str → Option Value} (x d : Addr) (h1 h2 h3 : Int) (n1 n2 n3 : Nat) (t1 t3 : Tok) (news : List (Addr × Obj)) (hx : (x, instObj 117 d) ∈ news) (hd' : (d, refD h1 h2 h3 n1 n2 n3 true t1 t3) ∈ news) :
    Ctr PySem.Challenge.rw_rh0227_01.row.prog w (Mine.hd.heap_1 w.params) p loose mean mg mb 10 60 229 [.ref x] news (TxOk (nm true) news) (fun _ => False) := by
  k_fill
  intro dp un gd cn cs a ccd cl outer A₀ base h₀ L m s Q E B F X N T hk hd hu hret herr
  dsimp only [refD, kn] at *
  refine wpAny_call ?_
  k_dflt k_enter
  k_steps
  
  all_goals (refine' hret _ _ _ _ ⟨rfl, ?a1⟩ ?aF ?aN; (case aF => k_asm); (case aN => first | k_asm | (refine' cb_drop ?cbN ?cbS; (case cbN => with_reducible assumption); (case cbS => intro p hp; (repeat' apply List.Mem.tail); exact hp))); (case a1 => exact tx (by decide +kernel)))

theorem c_ref_false {w : World} {p : Program} {loose : List PySem.Str} {mean : ExcName → Option Value} {mg mb : PySem.Str → Option Value} (x d : Addr) (h1 h2 h3 : Int) (n1 n2 n3 : Nat) (t1 t3 : Tok) (news : List (Addr × Obj)) (hx : (x, instObj 117 d) ∈ news) (hd' : (d, refD h1 h2 h3 n1 n2 n3 false t1 t3) ∈ news) :
    Ctr PySem.Challenge.rw_rh0227_01.row.prog w (Mine.hd.heap_1 w.params) p loose mean mg mb 10 60 229 [.ref x] news (TxOk (nm false) news) (fun _ => False) := by
  k_fill
  intro dp un gd cn cs a ccd cl outer A₀ base h₀ L m s Q E B F X N T hk hd hu hret herr
  dsimp only [refD, kn] at *
  refine wpAny_call ?_
  k_dflt k_enter
  k_steps
  
  all_goals (refine' hret _ _ _ _ ⟨rfl, ?a1⟩ ?aF ?aN; (case aF => k_asm); (case aN => first | k_asm | (refine' cb_drop ?cbN ?cbS; (case cbN => with_reducible assumption); (case cbS => intro p hp; (repeat' apply List.Mem.tail); exact hp))); (case a1 => exact tx (by decide +kernel)))

theorem c_ref {w : World} {p : Program} {loose : List PySem.Str} {mean : ExcName → Option Value} {mg mb : PySem.Str → Option Value} (b : Bool) (x d : Addr) (h1 h2 h3 : Int) (n1 n2 n3 : Nat) (t1 t3 : Tok) (news : List (Addr × Obj)) (hx : (x, instObj 117 d) ∈ news) (hd' : (d, refD h1 h2 h3 n1 n2 n3 b t1 t3) ∈ news) :
    Ctr PySem.Challenge.rw_rh0227_01.row.prog w (Mine.hd.heap_1 w.params) p loose mean mg mb 10 60 229 [.ref x] news (TxOk (nm b) news) (fun _ => False) := by
  cases b with
  | true => exact c_ref_true x d h1 h2 h3 n1 n2 n3 t1 t3 news hx hd'
  | false => exact c_ref_false x d h1 h2 h3 n1 n2 n3 t1 t3 news hx hd'

theorem said_31 : True := by
  (k_with "call ref!" => (k_here; (with_reducible show wpAny _ _ (call (Value.ref 229) _) _ _ _); k_dflt (refine' c_ref _ _ _ _ _ _ _ _ _ _ _ _ ?qxz21 ?qdz21 _ _ _ _ _ _ _ _ _ _ _ _ _ _ _ _ _ ?k1z21 ?k2z21 ?k3z21 ?k4z21 ?k5z21 ?kKz21 ?kdz21 ?kuz21 ?_ ?kez21; (case k1z21 => k_asm); (case k2z21 => k_asm); (case k3z21 => k_asm); (case k4z21 => k_asm); (case k5z21 => k_asm); (case kKz21 => first | exact rfl | assumption); (case kdz21 => (try dsimp only [ktrTop, Around.deeper, Around.mark]); refine' Nat.lt_of_le_of_lt ?kqz21 ?kpz21; (case kpz21 => with_reducible assumption); (case kqz21 => omega)); (case kuz21 => (try dsimp only [ktrTop, Around.deeper, Around.mark]); refine' Nat.lt_of_le_of_lt ?kquz21 ?kpuz21; (case kpuz21 => with_reducible assumption); (case kquz21 => omega))); (case qxz21 => k_mem); (case qdz21 => k_mem); (case kez21 => refine errK ?_; intro _ _ _ _ _ hE9; exact hE9.elim); intro v9 n9 h9 tk9 ok9 F9 N9; refine tx_elim ok9 ?_; intro t9 e91 e92; subst e91 e92; (try dsimp only); (try k_fold)))
  exact True.intro
theorem c_cursor {w : World} {p : Program} {loose : List PySem.Str} {mean : ExcName → Option Value} {mg mb : PySem.Str → Option Value} (b : Bool) (x d : Addr) (h1 h2 h3 : Int) (n1 n2 n3 : Nat) (t1 t3 : Tok) (D : Addr) (t : Tok) (news : List (Addr × Obj)) (hx : (x, instObj 117 d) ∈ news) (hd' : (d, refD h1 h2 h3 n1 n2 n3 b t1 t3) ∈ news) (hD : (D, tup2 (.str (Str.ofString "cursor") t) (.ref x)) ∈ news) :
    Ctr PySem.Challenge.rw_rh0227_01.row.prog w (Mine.hd.heap_1 w.params) p loose mean mg mb 30 150 236 [.ref D] news (TxOk (Str.ofString "@" ++ nm b) news) (fun _ => False) := by
  k_fill
  intro dp un gd cn cs a ccd cl outer A₀ base h₀ L m s Q E B F X N T hk hd hu hret herr
  refine wpAny_call ?_
  k_dflt k_enter
  k_steps
  all_goals (refine' hret _ _ _ _ ⟨rfl, ?a1⟩ ?aF ?aN; (case aF => k_asm); (case aN => first | k_asm | (refine' cb_drop ?cbN ?cbS; (case cbN => with_reducible assumption); (case cbS => intro p hp; (repeat' apply List.Mem.tail); exact hp))); (case a1 => exact tx rfl))

theorem c_rem {w : World} {p : Program} {loose : List PySem.Str} {mean : ExcName → Option Value} {mg mb : PySem.Str → Option Value} (D : Addr) (t : Tok) (news : List (Addr × Obj)) (hD : (D, tup1 (.str (Str.ofString "rem") t)) ∈ news) :
    Ctr PySem.Challenge.rw_rh0227_01.row.prog w (Mine.hd.heap_1 w.params) p loose mean mg mb 20 100 236 [.ref D] news (TxOk (Str.ofString "REM") news) (fun _ => False) := by
  k_fill
  intro dp un gd cn cs a ccd cl outer A₀ base h₀ L m s Q E B F X N T hk hd hu hret herr
  refine wpAny_call ?_
  k_dflt k_enter
  k_steps
  all_goals (refine' hret _ _ _ _ ⟨rfl, ?a1⟩ ?aF ?aN; (case aF => k_asm); (case aN => first | k_asm | (refine' cb_drop ?cbN ?cbS; (case cbN => with_reducible assumption); (case cbS => intro p hp; (repeat' apply List.Mem.tail); exact hp))); (case a1 => exact tx (by decide +kernel)))

theorem c_len1 {w : World} {p : Program} {loose : List PySem.Str} {mean : ExcName → Option Value} {mg mb : PySem.Str → Option Value} (D : Addr) (t u : Tok) (news : List (Addr × Obj)) (hD : (D, tup2 (.str (Str.ofString "len") t) (.int 1 u)) ∈ news) :
    Ctr PySem.Challenge.rw_rh0227_01.row.prog w (Mine.hd.heap_1 w.params) p loose mean mg mb 40 200 236 [.ref D] news (TxOk (Str.ofString "LEN(1)") news) (fun _ => False) := by
  k_fill
  intro dp un gd cn cs a ccd cl outer A₀ base h₀ L m s Q E B F X N T hk hd hu hret herr
  refine wpAny_call ?_
  k_dflt k_enter
  iterate 215 (first | (k_unfold; (try dsimp only)) | (k_end; wrow_close) | walk1 | (dsimp only; walk1) | (leave1; walk_say "STEP leave1"; try dsimp only) | fail "no step")
  all_goals (refine' hret _ _ _ _ ⟨rfl, ?a1⟩ ?aF ?aN; (case aF => k_asm); (case aN => first | k_asm | (refine' cb_drop ?cbN ?cbS; (case cbN => with_reducible assumption); (case cbS => intro p hp; (repeat' apply List.Mem.tail); exact hp))); (case a1 => exact tx (by decide +kernel)))
section

theorem said_32 : True := by
  (k_with "call ref!" => (k_here; (with_reducible show wpAny _ _ (call (Value.ref 236) _) _ _ _); k_dflt (refine' c_rem _ _ _ ?qDz22 _ _ _ _ _ _ _ _ _ _ _ _ _ _ _ _ _ ?k1z22 ?k2z22 ?k3z22 ?k4z22 ?k5z22 ?kKz22 ?kdz22 ?kuz22 ?_ ?kez22; (case k1z22 => k_asm); (case k2z22 => k_asm); (case k3z22 => k_asm); (case k4z22 => k_asm); (case k5z22 => k_asm); (case kKz22 => first | exact rfl | assumption); (case kdz22 => (try dsimp only [ktrTop, Around.deeper, Around.mark]); refine' Nat.lt_of_le_of_lt ?kqz22 ?kpz22; (case kpz22 => with_reducible assumption); (case kqz22 => omega)); (case kuz22 => (try dsimp only [ktrTop, Around.deeper, Around.mark]); refine' Nat.lt_of_le_of_lt ?kquz22 ?kpuz22; (case kpuz22 => with_reducible assumption); (case kquz22 => omega))); (case qDz22 => k_mem); (case kez22 => refine errK ?_; intro _ _ _ _ _ hE9; exact hE9.elim); intro v9 n9 h9 tk9 ok9 F9 N9; refine tx_elim ok9 ?_; intro t9 e91 e92; subst e91 e92; (try dsimp only); (try k_fold)))
  (k_with "getItem ref str!" => (k_here; k_dflt (refine' kdt_getItem (knd := PySem.strKind _ _) ?Nz23 ?mz23 ?hdz23 (strKind_is _ _ _ _) sign_later ?_; (case hdz23 => with_reducible assumption); (case Nz23 => k_asm); (case mz23 => k_mem)); (try dsimp only)))
  exact True.intro
theorem c_later {w : World} {p : Program} {loose : List PySem.Str} {mean : ExcName → Option Value} {mg mb : PySem.Str → Option Value} (b : Bool) (x d : Addr) (h1 h2 h3 : Int) (n1 n2 n3 : Nat) (t1 t3 : Tok) (D R : Addr) (t : Tok) (u : Tok) (news : List (Addr × Obj)) (hx : (x, instObj 117 d) ∈ news) (hd' : (d, refD h1 h2 h3 n1 n2 n3 b t1 t3) ∈ news) (hD : (D, tup3 (.str (Str.ofString "later") t) (.ref R) (.ref x)) ∈ news) (hR : (R, tup1 (.str (Str.ofString "rem") u)) ∈ news) :
    Ctr PySem.Challenge.rw_rh0227_01.row.prog w (Mine.hd.heap_1 w.params) p loose mean mg mb 60 300 236 [.ref D] news (TxOk (Str.ofString "(" ++ Str.ofString "REM" ++ Str.ofString " . " ++ nm b ++ Str.ofString ")") news) (fun _ => False) := by
  k_fill
  intro dp un gd cn cs a ccd cl outer A₀ base h₀ L m s Q E B F X N T hk hd hu hret herr
  refine wpAny_call ?_
  k_dflt k_enter
  k_steps
  all_goals (refine' hret _ _ _ _ ⟨rfl, ?a1⟩ ?aF ?aN; (case aF => k_asm); (case aN => first | k_asm | (refine' cb_drop ?cbN ?cbS; (case cbN => with_reducible assumption); (case cbS => intro p hp; (repeat' apply List.Mem.tail); exact hp))); (case a1 => exact tx rfl))
end
section

theorem said_33 : True := by
  k_with_none
  (k_with "subscriptTail!" => (k_here; (with_reducible show wpAny _ _ (subscriptTail _ _ (Value.ref _) (Value.int _ _)) _ _ _); (with_unfolding_all refine' item_litK ?k1z7 ?k2z7 ?k3z7 ?k4z7 ?_ ?k6z7; (case k1z7 => exact News.isList (by k_asm) (by k_mem)); (case k2z7 => decide); (case k3z7 => decide); (case k4z7 => rfl); (case k6z7 => with_unfolding_all rfl); k_whole)))
  (k_with "subscriptTail!" => (k_here; (with_reducible show wpAny _ _ (subscriptTail _ _ (Value.ref _) (Value.int _ _)) _ _ _); k_dflt (refine' item_tupleT ?tz8 ?az8 ?bz8 ?cz8 ?dz8 ?_; (case tz8 => exact News.isTup (by k_asm) (by k_mem)); (case az8 => decide); (case bz8 => decide); (case cz8 => rfl); (case dz8 => rfl); k_whole)))
  (k_with "compareOp In str ref!" => (k_here; (with_reducible show wpAny _ _ (compareOp CmpOp.In (Value.str _ _) (Value.ref _)) _ _ _); k_dflt (refine' in_tup_true ?k1z11 ?k2z11 ?kzz11 ?_; (case k1z11 => exact kun_topT (by k_asm) (by k_asm) (by k_is)); (case k2z11 => kde_strs); (case kzz11 => decide +kernel)); (try dsimp only)))
  (k_with "compareOp In str ref!" => (k_here; (with_reducible show wpAny _ _ (compareOp CmpOp.In (Value.str _ _) (Value.ref _)) _ _ _); k_dflt (refine' in_tup_false ?k1z12 ?k2z12 ?kzz12 ?_; (case k1z12 => exact kun_topT (by k_asm) (by k_asm) (by k_is)); (case k2z12 => kde_strs); (case kzz12 => decide +kernel)); (try dsimp only)))
  (k_with "compareOp NotIn str ref!" => (k_here; (with_reducible show wpAny _ _ (compareOp CmpOp.NotIn (Value.str _ _) (Value.ref _)) _ _ _); k_dflt (refine' notin_tup_true ?k1z13 ?k2z13 ?kzz13 ?_; (case k1z13 => exact kun_topT (by k_asm) (by k_asm) (by k_is)); (case k2z13 => kde_strs); (case kzz13 => decide +kernel)); (try dsimp only)))
  (k_with "compareOp NotIn str ref!" => (k_here; (with_reducible show wpAny _ _ (compareOp CmpOp.NotIn (Value.str _ _) (Value.ref _)) _ _ _); k_dflt (refine' notin_tup_false ?k1z14 ?k2z14 ?kzz14 ?_; (case k1z14 => exact kun_topT (by k_asm) (by k_asm) (by k_is)); (case k2z14 => kde_strs); (case kzz14 => decide +kernel)); (try dsimp only)))
  (k_with "ite!" => (first | refine ite_no (by decide) ?_ | refine ite_yes (by decide) ?_))
  (k_with "call type:str!" => (k_here; (with_reducible show wpAny _ _ (call (Value.type "str") [Value.str _ _]) _ _ _); k_dflt (refine PySem.P.str_of_str ?_); (try dsimp only)))
  (k_with "call ref!" => (k_here; (with_reducible show wpAny _ _ (call (Value.ref 229) _) _ _ _); k_dflt (refine' c_ref _ _ _ _ _ _ _ _ _ _ _ _ ?qxz21 ?qdz21 _ _ _ _ _ _ _ _ _ _ _ _ _ _ _ _ _ ?k1z21 ?k2z21 ?k3z21 ?k4z21 ?k5z21 ?kKz21 ?kdz21 ?kuz21 ?_ ?kez21; (case k1z21 => k_asm); (case k2z21 => k_asm); (case k3z21 => k_asm); (case k4z21 => k_asm); (case k5z21 => k_asm); (case kKz21 => first | exact rfl | assumption); (case kdz21 => (try dsimp only [ktrTop, Around.deeper, Around.mark]); refine' Nat.lt_of_le_of_lt ?kqz21 ?kpz21; (case kpz21 => with_reducible assumption); (case kqz21 => omega)); (case kuz21 => (try dsimp only [ktrTop, Around.deeper, Around.mark]); refine' Nat.lt_of_le_of_lt ?kquz21 ?kpuz21; (case kpuz21 => with_reducible assumption); (case kquz21 => omega))); (case qxz21 => k_mem); (case qdz21 => k_mem); (case kez21 => refine errK ?_; intro _ _ _ _ _ hE9; exact hE9.elim); intro v9 n9 h9 tk9 ok9 F9 N9; refine tx_elim ok9 ?_; intro t9 e91 e92; subst e91 e92; (try dsimp only); (try k_fold)))
  (k_with "call ref!" => (k_here; (with_reducible show wpAny _ _ (call (Value.ref 236) _) _ _ _); k_dflt (refine' c_len1 _ _ _ _ ?qDz24 _ _ _ _ _ _ _ _ _ _ _ _ _ _ _ _ _ ?k1z24 ?k2z24 ?k3z24 ?k4z24 ?k5z24 ?kKz24 ?kdz24 ?kuz24 ?_ ?kez24; (case k1z24 => k_asm); (case k2z24 => k_asm); (case k3z24 => k_asm); (case k4z24 => k_asm); (case k5z24 => k_asm); (case kKz24 => first | exact rfl | assumption); (case kdz24 => (try dsimp only [ktrTop, Around.deeper, Around.mark]); refine' Nat.lt_of_le_of_lt ?kqz24 ?kpz24; (case kpz24 => with_reducible assumption); (case kqz24 => omega)); (case kuz24 => (try dsimp only [ktrTop, Around.deeper, Around.mark]); refine' Nat.lt_of_le_of_lt ?kquz24 ?kpuz24; (case kpuz24 => with_reducible assumption); (case kquz24 => omega))); (case qDz24 => k_mem); (case kez24 => refine errK ?_; intro _ _ _ _ _ hE9; exact hE9.elim); intro v9 n9 h9 tk9 ok9 F9 N9; refine tx_elim ok9 ?_; intro t9 e91 e92; subst e91 e92; (try dsimp only); (try k_fold)))
  (k_with "getItem ref str!" => (k_here; k_dflt (refine' kdt_getItem (knd := PySem.strKind _ _) ?Nz25 ?mz25 ?hdz25 (strKind_is _ _ _ _) sign_now ?_; (case hdz25 => with_reducible assumption); (case Nz25 => k_asm); (case mz25 => k_mem)); (try dsimp only)))
  exact True.intro
theorem c_now {w : World} {p : Program} {loose : List PySem.Str} {mean : ExcName → Option Value} {mg mb : PySem.Str → Option Value} (b : Bool) (x d : Addr) (h1 h2 h3 : Int) (n1 n2 n3 : Nat) (t1 t3 : Tok) (D R : Addr) (t : Tok) (u u2 : Tok) (news : List (Addr × Obj)) (hx : (x, instObj 117 d) ∈ news) (hd' : (d, refD h1 h2 h3 n1 n2 n3 b t1 t3) ∈ news) (hD : (D, tup3 (.str (Str.ofString "now") t) (.ref R) (.ref x)) ∈ news) (hR : (R, tup2 (.str (Str.ofString "len") u) (.int 1 u2)) ∈ news) :
    Ctr PySem.Challenge.rw_rh0227_01.row.prog w (Mine.hd.heap_1 w.params) p loose mean mg mb 60 300 236 [.ref D] news (TxOk (Str.ofString "(" ++ Str.ofString "LEN(1)" ++ Str.ofString " $ " ++ nm b ++ Str.ofString ")") news) (fun _ => False) := by
  k_fill
  intro dp un gd cn cs a ccd cl outer A₀ base h₀ L m s Q E B F X N T hk hd hu hret herr
  refine wpAny_call ?_
  k_dflt k_enter
  k_steps
  all_goals (refine' hret _ _ _ _ ⟨rfl, ?a1⟩ ?aF ?aN; (case aF => k_asm); (case aN => first | k_asm | (refine' cb_drop ?cbN ?cbS; (case cbN => with_reducible assumption); (case cbS => intro p hp; (repeat' apply List.Mem.tail); exact hp))); (case a1 => exact tx rfl))
end
end

end

section
/-- the number that is due: none where it is no whole number of the width -/
def dueO (num : Option Int) (wd : Int) : Option Int := num.bind fun n => if fitsB n wd then some n else none
def pairs (e : Int) : List (PV × Option Int) := [(.i (e - 1), some (e - 1)), (.s (strZ (e - 1)), some (e - 1)), (.s (strZ e), some e), (.s (strZ (0 - e)), some (0 - e)), (.s (strZ (0 - e - 1)), some (0 - e - 1)), (.s (Str.ofString "+7"), some 7), (.s (Str.ofString ""), some 0), (.s (Str.ofString "x"), none), (.i (0 - 1), some (0 - 1))]
theorem said_34 : True := by
  k_with_none
  exact True.intro
theorem LV.mem {e : Int} {pv : PV} {num : Option Int} (h : LV e pv num) : (pv, num) ∈ pairs e := by
  unfold pairs
  rcases h with ⟨rfl, rfl⟩ | ⟨rfl, rfl⟩ | ⟨rfl, rfl⟩ | ⟨rfl, rfl⟩ | ⟨rfl, rfl⟩ | ⟨rfl, rfl⟩ | ⟨rfl, rfl⟩ | ⟨rfl, rfl⟩ | ⟨rfl, rfl⟩ <;> simp
def fitB : PV → Bool
  | .i _ => true
  | .s x => decide (x.length ≤ 100) && PyData.strOk x
def PV.good : PV → Prop
  | .i _ => True
  | .s x => PyData.strOk x = true
theorem fitB_fit : ∀ {pv : PV}, fitB pv = true → pv.fit ∧ pv.good
  | .i _, _ => ⟨trivial, trivial⟩
  | .s x, h => by
    have h' : (decide (x.length ≤ 100) && PyData.strOk x) = true := h
    rw [Bool.and_eq_true, decide_eq_true_eq] at h'
    exact h'
def ckOne (wd : Int) (q : PV × Option Int) : Bool := fitB q.1 && decide (tw q.1 wd = dueO q.2 wd) && decide (tw q.1 64 = dueO q.2 64)
def ckW (k : Nat) : Bool := (pairs (2 ^ (7 + k))).all (ckOne (8 + k))
theorem ck1 : (List.range 11).all ckW = true := by decide +kernel
theorem ck2 : (List.range 11).all (fun k => ckW (k + 11)) = true := by decide +kernel
theorem ck3 : (List.range 11).all (fun k => ckW (k + 22)) = true := by decide +kernel
theorem ckW_all {k : Nat} (h : k < 33) : ckW k = true := by
  by_cases h1 : k < 11
  · exact List.all_eq_true.mp ck1 k (List.mem_range.mpr h1)
  · by_cases h2 : k < 22
    · have := List.all_eq_true.mp ck2 (k - 11) (List.mem_range.mpr (by omega))
      rwa [show k - 11 + 11 = k by omega] at this
    · have := List.all_eq_true.mp ck3 (k - 22) (List.mem_range.mpr (by omega))
      rwa [show k - 22 + 22 = k by omega] at this
theorem plain {P wd : Int} {pv : PV} {num : Option Int} (hP : PowK P wd) (h8 : 8 ≤ wd) (h40 : wd ≤ 40) (h : LV P pv num) : (pv.fit ∧ pv.good) ∧ tw pv wd = dueO num wd ∧ tw pv 64 = dueO num 64 := by
  obtain ⟨k, hk⟩ : ∃ k : Nat, wd = 8 + k := ⟨(wd - 8).toNat, by omega⟩
  have e : P = 2 ^ (7 + k) := by rw [hP.out, hk, show (8 + (k : Int) - 1).toNat = 7 + k by omega]
  have c := List.all_eq_true.mp (ckW_all (k := k) (by omega)) (pv, num) (e ▸ h.mem)
  unfold ckOne at c
  rw [← hk] at c
  simp only [Bool.and_eq_true, decide_eq_true_eq] at c
  exact ⟨fitB_fit c.1.1, c.1.2, c.2⟩
theorem pow_bounds {P wd : Int} (hP : PowK P wd) (h8 : 8 ≤ wd) (h40 : wd ≤ 40) : 2 ≤ P ∧ P ≤ 549755813888 := by
  obtain ⟨k, hk⟩ : ∃ k : Nat, wd = 8 + k := ⟨(wd - 8).toNat, by omega⟩
  have e : P = 2 ^ (7 + k) := by rw [hP.out, hk, show (8 + (k : Int) - 1).toNat = 7 + k by omega]
  have h1 : ((List.range 33).all fun k => decide ((2 : Int) ≤ 2 ^ (7 + k)) && decide ((2 : Int) ^ (7 + k) ≤ 549755813888)) = true := by decide +kernel
  have c := List.all_eq_true.mp h1 k (List.mem_range.mpr (by omega))
  simp only [Bool.and_eq_true, decide_eq_true_eq] at c
  rw [e]; exact c

/-- what is said of the answer at the number o: the pattern's node, or the number of the error -/
def rd (o : Option Int) (kd : PySem.Str) : PyData := match o with
  | none => .int 1
  | some n => if n < 0 then .int 14 else .tuple [.str kd, .int n]
theorem kd_ok : ∀ j : Nat, PyData.strOk (kdOf j) = true
  | 0 => by decide +kernel
  | 1 => by decide +kernel
  | 2 => by decide +kernel
  | 3 => by decide +kernel
  | _ + 4 => by show PyData.strOk (Str.ofString "rtab") = true; decide +kernel
theorem rd_shaped (o : Option Int) (j : Nat) : PySem.SeqAt.shaped (rd o (kdOf j)) = true := by
  unfold rd
  split
  · rfl
  · split
    · rfl
    · simp [PySem.SeqAt.shaped, PyData.canLay0, PyData.canLayAll0, PyData.depth, PyData.depthAll, kd_ok]
theorem rd_eqv (o : Option Int) (kd : PySem.Str) : PyData.eqv (rd o kd) (rd o kd) = true := by
  unfold rd
  split
  · rfl
  · split
    · rfl
    · simp [PyData.eqv, PyData.eqvAll]
structure RdA (nw : List (Addr × Obj)) (v : Value) (d : PyData) : Prop where
  out : ∀ g L h, News g L h nw → ∃ as, Reads h v d as
abbrev HvA (d : PyData) (news : List (Addr × Obj)) (v : Value) (nw : List (Addr × Obj)) : Prop := (∀ p ∈ news, p ∈ nw) ∧ RdA nw v d
/-- what a lambda of the law gives: the node, somewhere in the ledger -/
abbrev LamOk (pv : PV) (kd : PySem.Str) (wd : Int) (news : List (Addr × Obj)) (v : Value) (nw : List (Addr × Obj)) : Prop := ∃ D n t tk, v = .ref D ∧ pcOk (tw pv wd) n ∧ (D, tup2 (.str kd tk) (.int n t)) ∈ nw ∧ ∀ p ∈ news, p ∈ nw
theorem rdA_tup {nw : List (Addr × Obj)} {D : Addr} {kd : PySem.Str} {n : Int} {t tk : Tok} (hm : (D, tup2 (.str kd tk) (.int n t)) ∈ nw) : RdA nw (.ref D) (.tuple [.str kd, .int n]) :=
  ⟨fun _ _ _ N => ⟨_, Reads.tuple (N _ hm).1 rfl rfl (ReadsAll.cons (Reads.str _ _) (ReadsAll.cons (Reads.int _ _) ReadsAll.nil))⟩⟩
theorem hvA_ok {pv : PV} {kd : PySem.Str} {wd : Int} {news nw : List (Addr × Obj)} {v : Value} (h : LamOk pv kd wd news v nw) : HvA (rd (tw pv wd) kd) news v nw := by
  obtain ⟨D, n, t, tk, rfl, ⟨e1, e2⟩, hm, hs⟩ := h
  refine ⟨hs, ?_⟩
  rw [e1]
  unfold rd
  dsimp only
  rw [if_neg (by omega)]
  exact rdA_tup hm
theorem hvA_er {o : Option Int} {kd : PySem.Str} {news nw : List (Addr × Obj)} {k : Int} {t : Tok} (h : pcEr o k) (e : nw = news) : HvA (rd o kd) news (.int k t) nw := by
  subst e
  refine ⟨fun _ h => h, ⟨fun _ _ _ _ => ?_⟩⟩
  rcases h with ⟨rfl, rfl⟩ | ⟨n, rfl, h, rfl⟩
  · exact ⟨_, Reads.int _ _⟩
  · unfold rd
    dsimp only
    rw [if_pos h]
    exact ⟨_, Reads.int _ _⟩
theorem hvA_due {num : Option Int} {kd : PySem.Str} {wd : Int} {news nw : List (Addr × Obj)} {v : Value} (h : DueOk num wd kd news v nw) : HvA (rd (dueO num wd) kd) news v nw := by
  rcases h with ⟨k, t, rfl, rfl, h⟩ | ⟨T, n, t, tk, rfl, rfl, hf, h0, _, rfl⟩
  · refine hvA_er ?_ rfl
    rcases h with ⟨rfl, rfl⟩ | ⟨n, rfl, ⟨hf, rfl⟩ | ⟨hf, hn, rfl⟩⟩
    · exact .inl ⟨rfl, rfl⟩
    · exact .inl ⟨by unfold dueO; rw [Option.bind_some, hf]; rfl, rfl⟩
    · exact .inr ⟨n, by unfold dueO; rw [Option.bind_some, hf]; rfl, hn, rfl⟩
  · refine ⟨fun _ h => .tail _ h, ?_⟩
    have e : dueO (some n) wd = some n := by unfold dueO; rw [Option.bind_some, hf]; rfl
    rw [e]
    unfold rd
    dsimp only
    rw [if_neg (by omega)]
    exact rdA_tup (.head _)
theorem ne_rd {prog : Program} {w : World} {A : Around} {E : Value → Shared → Prop} {s : Shared} {Q : Value → Shared → Prop} {g : Heap} {L : Addr} {n1 n2 : List (Addr × Obj)} {v1 v2 : Value} {o1 o2 : Option Int} {j : Nat}
    (N : News g L s.heap n2) (R1 : RdA n1 v1 (rd o1 (kdOf j))) (R2 : RdA n2 v2 (rd o2 (kdOf j))) (he : o1 = o2) (hsub : ∀ p ∈ n1, p ∈ n2) (hu : A.units + 64 < cLine) (h : Q (.bool false) s) : wpAny (model prog w) A (compareOp .NotEq v1 v2) Q E s := by
  subst he
  obtain ⟨as, ra⟩ := R1.out _ _ _ fun p hp => N p (hsub p hp)
  obtain ⟨bs, rb⟩ := R2.out _ _ _ N
  refine ne_dataH ra rb (rd_shaped _ _) (rd_shaped _ _) hu ?_
  rw [rd_eqv]
  exact h
def PV.dat : PV → PyData
  | .i n => .int n
  | .s x => .str x
theorem PV.reads {h : Heap} : ∀ (pv : PV) (t : Tok), Reads h (pv.val t) pv.dat []
  | .i _, _ => Reads.int _ _
  | .s _, _ => Reads.str _ _
theorem PV.eqv : ∀ pv : PV, PyData.eqv pv.dat pv.dat = true
  | .i _ => by simp [PV.dat, PyData.eqv]
  | .s _ => by simp [PV.dat, PyData.eqv]
/-- the node of what is not evaluated yet -/
def later (kd : PySem.Str) (pv : PV) : PyData := .tuple [.str kd, .tuple [.str "delay", .tuple [.str "value", pv.dat]]]
theorem ne_later {prog : Program} {w : World} {A : Around} {E : Value → Shared → Prop} {s : Shared} {Q : Value → Shared → Prop} {a b : Value} {as bs : List Addr} {j : Nat} {pv : PV} (hg : pv.good)
    (ra : Reads s.heap a (later (kdOf j) pv) as) (rb : Reads s.heap b (later (kdOf j) pv) bs) (hu : A.units + 64 < cLine) (h : Q (.bool false) s) : wpAny (model prog w) A (compareOp .NotEq a b) Q E s := by
  have d1 : PyData.strOk (Str.ofString "delay") = true := by decide +kernel
  have d2 : PyData.strOk (Str.ofString "value") = true := by decide +kernel
  have hs : PySem.SeqAt.shaped (later (kdOf j) pv) = true := by
    cases pv with
    | i n => simp [later, PV.dat, PySem.SeqAt.shaped, PyData.canLay0, PyData.canLayAll0, PyData.depth, PyData.depthAll, kd_ok, d1, d2]
    | s x =>
      have hg' : PyData.strOk x = true := hg
      simp [later, PV.dat, PySem.SeqAt.shaped, PyData.canLay0, PyData.canLayAll0, PyData.depth, PyData.depthAll, kd_ok, d1, d2, hg']
  have he : PyData.eqv (later (kdOf j) pv) (later (kdOf j) pv) = true := by unfold later; simp [PyData.eqv, PyData.eqvAll, PV.eqv]
  refine ne_dataH ra rb hs hs hu ?_
  rw [he]
  exact h
theorem reads_later {h : Heap} {g : Heap} {L : Addr} {nw : List (Addr × Obj)} {T1 T2 D : Addr} {kd : PySem.Str} {pv : PV} {t1 t2 t3 t4 : Tok} (N : News g L h nw) (h1 : (T1, tup2 (.str kd t1) (.ref T2)) ∈ nw) (h2 : (T2, tup2 (.str (Str.ofString "delay") t2) (.ref D)) ∈ nw) (h3 : (D, tup2 (.str (Str.ofString "value") t3) (pv.val t4)) ∈ nw) :
    ∃ as, Reads h (.ref T1) (later kd pv) as :=
  ⟨_, Reads.tuple (N _ h1).1 rfl rfl (ReadsAll.cons (Reads.str _ _) (ReadsAll.cons (Reads.tuple (N _ h2).1 rfl rfl (ReadsAll.cons (Reads.str _ _) (ReadsAll.cons (Reads.tuple (N _ h3).1 rfl rfl (ReadsAll.cons (Reads.str _ _) (ReadsAll.cons (PV.reads _ _) ReadsAll.nil))) ReadsAll.nil))) ReadsAll.nil))⟩
theorem ne_latr {prog : Program} {w : World} {A : Around} {E : Value → Shared → Prop} {s : Shared} {Q : Value → Shared → Prop} {g : Heap} {L : Addr} {nw : List (Addr × Obj)} {T1 T2 D S1 S2 S3 : Addr} {j : Nat} {pv : PV} {t1 t2 t3 t4 u1 u2 u3 u4 : Tok} (hg : pv.good) (N : News g L s.heap nw)
    (h1 : (T1, tup2 (.str (kdOf j) t1) (.ref T2)) ∈ nw) (h2 : (T2, tup2 (.str (Str.ofString "delay") t2) (.ref D)) ∈ nw) (h3 : (D, tup2 (.str (Str.ofString "value") t3) (pv.val t4)) ∈ nw)
    (k1 : (S1, tup2 (.str (kdOf j) u1) (.ref S2)) ∈ nw) (k2 : (S2, tup2 (.str (Str.ofString "delay") u2) (.ref S3)) ∈ nw) (k3 : (S3, tup2 (.str (Str.ofString "value") u3) (pv.val u4)) ∈ nw)
    (hu : A.units + 64 < cLine) (h : Q (.bool false) s) : wpAny (model prog w) A (compareOp .NotEq (.ref T1) (.ref S1)) Q E s := by
  obtain ⟨as, ra⟩ := reads_later N h1 h2 h3
  obtain ⟨bs, rb⟩ := reads_later N k1 k2 k3
  exact ne_later hg ra rb hu h
end

section
theorem updA_ofF {l : Addr} {o : Obj} {o' : Tok → Obj} {news : List (Addr × Obj)} {g : Obj → List (Addr × Obj)} (U : UpdF l o news g) : UpdA l o o' news (fun t => g (o' t)) := ⟨fun t => by
  induction U with
  | head h => exact .head h
  | tail h U ih => exact .tail h ih⟩
theorem take16 {ws : List Value} {w : List Int} (h : IntsAre ws (List.take 16 w)) : (List.take 16 w).length ≤ 16 ∧ ws.length ≤ 16 := by
  have := h.length
  have e : (List.take 16 w).length ≤ 16 := by rw [List.length_take]; omega
  exact ⟨e, by omega⟩

/-- the two names that stand through the loop -/
theorem fr_two {h₀ : Heap} {L : Addr} {h : Heap} {x y z : PySem.Str} {v vy vz : Value} {m₁ : PySem.Str → Option Value} (h1 : m₁ y = some vy) (h2 : m₁ z = some vz) (F : Fr h₀ L h (fun q => if q = x then some v else m₁ q)) :
    Fr h₀ L h (fun q => if q = x then some v else if q = y then some vy else if q = z then some vz else m₁ q) := by
  have e : (fun q => if q = x then some v else if q = y then some vy else if q = z then some vz else m₁ q) = fun q => if q = x then some v else m₁ q := by
    funext q
    by_cases a : q = x
    · rw [if_pos a, if_pos a]
    · rw [if_neg a, if_neg a]
      by_cases b : q = y
      · rw [if_pos b, b, h1]
      · rw [if_neg b]
        by_cases c : q = z
        · rw [if_pos c, c, h2]
        · rw [if_neg c]
  rw [e]; exact F
abbrev tab3 (a1 a2 a3 : Addr) : Array Value := #[rawInt 218, rawInt 22, .ref a1, rawInt 223, rawInt 22, .ref a2, rawInt 226, rawInt 22, .ref a3]
/-- what holds between the turns -/
def JJ (l D W dW c : Addr) (ws : List Value) (hs : Int) (nt : Nat) (wd : Int) (tw' tv : Tok) (its : List DictEntry) (n9 : Nat) (o5 : Obj) (i : Nat) (m : PySem.Str → Option Value) (nx : List (Addr × Obj)) : Prop :=
  m "feed" = some (.ref l) ∧ m "width" = some (.int wd tv) ∧ ∃ turn k o1 o2 o3 o4 v1 v2 v3 v4, 0 ≤ turn ∧ turn ≤ 2 + 2 * (i : Int) ∧ o1.data = .cell v1 ∧ o2.data = .cell v2 ∧ o3.data = .cell v3 ∧ o4.data = .cell v4 ∧
  ((i = 0 ∧ nx = [(W, instObj 331 dW), (dW, wrlD hs nt wd tw' its n9), (l, feedO D turn k), (D, PySem.W.listOf ws.toArray 0), (c + 1 + 1 + 1 + 1 + 1, o5), (c + 1 + 1 + 1 + 1, o4), (c + 1 + 1 + 1, o3), (c + 1 + 1, o2), (c + 1, o1), (365, tabObj #[])]) ∨
   (∃ a1 a2 a3 q1 q2 q3 s1 s2 s3 t1 t2 t3, @LT.lt Nat _ W a1 ∧ @LT.lt Nat _ W a2 ∧ @LT.lt Nat _ W a3 ∧ q1.data = .fields s1 ∧ s1[1]? = some (.str (Str.ofString "law" ++ ".<locals>." ++ "<lambda>") t1) ∧ q2.data = .fields s2 ∧ s2[1]? = some (.str (Str.ofString "law" ++ ".<locals>." ++ "<lambda>") t2) ∧ q3.data = .fields s3 ∧ s3[1]? = some (.str (Str.ofString "law" ++ ".<locals>." ++ "<lambda>") t3) ∧
    nx = [(W, instObj 331 dW), (dW, wrlD hs nt wd tw' its n9), (l, feedO D turn k), (D, PySem.W.listOf ws.toArray 0), (c + 1 + 1 + 1 + 1 + 1, o5), (c + 1 + 1 + 1 + 1, o4), (c + 1 + 1 + 1, o3), (c + 1 + 1, o2), (c + 1, o1), (365, tabObj (tab3 a1 a2 a3)), (a1, q1), (a2, q2), (a3, q3)]))
theorem JJ0 {l D W dW c b1 b2 b3 b4 b5 : Addr} {ws : List Value} {hs : Int} {nt : Nat} {wd : Int} {tw' tv : Tok} {its : List DictEntry} {n9 : Nat} {o5 : Obj} {m : PySem.Str → Option Value} {k : Tok} {o1 o2 o3 o4 : Obj} {v1 v2 v3 v4 : Option Value}
    (e1 : b1 = c + 1) (e2 : b2 = c + 1 + 1) (e3 : b3 = c + 1 + 1 + 1) (e4 : b4 = c + 1 + 1 + 1 + 1) (e5 : b5 = c + 1 + 1 + 1 + 1 + 1)
    (d1 : o1.data = .cell v1) (d2 : o2.data = .cell v2) (d3 : o3.data = .cell v3) (d4 : o4.data = .cell v4) (h1 : m "feed" = some (.ref l)) (h2 : m "width" = some (.int wd tv)) :
    JJ l D W dW c ws hs nt wd tw' tv its n9 o5 0 m [(W, instObj 331 dW), (dW, wrlD hs nt wd tw' its n9), (l, feedO D (0 + 1 + 1) k), (D, PySem.W.listOf ws.toArray 0), (b5, o5), (b4, o4), (b3, o3), (b2, o2), (b1, o1), (365, tabObj #[])] := by
  subst e1 e2 e3 e4 e5
  exact ⟨h1, h2, _, _, _, _, _, _, _, _, _, _, by decide, by decide, d1, d2, d3, d4, .inl ⟨rfl, rfl⟩⟩
theorem tbOff_own {own nx : List (Addr × Obj)} (h : TbOff own nx) : OwnOff own (nx.map (·.1)) := by
  intro p hp b hb
  obtain ⟨q, hq, rfl⟩ := List.mem_map.mp hb
  exact h p hp q hq
theorem range_le {r : Int} {i : Nat} {k : Int} (h1 : r < 3) (h0 : 0 ≤ r) (h : (rangeKs 0 (1 + r - 0).toNat)[i]? = some k) : i ≤ 2 := by
  have := (List.getElem?_eq_some_iff.mp h).1
  rw [rangeKs_length] at this
  omega

theorem item_kd {prog : Program} {w : World} {A : Around} {E : Value → Shared → Prop} {s : Shared} {g : Heap} {L : Addr} {news : List (Addr × Obj)} {value slice : PySem.Expr} {l : Addr} {r : Int} {u : Tok} {n : Nat} {Q : Value → Shared → Prop} {t0 t1 t2 t3 t4 : Tok} (N : News g L s.heap news) (hm : (l, PySem.W.listOf #[.str (Str.ofString "len") t0, .str (Str.ofString "pos") t1, .str (Str.ofString "rpos") t2, .str (Str.ofString "tab") t3, .str (Str.ofString "rtab") t4] n) ∈ news) (h0 : 0 ≤ r) (h5 : r < 5) (h : ∀ t, Q (.str (kdOf r.toNat) t) s)
    (hs : subscripted slice false (.ref l) (.int r u) = operate [.ref l, .int r u] (getItem (.ref l) (.int r u)) := by with_unfolding_all rfl) : wpAny (model prog w) A (subscriptTail value slice (.ref l) (.int r u)) Q E s := by
  have hl : s.heap.IsList l ([.str (Str.ofString "len") t0, .str (Str.ofString "pos") t1, .str (Str.ofString "rpos") t2, .str (Str.ofString "tab") t3, .str (Str.ofString "rtab") t4] : List Value).toArray := News.isList N hm
  obtain rfl | rfl | rfl | rfl | rfl : r = 0 ∨ r = 1 ∨ r = 2 ∨ r = 3 ∨ r = 4 := by omega
  all_goals exact item_litK hl (by decide) (by decide) rfl (h _) hs

theorem item_f {prog : Program} {w : World} {A : Around} {E : Value → Shared → Prop} {s : Shared} {g : Heap} {L : Addr} {news : List (Addr × Obj)} {value slice : PySem.Expr} {l : Addr} {r : Int} {u : Tok} {n : Nat} {Q : Value → Shared → Prop} (N : News g L s.heap news) (hm : (l, PySem.W.listOf #[.ref 285, .ref 292, .ref 299, .ref 306, .ref 313] n) ∈ news) (h0 : 0 ≤ r) (h5 : r < 5) (h : Q (.ref (fOf r.toNat)) s)
    (hs : subscripted slice false (.ref l) (.int r u) = operate [.ref l, .int r u] (getItem (.ref l) (.int r u)) := by with_unfolding_all rfl) : wpAny (model prog w) A (subscriptTail value slice (.ref l) (.int r u)) Q E s := by
  have hl : s.heap.IsList l ([.ref 285, .ref 292, .ref 299, .ref 306, .ref 313] : List Value).toArray := News.isList N hm
  obtain rfl | rfl | rfl | rfl | rfl : r = 0 ∨ r = 1 ∨ r = 2 ∨ r = 3 ∨ r = 4 := by omega
  all_goals exact item_litK hl (by decide) (by decide) rfl h hs

theorem c_heardA {w : World} {p : Program} {loose : List PySem.Str} {mean : ExcName → Option Value} {mg mb : PySem.Str → Option Value} (fv : Addr) (oc : Value) (od : Option Addr) (fd : FuncData) (sl : Array (Option Value)) (j : Nat) (pv : PV) (wd : Int) (news : List (Addr × Obj))
    (hf : (fv, (⟨oc, od, .func fd, sl⟩ : Obj)) ∈ news) (hC : Ctr PySem.Challenge.rw_rh0227_01.row.prog w (Mine.hd.heap_1 w.params) p loose mean mg mb 120 560 fv [] news (LamOk pv (kdOf j) wd news) (pcEr (tw pv wd))) :
    CtrL PySem.Challenge.rw_rh0227_01.row.prog w (Mine.hd.heap_1 w.params) p loose mean mg mb 140 660 363 [.ref fv] news (HvA (rd (tw pv wd) (kdOf j)) news) := by
  intro dp un gd cn cs a ccd cl A₀ base h₀ L m s Q E B F X N T XB TB hk hd hu hret
  refine c_heard fv oc od fd sl 120 560 news _ _ hf hC dp un gd cn cs a ccd cl A₀ base h₀ L m s Q E B F X N T XB TB hk hd hu fun v nw h' tk' ok => hret v nw h' tk' ?_
  rcases ok with ok | ⟨n, t, e1, rfl, rfl⟩
  · exact hvA_ok ok
  · exact hvA_er e1 rfl
theorem c_dueA {w : World} {p : Program} {loose : List PySem.Str} {mean : ExcName → Option Value} {mg mb : PySem.Str → Option Value} (num : Option Int) (tn : Tok) (kd : PySem.Str) (tk : Tok) (wd : Int) (tw' : Tok) (news : List (Addr × Obj)) (h1 : 1 ≤ wd) (h2 : wd ≤ 64) :
    Ctr PySem.Challenge.rw_rh0227_01.row.prog w (Mine.hd.heap_1 w.params) p loose mean mg mb 40 200 356 [.str kd tk, optV num tn, .int wd tw'] news (HvA (rd (dueO num wd) kd) news) (fun _ => False) := (c_due num tn kd tk wd tw' news h1 h2).mono fun _ _ h => hvA_due h

theorem pow_ex {r : Int} (h : r < 33) (h0 : 0 ≤ r) : ∃ P, PowK P (8 + r) ∧ 2 ≤ P ∧ P ≤ 549755813888 ∧ 8 ≤ 8 + r ∧ 8 + r ≤ 40 := by
  have := pow_bounds (P := 2 ^ (8 + r - 1).toNat) (wd := 8 + r) ⟨rfl⟩ (by omega) (by omega)
  exact ⟨_, ⟨rfl⟩, this.1, this.2, by omega, by omega⟩

structure LtAll (news : List (Addr × Obj)) (c : Addr) : Prop where
  out : ∀ q ∈ news, q.1 < c
theorem ltAll_ne {own news : List (Addr × Obj)} {c : Addr} (l : LtAll news c) (hs : ∀ p ∈ own, p ∈ news) : ∀ p ∈ own, p.1 ≠ c := fun p hp => Nat.ne_of_lt (l.out p (hs p hp))
structure OwnLt (own : List (Addr × Obj)) (c : Addr) : Prop where
  out : ∀ p ∈ own, p.1 ≠ c
theorem ownLt {own news : List (Addr × Obj)} {adr : List Addr} {c : Addr} (_h : OwnOff own adr) (l : ∀ q ∈ news, q.1 < c) (hs : ∀ p ∈ own, p ∈ news) : OwnLt own c := ⟨fun p hp => Nat.ne_of_lt (l p (hs p hp))⟩
theorem turn_end {h₀ h' : Heap} {L l D W dW c : Addr} {ws : List Value} {hs : Int} {nt : Nat} {wd : Int} {tw' tv : Tok} {its : List DictEntry} {n9 : Nat} {o5 : Obj} {m' : PySem.Str → Option Value} {own news' : List (Addr × Obj)} {i : Nat} {s₁ : Shared} {tk : Nat} {turn : Int} {k : Tok} {o1 o2 o3 o4 : Obj} {v1 v2 v3 v4 : Option Value}
    {a1 a2 a3 : Addr} {q1 q2 q3 : Obj} {s1 s2 s3 : Array Value} {t1 t2 t3 : Tok} {adr : List Addr} (F : Fr h₀ L h' m') (N : News h₀ L h' news') (hf : m' "feed" = some (.ref l)) (hw : m' "width" = some (.int wd tv)) (ht0 : 0 ≤ turn) (ht1 : turn ≤ 2 + 2 * ((i + 1 : Nat) : Int))
    (e1 : o1.data = .cell v1) (e2 : o2.data = .cell v2) (e3 : o3.data = .cell v3) (e4 : o4.data = .cell v4) (l1 : @LT.lt Nat _ W a1) (l2 : @LT.lt Nat _ W a2) (l3 : @LT.lt Nat _ W a3)
    (f1 : q1.data = .fields s1) (g1 : s1[1]? = some (.str (Str.ofString "law" ++ ".<locals>." ++ "<lambda>") t1)) (f2 : q2.data = .fields s2) (g2 : s2[1]? = some (.str (Str.ofString "law" ++ ".<locals>." ++ "<lambda>") t2)) (f3 : q3.data = .fields s3) (g3 : s3[1]? = some (.str (Str.ofString "law" ++ ".<locals>." ++ "<lambda>") t3))
    (hn : ∀ p ∈ [(W, instObj 331 dW), (dW, wrlD hs nt wd tw' its n9), (l, feedO D turn k), (D, PySem.W.listOf ws.toArray 0), (c + 1 + 1 + 1 + 1 + 1, o5), (c + 1 + 1 + 1 + 1, o4), (c + 1 + 1 + 1, o3), (c + 1 + 1, o2), (c + 1, o1), (365, tabObj (tab3 a1 a2 a3)), (a1, q1), (a2, q2), (a3, q3)], p ∈ news')
    (ho : ∀ p ∈ own, p ∈ news') (hO : OwnOff own adr) (hsub : ∀ b ∈ [W, dW, l, D, c + 1 + 1 + 1 + 1 + 1, c + 1 + 1 + 1 + 1, c + 1 + 1 + 1, c + 1 + 1, c + 1, 365], b ∈ adr) (u1 : ∀ p ∈ own, p.1 ≠ a1) (u2 : ∀ p ∈ own, p.1 ≠ a2) (u3 : ∀ p ∈ own, p.1 ≠ a3) :
    TbEnd h₀ L (JJ l D W dW c ws hs nt wd tw' tv its n9 o5 (i + 1)) own s₁ { s₁ with heap := h', toks := tk } := by
  refine ⟨h', tk, m', news', _, rfl, F, N, hn, ho, ?_, hf, hw, turn, k, o1, o2, o3, o4, v1, v2, v3, v4, ht0, ht1, e1, e2, e3, e4, .inr ⟨a1, a2, a3, q1, q2, q3, s1, s2, s3, t1, t2, t3, l1, l2, l3, f1, g1, f2, g2, f3, g3, rfl⟩⟩
  intro p hp q hq
  have hb : q.1 ∈ [W, dW, l, D, c + 1 + 1 + 1 + 1 + 1, c + 1 + 1 + 1 + 1, c + 1 + 1 + 1, c + 1 + 1, c + 1, 365, a1, a2, a3] := List.mem_map_of_mem (f := (·.1)) hq
  have hb' : q.1 ∈ [W, dW, l, D, c + 1 + 1 + 1 + 1 + 1, c + 1 + 1 + 1 + 1, c + 1 + 1 + 1, c + 1 + 1, c + 1, 365] ++ [a1, a2, a3] := hb
  rcases List.mem_append.mp hb' with h | h
  · exact hO p hp _ (hsub _ h)
  · rcases List.mem_cons.mp h with h | h
    · exact h ▸ u1 p hp
    · rcases List.mem_cons.mp h with h | h
      · exact h ▸ u2 p hp
      · exact (List.mem_singleton.mp h) ▸ u3 p hp

theorem raisedD_drop {base G : Heap} {l : List Env} {e C : Addr} {n : Int} {news news' : List (Addr × Obj)} {h : Heap} (R : RaisedD base G l e C n news h) (hs : ∀ p ∈ news', p ∈ news) : RaisedD base G l e C n news' h := by
  obtain ⟨dx, od, ⟨B, a0, h1, h2, h3, h4⟩, h5, h6⟩ := R
  refine ⟨dx, od, ⟨B, a0, h1, h2, fun q hq => h3 q ?_, h4⟩, h5, h6⟩
  rcases List.mem_cons.mp hq with rfl | hq
  · exact .head _
  · exact .tail _ (hs q hq)

theorem keep_fOf {w : World} (j : Nat) : PySem.Challenge.rw_rh0227_01.row.prog = PySem.Challenge.rw_rh0227_01.row.prog → keepIn (Mine.hd.heap_1 w.params) (.ref (fOf j)) = true := by
  k_fill
  intro _
  match j with
  | 0 => show keepIn _ (.ref 285) = true; k_is
  | 1 => show keepIn _ (.ref 292) = true; k_is
  | 2 => show keepIn _ (.ref 299) = true; k_is
  | 3 => show keepIn _ (.ref 306) = true; k_is
  | _ + 4 => show keepIn _ (.ref 313) = true; k_is

theorem lam_gen {w : World} {p : Program} {loose : List PySem.Str} {mean : ExcName → Option Value} {mg mb : PySem.Str → Option Value} {D U : Nat} {f : Addr} {news : List (Addr × Obj)} {pv : PV} {kd : PySem.Str} {wd : Int} {er : Int → Prop}
    (hx : ∀ nn, (∀ q ∈ news, q ∈ nn) → Ctr PySem.Challenge.rw_rh0227_01.row.prog w (Mine.hd.heap_1 w.params) p loose mean mg mb D U f [] nn (LamOk pv kd wd nn) er) : Ctr PySem.Challenge.rw_rh0227_01.row.prog w (Mine.hd.heap_1 w.params) p loose mean mg mb D U f [] news (LamOk pv kd wd news) er := hx news fun _ h => h
theorem gA {news nn : List (Addr × Obj)} {G : Prop} {f c cM cV cW W dW : Addr} {oc oM oV oW : Obj} {vs : Array Value} {q : PySem.Str} {t tv : Tok} {j : Nat} {pv : PV} {hs : Int} {nt : Nat} {wd : Int} {tw' : Tok} {its : List DictEntry} {n9 : Nat} {h₁ : Heap} {cc P : Addr}
    {name qual : PySem.Str} {params : Arguments} {b7 : PySem.Expr} {n7 : PySem.Str} {p7 : Pos} {scope : Scope} {cl : List (PySem.Str × Addr)} {pm ctv : Value} (cs : ∀ q ∈ news, q ∈ nn) (C : CodeHd h₁ cc P) (m1 : (f, kla_obj name qual params (.Attribute b7 n7 p7) scope cl pm c ctv) ∈ news)
    (m2 : (c, oc) ∈ news) (d2 : oc.data = .fields vs) (e2 : vs[1]? = some (.str q t)) (d3 : oM.data = .cell (some (.ref (fOf j)))) (m3 : (cM, oM) ∈ news) (d4 : oV.data = .cell (some (pv.val tv))) (m4 : (cV, oV) ∈ news) (m6 : (W, instObj 331 dW) ∈ news) (d5 : oW.data = .cell (some (.ref W))) (m5 : (cW, oW) ∈ news)
    (m7 : (dW, wrlD hs nt wd tw' its n9) ∈ news) (b1 : 8 ≤ wd) (b2 : wd ≤ 40) (ft : pv.fit)
    (k : CodeHd h₁ cc P → (f, kla_obj name qual params (.Attribute b7 n7 p7) scope cl pm c ctv) ∈ nn → (c, oc) ∈ nn → oc.data = .fields vs → vs[1]? = some (.str q t) → oM.data = .cell (some (.ref (fOf j))) → (cM, oM) ∈ nn → oV.data = .cell (some (pv.val tv)) → (cV, oV) ∈ nn → (W, instObj 331 dW) ∈ nn → oW.data = .cell (some (.ref W)) → (cW, oW) ∈ nn → (dW, wrlD hs nt wd tw' its n9) ∈ nn → 8 ≤ wd → wd ≤ 40 → pv.fit → G) : G :=
  k C (cs _ m1) (cs _ m2) d2 e2 d3 (cs _ m3) d4 (cs _ m4) (cs _ m6) d5 (cs _ m5) (cs _ m7) b1 b2 ft
theorem gB {news nn : List (Addr × Obj)} {G : Prop} {f c cH cL H dH T1 T2 T3 A B' C' : Addr} {oc oH oL : Obj} {vs : Array Value} {q : PySem.Str} {t t1 t2 t3 t4 : Tok} {j : Nat} {pv : PV} {h1 h2 h3 h4 h5 h6 : Int} {n1 n2 n3 n4 n5 n6 : Nat} {t9 t0 tw' : Tok} {wd : Int} {h₁ : Heap} {cc P : Addr}
    {name qual : PySem.Str} {params : Arguments} {b7 : PySem.Expr} {n7 : List PySem.Expr} {k7 : List Keyword} {p7 : Pos} {scope : Scope} {cl : List (PySem.Str × Addr)} {pm ctv : Value} (cs : ∀ q ∈ news, q ∈ nn) (C : CodeHd h₁ cc P) (m1 : (f, kla_obj name qual params (.Call b7 n7 k7 p7) scope cl pm c ctv) ∈ news)
    (m2 : (c, oc) ∈ news) (d2 : oc.data = .fields vs) (e2 : vs[1]? = some (.str q t)) (m3 : (H, instObj 274 dH) ∈ news) (d3 : oH.data = .cell (some (.ref H))) (m4 : (cH, oH) ∈ news) (m5 : (dH, hostD h1 h2 h3 h4 h5 h6 n1 n2 n3 n4 n5 n6 A B' t9 t0 wd tw' C') ∈ news)
    (m6 : (T1, tup2 (.str (kdOf j) t1) (.ref T2)) ∈ news) (d6 : oL.data = .cell (some (.ref T1))) (m7 : (cL, oL) ∈ news) (m8 : (T2, tup2 (.str (Str.ofString "delay") t2) (.ref T3)) ∈ news) (m9 : (T3, tup2 (.str (Str.ofString "value") t3) (pv.val t4)) ∈ news) (b1 : 1 ≤ wd) (b2 : wd ≤ 64) (ft : pv.fit)
    (k : CodeHd h₁ cc P → (f, kla_obj name qual params (.Call b7 n7 k7 p7) scope cl pm c ctv) ∈ nn → (c, oc) ∈ nn → oc.data = .fields vs → vs[1]? = some (.str q t) → (H, instObj 274 dH) ∈ nn → oH.data = .cell (some (.ref H)) → (cH, oH) ∈ nn → (dH, hostD h1 h2 h3 h4 h5 h6 n1 n2 n3 n4 n5 n6 A B' t9 t0 wd tw' C') ∈ nn →
      (T1, tup2 (.str (kdOf j) t1) (.ref T2)) ∈ nn → oL.data = .cell (some (.ref T1)) → (cL, oL) ∈ nn → (T2, tup2 (.str (Str.ofString "delay") t2) (.ref T3)) ∈ nn → (T3, tup2 (.str (Str.ofString "value") t3) (pv.val t4)) ∈ nn → 1 ≤ wd → wd ≤ 64 → pv.fit → G) : G :=
  k C (cs _ m1) (cs _ m2) d2 e2 (cs _ m3) d3 (cs _ m4) (cs _ m5) (cs _ m6) d6 (cs _ m7) (cs _ m8) (cs _ m9) b1 b2 ft
theorem news_drop1 {g h : Heap} {L : Addr} {a : Addr × Obj} {r : List (Addr × Obj)} (N : News g L h (a :: r)) : News g L h r := fun p hp => N p (.tail _ hp)
theorem news_drop3 {g h : Heap} {L : Addr} {a b c : Addr × Obj} {r : List (Addr × Obj)} (N : News g L h (a :: b :: c :: r)) : News g L h r := fun p hp => N p (.tail _ (.tail _ (.tail _ hp)))
theorem fr_at {g h h₁ : Heap} {L L' : Addr} {m m₁ : PySem.Str → Option Value} (_F : Fr g L h m) (e : L' = L) (F : Fr g L' h₁ m₁) : Fr g L h₁ m₁ := e ▸ F
theorem news_at {g h h₁ : Heap} {L L' : Addr} {m : PySem.Str → Option Value} {n : List (Addr × Obj)} (_F : Fr g L h m) (e : L' = L) (F : News g L' h₁ n) : News g L h₁ n := e ▸ F
theorem c_heardX {w : World} {p : Program} {loose : List PySem.Str} {mean : ExcName → Option Value} {mg mb : PySem.Str → Option Value} {r P w33 : Int} {pv : PV} {num : Option Int} {wd : Int} (_hr : r < 5) (_hP : PowK P w33) (_lv : LV P pv num) (fv : Addr) (oc : Value) (od : Option Addr) (fd : FuncData) (sl : Array (Option Value)) (_z : Unit) (news : List (Addr × Obj))
    (hf : (fv, (⟨oc, od, .func fd, sl⟩ : Obj)) ∈ news) (hC : Ctr PySem.Challenge.rw_rh0227_01.row.prog w (Mine.hd.heap_1 w.params) p loose mean mg mb 120 560 fv [] news (LamOk pv (kdOf r.toNat) wd news) (pcEr (tw pv wd))) :
    CtrL PySem.Challenge.rw_rh0227_01.row.prog w (Mine.hd.heap_1 w.params) p loose mean mg mb 140 660 363 [.ref fv] news (HvA (rd (tw pv wd) (kdOf r.toNat)) news) := c_heardA fv oc od fd sl _ pv wd news hf hC
theorem ne_rdX {prog : Program} {w : World} {A : Around} {E : Value → Shared → Prop} {s : Shared} {Q : Value → Shared → Prop} {g : Heap} {L : Addr} {n1 n2 news : List (Addr × Obj)} {v1 v2 : Value} {o1 o2 : Option Int} {j : Nat}
    (N : News g L s.heap n2) (R1 : RdA n1 v1 (rd o1 (kdOf j))) (R2 : RdA n2 v2 (rd o2 (kdOf j))) (e1 : ∀ p ∈ news, p ∈ n1) (e2 : ∀ p ∈ n1, p ∈ n2) (he : o1 = o2) (hu : A.units + 64 < cLine) (h : News g L s.heap news → Q (.bool false) s) : wpAny (model prog w) A (compareOp .NotEq v1 v2) Q E s := by
  exact ne_rd N R1 R2 he e2 hu (h fun p hp => N p (e2 p (e1 p hp)))
end

section
theorem top_RhW : True := by
  w_top off
  exact True.intro
theorem item_kn {prog : Program} {w : World} {A : Around} {E : Value → Shared → Prop} {s : Shared} {g : Heap} {L : Addr} {news : List (Addr × Obj)} {value slice : PySem.Expr} {l : Addr} {r : Int} {u : Tok} {n : Nat} {Q : Value → Shared → Prop} {t0 t1 : Tok} (N : News g L s.heap news) (hm : (l, PySem.W.listOf #[.str (Str.ofString "var") t0, .str (Str.ofString "keyword") t1] n) ∈ news) (h0 : 0 ≤ r) (h5 : r < 2) (h : ∀ b t, Q (.str (kn b) t) s)
    (hs : subscripted slice false (.ref l) (.int r u) = operate [.ref l, .int r u] (getItem (.ref l) (.int r u)) := by with_unfolding_all rfl) : wpAny (model prog w) A (subscriptTail value slice (.ref l) (.int r u)) Q E s := by
  have hl : s.heap.IsList l ([.str (Str.ofString "var") t0, .str (Str.ofString "keyword") t1] : List Value).toArray := News.isList N hm
  obtain rfl | rfl : r = 0 ∨ r = 1 := by omega
  · exact item_litK hl (by decide) (by decide) rfl (h false _) hs
  · exact item_litK hl (by decide) (by decide) rfl (h true _) hs
theorem fr_feed {h₀ : Heap} {L : Addr} {h : Heap} {y : PySem.Str} {vy : Value} {m₁ : PySem.Str → Option Value} (h1 : m₁ y = some vy) (F : Fr h₀ L h m₁) : Fr h₀ L h (fun q => if q = y then some vy else m₁ q) := by
  have e : (fun q => if q = y then some vy else m₁ q) = m₁ := by
    funext q
    by_cases b : q = y
    · rw [if_pos b, b, h1]
    · rw [if_neg b]
  rw [e]; exact F
theorem eq_str_yes {prog : Program} {w : World} {A : Around} {E : Value → Shared → Prop} {s : Shared} {x y : PySem.Str} {t u : Tok} {Q : Value → Shared → Prop} (h : (x == y) = true) (hq : Q (.bool true) s) : wpAny (model prog w) A (compareOp .Eq (.str x t) (.str y u)) Q E s := PyProof.Rows.eq_str (by rw [h]; exact hq)
theorem eq_kn {prog : Program} {w : World} {A : Around} {E : Value → Shared → Prop} {s : Shared} {b : Bool} {t u : Tok} {Q : Value → Shared → Prop} (hq : Q (.bool b) s) : wpAny (model prog w) A (compareOp .Eq (.str (kn b) t) (.str (Str.ofString "keyword") u)) Q E s := PyProof.Rows.eq_str (by rw [show (kn b == Str.ofString "keyword") = b by cases b <;> decide +kernel]; exact hq)
theorem close_law {cl : PySem.Str → Option Addr} {mean : ExcName → Option Value} {ns : List Int} {s₁ s' : Shared} {L : Addr} {m : PySem.Str → Option Value} {h : Heap} (e : s'.heap = h) (F : Fr s₁.heap L h m) (hg : s'.gens = #[]) (hos : s'.os = s₁.os) :
    GoodW PySem.Challenge.rw_rh0227_01.row.claim cl mean [ofPy (PyData.list (List.map PyData.int ns))] s₁ (.ok (.ret (.bool true))) s' := by
  subst e
  refine goodW_bool F hg (raisesW_false ?_) ?_ hos
  · wrow_none_raised
  · wrow_post
theorem grown_close {g h h' : Heap} {L : Addr} {news : List (Addr × Obj)} {ps : Array Value} (e : h' = h) (N : News g L h news) (m : (365, tabObj ps) ∈ news) : GrownAll [(369, 365)] h' := e ▸ ⟨.of N m, True.intro⟩
theorem news_tail {g h : Heap} {L : Addr} {w d f D c1 c2 c3 c4 c5 tb : Addr × Obj} {r : List (Addr × Obj)} (N : News g L h (w :: d :: f :: D :: c1 :: c2 :: c3 :: c4 :: c5 :: tb :: r)) : News g L h [f, D, tb] := fun p hp => N p (by
  simp only [List.mem_cons, List.not_mem_nil, or_false] at hp ⊢
  rcases hp with h | h | h <;> simp [h])
local macro_rules | `(tactic| k_mem) => `(tactic| (first | with_reducible assumption | (refine' List.mem_cons_of_mem _ ?_; first | with_reducible assumption | (refine' List.mem_cons_of_mem _ ?_; first | with_reducible assumption | (refine' List.mem_cons_of_mem _ ?_; first | with_reducible assumption | (refine' List.mem_cons_of_mem _ ?_; with_reducible assumption))))))
local macro_rules | `(tactic| wrow_close) => `(tactic| ((refine' close_law ?zqe ?zqF ?zqg ?zqo); (case zqe => exact rfl); (case zqF => k_asm); (case zqg => assumption); (case zqo => exact rfl)))

theorem said_35 : True := by
  (k_with "subscriptTail!" => (k_here; (with_reducible show wpAny _ _ (subscriptTail _ _ (Value.ref _) (Value.int _ _)) _ _ _); k_dflt (refine' item_kd ?k1z26 ?k2z26 ?k3z26 ?k4z26 ?_; (case k1z26 => k_asm); (case k2z26 => k_mem); (case k3z26 => with_reducible assumption); (case k4z26 => with_reducible assumption)); intro t9k))
  (k_with "subscriptTail!" => (k_here; (with_reducible show wpAny _ _ (subscriptTail _ _ (Value.ref _) (Value.int _ _)) _ _ _); k_dflt (refine' item_f ?k1z27 ?k2z27 ?k3z27 ?k4z27 ?_; (case k1z27 => k_asm); (case k2z27 => k_mem); (case k3z27 => with_reducible assumption); (case k4z27 => with_reducible assumption))))
  (k_with "binaryOp Pow int int!" => (k_here; with_reducible refine pow_K (by with_reducible assumption) (by omega) (by omega) ?_; (try dsimp only)))
  (k_with "call ref!" => (k_here; (with_reducible show wpAny _ _ (call (Value.ref (fOf _)) _) _ _ _); k_dflt (refine' c_mk _ _ _ _ _ _ _ _ _ _ _ _ _ _ ?q0z29 ?q1z29 ?q2z29 ?qWz29 ?qdz29 ?qAz29 _ _ _ _ _ _ _ _ _ _ _ _ _ _ _ _ _ ?k1z29 ?k2z29 ?k3z29 ?k4z29 ?k5z29 ?kKz29 ?kdz29 ?kuz29 ?_ ?kez29; (case k1z29 => k_asm); (case k2z29 => k_asm); (case k3z29 => k_asm); (case k4z29 => k_asm); (case k5z29 => k_asm); (case kKz29 => first | exact rfl | assumption); (case kdz29 => (try dsimp only [ktrTop, Around.deeper, Around.mark]); refine' Nat.lt_of_le_of_lt ?kqz29 ?kpz29; (case kpz29 => with_reducible assumption); (case kqz29 => omega)); (case kuz29 => (try dsimp only [ktrTop, Around.deeper, Around.mark]); refine' Nat.lt_of_le_of_lt ?kquz29 ?kpuz29; (case kpuz29 => with_reducible assumption); (case kquz29 => omega)); (case qWz29 => k_mem); (case qdz29 => k_mem); (case qAz29 => k_mem); (case q0z29 => with_reducible assumption); (case q1z29 => omega); (case q2z29 => omega); (case kez29 => refine errK ?_; intro _ _ _ _ _ er8 F8 R8 U8; k_unfold; refine leave_onD (by with_reducible assumption) rfl F8 R8 U8 ?_; intro h7 R7 U7; rename ErrK _ => hr8; refine hr8.out _ _ _ _ _ er8 (by with_reducible assumption) (by first | exact R7 | exact raisedD_drop R7 fun p hp => List.mem_cons_of_mem _ hp) U7)); intro v9 n9 h9 tk9 ok9 F9 N9; obtain ⟨x9, d9, D9, nn9, t9, tk9, hs9, nt9, e91, pc9, l9, l91, l92, e92⟩ := ok9; subst e91 e92; (try k_lt l9); (try dsimp only); (try k_fold)))
  (k_with "call ref!" => (k_here; (with_reducible show wpAny _ _ (call (Value.ref 210) _) _ _ _); k_dflt (refine' c_st _ _ _ _ _ _ _ _ _ _ _ _ _ _ _ _ _ _ _ _ _ _ _ _ _ _ _ _ _ _ _  ?q0z30 ?q1z30 ?q2z30 ?qHz30 ?qdz30 ?qAz30 ?qBz30 ?qCz30 _ _ _ _ _ _ _ _ _ _ _ _ _ _ _ _ _ ?k1z30 ?k2z30 ?k3z30 ?k4z30 ?k5z30 ?kKz30 ?kdz30 ?kuz30 ?_ ?kez30; (case k1z30 => k_asm); (case k2z30 => k_asm); (case k3z30 => k_asm); (case k4z30 => k_asm); (case k5z30 => k_asm); (case kKz30 => first | exact rfl | assumption); (case kdz30 => (try dsimp only [ktrTop, Around.deeper, Around.mark]); refine' Nat.lt_of_le_of_lt ?kqz30 ?kpz30; (case kpz30 => with_reducible assumption); (case kqz30 => omega)); (case kuz30 => (try dsimp only [ktrTop, Around.deeper, Around.mark]); refine' Nat.lt_of_le_of_lt ?kquz30 ?kpuz30; (case kpuz30 => with_reducible assumption); (case kquz30 => omega)); (case qHz30 => k_mem); (case qdz30 => k_mem); (case qAz30 => k_mem); (case qBz30 => k_mem); (case qCz30 => k_mem); (case q0z30 => with_reducible assumption); (case q1z30 => omega); (case q2z30 => omega); (case kez30 => refine errK ?_; intro _ _ _ _ _ er8 F8 R8 U8; k_unfold; refine leave_onD (by with_reducible assumption) rfl F8 R8 U8 ?_; intro h7 R7 U7; rename ErrK _ => hr8; refine hr8.out _ _ _ _ _ er8 (by with_reducible assumption) (by first | exact R7 | exact raisedD_drop R7 fun p hp => List.mem_cons_of_mem _ hp) U7)); intro v9 n9 h9 tk9 ok9 F9 N9; obtain ⟨D9, nn9, t9, tk9, e91, pc9, l9, e92⟩ := ok9; subst e91 e92; (try k_lt l9); (try dsimp only); (try k_fold)))
  (k_with "callWith ref!" => (k_here; k_dflt (refine' callWith_K ?k1z31 ?k2z31 ?_; (case k1z31 => k_asm); (case k2z31 => k_is); k_whole)))
  (k_with "eval Name!" => (k_here; k_dflt (first | (refine' nameX_K ?Fz32 ?Xz32 ?Tz32 ?ez32 ?_ ?az32 ?bz32; (case bz32 => rfl); (case az32 => first | rfl | assumption); (case Fz32 => k_asm); (case Xz32 => k_asm); (case Tz32 => k_asm); (case ez32 => k_is); k_whole) | (refine' nameX_L ?Fz32 ?vz32 ?_ ?az32 ?bz32; (case bz32 => rfl); (case az32 => first | rfl | assumption); (case Fz32 => k_asm); (case vz32 => rfl); k_whole) | (refine' nameX_C ?Nz32 ?cz32 ?mz32 ?dz32 ?_ ?az32 ?bz32; (case bz32 => rfl); (case az32 => first | rfl | assumption); (case Nz32 => k_asm); (case cz32 => rfl); (case mz32 => k_mem); (case dz32 => k_asm); k_whole))))
  (k_with "storeName!" => (k_here; k_dflt (first
  | (refine' storeX_L ?Fz33 ?Nz33 ?_ ?az33 ?bz33; (case bz33 => rfl); (case az33 => first | rfl | assumption); (case Fz33 => k_asm); (case Nz33 => k_asm); k_whole; intro h' F' N'; (try k_sweep))
  | (refine' storeX_C ?Fz33 ?Nz33 ?cz33 ?Uz33 ?dz33 ?_ ?az33 ?bz33; (case bz33 => rfl); (case az33 => first | rfl | assumption); (case Fz33 => k_asm); (case Nz33 => k_asm); (case cz33 => rfl); (case Uz33 => k_updF); (case dz33 => k_asm); k_whole; intro h' o' F' N' d'; (try dsimp only at N'); (try k_sweep)))))
  (k_with "callWith ref!" => (k_here; (with_reducible show wpAny _ _ (callWith _ (Value.ref (fOf _)) _ _ _) _ _ _); k_dflt (refine' callWith_K ?k1z34 ?k2z34 ?_; (case k1z34 => k_asm); (case k2z34 => exact keep_fOf _ rfl); k_whole)))
  (k_with "eval Lambda!" => (k_here; k_dflt (refine' kla_eval ?d0z35 ?_; (case d0z35 => exact rfl)); (first | (k_dflt (refine' kla_nest ?Fz35 ?Nz35 ?Tz35 ?Cz35 ?cdz35 ?Uz35 ?tz35 ?nz35 ?clz35 ?_; (case Fz35 => k_asm); (case Nz35 => k_asm); (case Tz35 => k_asm); (case cdz35 => exact rfl); (case Cz35 => kn_code); (case Uz35 => k_updF); (case tz35 => kn_triples); (case nz35 => kn_among); (case clz35 => exact rfl); k_whole); intro f' c' oc' vs' t' ct' h' tk' F' N' d1' d2' l1 l2; (have lw9 : LtAll _ c' := ⟨l1⟩); (try dsimp only at N'); (try k_lt l1); (try k_lt2 l2)) | (k_dflt (refine' kla_hit ?Fz35 ?Nz35 ?Tz35 ?Cz35 ?cdz35 ?memz35 ?tz35 ?nz35 ?clz35 ?_; (case Fz35 => k_asm); (case Nz35 => k_asm); (case Tz35 => k_asm); (case cdz35 => exact rfl); (case Cz35 => kn_code); (case memz35 => k_mem); (case tz35 => kn_triples); (case nz35 => kn_hit); (case clz35 => exact rfl); k_whole); intro f' ct' h' tk' F' N' l1; (try dsimp only at N'); (try k_lt l1)))))
  (k_with "compareOp Eq str str!" => (k_here; (with_reducible show wpAny _ _ (compareOp CmpOp.Eq (Value.str _ _) (Value.str _ _)) _ _ _); first | (with_reducible refine eq_kn ?_) | refine eq_str_yes (by decide +kernel) ?_))
  (k_with "ite!" => (first | refine ite_no (by decide) ?_ | refine ite_yes (by decide) ?_))
  (k_with "subscriptTail!" => (k_here; (with_reducible show wpAny _ _ (subscriptTail _ _ (Value.ref _) (Value.int _ _)) _ _ _); k_dflt (refine' item_kn ?k1z37 ?k2z37 ?k3z37 ?k4z37 ?_; (case k1z37 => k_asm); (case k2z37 => k_mem); (case k3z37 => with_reducible assumption); (case k4z37 => with_reducible assumption)); intro b9 t9k))
  exact True.intro
theorem law_walk : PySem.Challenge.rw_rh0227_01.Holds := Mine.hd (by
  k_go0
  (all_goals try k_fold)
  iterate 20 (first | (k_unfold; (try dsimp only)) | (k_end; wrow_close) | walk1 | (dsimp only; walk1) | (leave1; walk_say "STEP leave1"; try dsimp only) | fail "no step")
  rename IntsAre _ (List.take 16 _) => hI9
  have hI91 := (take16 hI9).1
  have hI92 := (take16 hI9).2
  iterate 11 (first | (k_unfold; (try dsimp only)) | (k_end; wrow_close) | walk1 | (dsimp only; walk1) | (leave1; walk_say "STEP leave1"; try dsimp only) | fail "no step")
  ((with_reducible show wpAny _ _ (call (Value.ref 342) _) _ _ _); k_dflt (refine' c_next _ _ _ _ _ _ _ _ _ _ ?hiu1 ?hnu1 ?hn2u1 ?ht0u1 ?ht1u1 ?hm0u1 ?hm1u1 ?hneu1 ?hlu1 ?hDu1 (updA_ofF ?hUu1) _ _ _ _ _ _ _ _ _ _ _ _ _ _ _ _ _ ?k1u1 ?k2u1 ?k3u1 ?k4u1 ?k5u1 ?kKu1 ?kdu1 ?kuu1 ?_ ?keu1; (case k1u1 => k_asm); (case k2u1 => k_asm); (case k3u1 => k_asm); (case k4u1 => k_asm); (case k5u1 => k_asm); (case kKu1 => first | exact rfl | assumption); (case kdu1 => first | (with_unfolding_all decide) | ktr_room); (case kuu1 => first | (with_unfolding_all decide) | ktr_room); (case hlu1 => k_mem); (case hDu1 => k_mem); (case hiu1 => with_reducible assumption); (case hnu1 => with_reducible assumption); (case hn2u1 => with_reducible assumption); (case ht0u1 => omega); (case ht1u1 => omega); (case hm0u1 => decide); (case hm1u1 => decide); (case hneu1 => first | omega | (apply Nat.ne_of_lt; omega)); (case hUu1 => k_updF); (case keu1 => refine errK ?_; intro _ _ _ _ _ hE9; exact hE9.elim)); intro v9 n9 h9 tk9 ok9 F9 N9; obtain ⟨r9, t9, k9, e91, r90, r91, e92⟩ := ok9; subst e91 e92; (try dsimp only at N9); (try dsimp only); (try k_fold))
  iterate 13 (first | (k_unfold; (try dsimp only)) | (k_end; wrow_close) | walk1 | (dsimp only; walk1) | (leave1; walk_say "STEP leave1"; try dsimp only) | fail "no step")
  ((with_reducible show wpAny _ _ (call (Value.ref 331) _) _ _ _); k_dflt (refine' c_world _ _ _ _ _ _ _ _ _ _ _ _ _ _ _ _ _ _ _ _ ?k1u2 ?k2u2 ?k3u2 ?k4u2 ?k5u2 ?kKu2 ?kdu2 ?kuu2 ?_ ?keu2; (case k1u2 => k_asm); (case k2u2 => k_asm); (case k3u2 => k_asm); (case k4u2 => k_asm); (case k5u2 => k_asm); (case kKu2 => first | exact rfl | assumption); (case kdu2 => first | (with_unfolding_all decide) | ktr_room); (case kuu2 => first | (with_unfolding_all decide) | ktr_room);  (case keu2 => refine errK ?_; intro _ _ _ _ _ hE9; exact hE9.elim)); intro v9 n9 h9 tk9 ok9 F9 N9; obtain ⟨W9, d9, hs9, nt9, tw9, its9, c9, e91, l9, l91, e92⟩ := ok9; subst e91 e92; (try k_lt l9); (have := allA_c l91 (by with_reducible assumption)); (try dsimp only); (try k_fold))
  iterate 19 (first | (k_unfold; (try dsimp only)) | (k_end; wrow_close) | walk1 | (dsimp only; walk1) | (leave1; walk_say "STEP leave1"; try dsimp only) | fail "no step")
  ((with_reducible show wpAny _ _ (call (Value.ref 342) _) _ _ _); k_dflt (refine' c_next _ _ _ _ _ _ _ _ _ _ ?hiu3 ?hnu3 ?hn2u3 ?ht0u3 ?ht1u3 ?hm0u3 ?hm1u3 ?hneu3 ?hlu3 ?hDu3 (updA_ofF ?hUu3) _ _ _ _ _ _ _ _ _ _ _ _ _ _ _ _ _ ?k1u3 ?k2u3 ?k3u3 ?k4u3 ?k5u3 ?kKu3 ?kdu3 ?kuu3 ?_ ?keu3; (case k1u3 => k_asm); (case k2u3 => k_asm); (case k3u3 => k_asm); (case k4u3 => k_asm); (case k5u3 => k_asm); (case kKu3 => first | exact rfl | assumption); (case kdu3 => first | (with_unfolding_all decide) | ktr_room); (case kuu3 => first | (with_unfolding_all decide) | ktr_room); (case hlu3 => k_mem); (case hDu3 => k_mem); (case hiu3 => with_reducible assumption); (case hnu3 => with_reducible assumption); (case hn2u3 => with_reducible assumption); (case ht0u3 => omega); (case ht1u3 => omega); (case hm0u3 => decide); (case hm1u3 => decide); (case hneu3 => first | omega | (apply Nat.ne_of_lt; omega)); (case hUu3 => k_updF); (case keu3 => refine errK ?_; intro _ _ _ _ _ hE9; exact hE9.elim)); intro v9 n9 h9 tk9 ok9 F9 N9; obtain ⟨r9, t9, k9, e91, r90, r91, e92⟩ := ok9; subst e91 e92; (try dsimp only at N9); (try dsimp only); (try k_fold))
  iterate 4 (first | (k_unfold; (try dsimp only)) | (k_end; wrow_close) | walk1 | (dsimp only; walk1) | (leave1; walk_say "STEP leave1"; try dsimp only) | fail "no step")
  rename Fr _ _ _ _ => lF
  rename News _ _ _ _ => lN
  rename IsRange _ _ _ _ _ _ _ _ => rgX
  k_dflt (refine' tbr_invG (JJ _ _ _ _ _ _ _ _ _ _ _ _ _ _) (by rfl) rgX (small_one (by l_bnd) (by l_bnd) (by l_bnd) (by l_bnd)) (rangeSize_nat _ _) lF lN ?hj ?turn ?done)
  case hj =>
    refine' JJ0 ?b1 ?b2 ?b3 ?b4 ?b5 ?d1 ?d2 ?d3 ?d4 ?h1 ?h2
    case b1 => exact rfl
    case b2 => exact rfl
    case b3 => exact rfl
    case b4 => exact rfl
    case b5 => exact rfl
    case d1 => with_reducible assumption
    case d2 => with_reducible assumption
    case d3 => with_reducible assumption
    case d4 => with_reducible assumption
    case h1 => with_unfolding_all rfl
    case h2 => with_unfolding_all rfl
  case done =>
    clear rgX
    rintro m₁ nx h tk hJ F₁ N₁
    obtain ⟨hf, hw, turn, tkn, o1, o2, o3, o4, v1, v2, v3, v4, ht0, ht1, e1, e2, e3, e4, hl⟩ := hJ
    replace F₁ := fr_at lF rfl F₁
    replace N₁ := news_at lF rfl N₁
    clear lF lN
    k_sweep
    rcases hl with ⟨hn0, _⟩ | ⟨a1, a2, a3, q1, q2, q3, s1, s2, s3, t1, t2, t3, l1, l2, l3, f1, g1, f2, g2, f3, g3, rfl⟩
    · omega
    · replace F₁ := fr_feed hf F₁
      (try simp only [List.cons_append, List.nil_append] at N₁)
      replace N₁ := news_tail N₁
      clear l1 l2 l3 f1 g1 f2 g2 f3 g3 e1 e2 e3 e4
      iterate 23 (first | (k_unfold; (try dsimp only)) | (k_end; wrow_close) | walk1 | (dsimp only; walk1) | (leave1; walk_say "STEP leave1"; try dsimp only) | fail "no step")
      ((with_reducible show wpAny _ _ (call (Value.ref 342) _) _ _ _); k_dflt (refine' c_next _ _ _ _ _ _ _ _ _ _ ?hiu4 ?hnu4 ?hn2u4 ?ht0u4 ?ht1u4 ?hm0u4 ?hm1u4 ?hneu4 ?hlu4 ?hDu4 (updA_ofF ?hUu4) _ _ _ _ _ _ _ _ _ _ _ _ _ _ _ _ _ ?k1u4 ?k2u4 ?k3u4 ?k4u4 ?k5u4 ?kKu4 ?kdu4 ?kuu4 ?_ ?keu4; (case k1u4 => k_asm); (case k2u4 => k_asm); (case k3u4 => k_asm); (case k4u4 => k_asm); (case k5u4 => k_asm); (case kKu4 => first | exact rfl | assumption); (case kdu4 => first | (with_unfolding_all decide) | ktr_room); (case kuu4 => first | (with_unfolding_all decide) | ktr_room); (case hlu4 => k_mem); (case hDu4 => k_mem); (case hiu4 => with_reducible assumption); (case hnu4 => with_reducible assumption); (case hn2u4 => with_reducible assumption); (case ht0u4 => omega); (case ht1u4 => omega); (case hm0u4 => decide); (case hm1u4 => decide); (case hneu4 => first | omega | (apply Nat.ne_of_lt; omega)); (case hUu4 => k_updF); (case keu4 => refine errK ?_; intro _ _ _ _ _ hE9; exact hE9.elim)); intro v9 n9 h9 tk9 ok9 F9 N9; obtain ⟨r9, t9, k9, e91, r90, r91, e92⟩ := ok9; subst e91 e92; (try dsimp only at N9); (try dsimp only); (try k_fold))
      iterate 38 (first | (k_unfold; (try dsimp only)) | (k_end; wrow_close) | walk1 | (dsimp only; walk1) | (leave1; walk_say "STEP leave1"; try dsimp only) | fail "no step")
      rename Bool => b9
      cases b9
      · skip
        iterate 22 (first | (k_unfold; (try dsimp only)) | (k_end; wrow_close) | walk1 | (dsimp only; walk1) | (leave1; walk_say "STEP leave1"; try dsimp only) | fail "no step")
        ((with_reducible show wpAny _ _ (call (Value.ref 236) _) _ _ _); k_dflt (refine' c_cursor _ _ _ _ _ _ _ _ _ _ _ _ _ _ ?qxu5 ?qdu5 ?qDu5 _ _ _ _ _ _ _ _ _ _ _ _ _ _ _ _ _ ?k1u5 ?k2u5 ?k3u5 ?k4u5 ?k5u5 ?kKu5 ?kdu5 ?kuu5 ?_ ?keu5; (case k1u5 => k_asm); (case k2u5 => k_asm); (case k3u5 => k_asm); (case k4u5 => k_asm); (case k5u5 => k_asm); (case kKu5 => first | exact rfl | assumption); (case kdu5 => first | (with_unfolding_all decide) | ktr_room); (case kuu5 => first | (with_unfolding_all decide) | ktr_room); (case qDu5 => k_mem); (case qxu5 => k_mem); (case qdu5 => k_mem); (case keu5 => refine errK ?_; intro _ _ _ _ _ hE9; exact hE9.elim)); intro v9 n9 h9 tk9 ok9 F9 N9; refine tx_elim ok9 ?_; intro t9 e91 e92; subst e91 e92; (try dsimp only); (try k_fold))
        iterate 29 (first | (k_unfold; (try dsimp only)) | (k_end; wrow_close) | walk1 | (dsimp only; walk1) | (leave1; walk_say "STEP leave1"; try dsimp only) | fail "no step")
        ((with_reducible show wpAny _ _ (call (Value.ref 236) _) _ _ _); k_dflt (refine' c_later _ _ _ _ _ _ _ _ _ _ _ _ _ _ _ _ ?qxu6 ?qdu6 ?qDu6 ?qRu6 _ _ _ _ _ _ _ _ _ _ _ _ _ _ _ _ _ ?k1u6 ?k2u6 ?k3u6 ?k4u6 ?k5u6 ?kKu6 ?kdu6 ?kuu6 ?_ ?keu6; (case k1u6 => k_asm); (case k2u6 => k_asm); (case k3u6 => k_asm); (case k4u6 => k_asm); (case k5u6 => k_asm); (case kKu6 => first | exact rfl | assumption); (case kdu6 => first | (with_unfolding_all decide) | ktr_room); (case kuu6 => first | (with_unfolding_all decide) | ktr_room); (case qDu6 => k_mem); (case qRu6 => k_mem); (case qxu6 => k_mem); (case qdu6 => k_mem); (case keu6 => refine errK ?_; intro _ _ _ _ _ hE9; exact hE9.elim)); intro v9 n9 h9 tk9 ok9 F9 N9; refine tx_elim ok9 ?_; intro t9 e91 e92; subst e91 e92; (try dsimp only); (try k_fold))
        iterate 38 (first | (k_unfold; (try dsimp only)) | (k_end; wrow_close) | walk1 | (dsimp only; walk1) | (leave1; walk_say "STEP leave1"; try dsimp only) | fail "no step")
        ((with_reducible show wpAny _ _ (call (Value.ref 236) _) _ _ _); k_dflt (refine' c_now _ _ _ _ _ _ _ _ _ _ _ _ _ _ _ _ _ ?qxu7 ?qdu7 ?qDu7 ?qRu7 _ _ _ _ _ _ _ _ _ _ _ _ _ _ _ _ _ ?k1u7 ?k2u7 ?k3u7 ?k4u7 ?k5u7 ?kKu7 ?kdu7 ?kuu7 ?_ ?keu7; (case k1u7 => k_asm); (case k2u7 => k_asm); (case k3u7 => k_asm); (case k4u7 => k_asm); (case k5u7 => k_asm); (case kKu7 => first | exact rfl | assumption); (case kdu7 => first | (with_unfolding_all decide) | ktr_room); (case kuu7 => first | (with_unfolding_all decide) | ktr_room); (case qDu7 => k_mem); (case qRu7 => k_mem); (case qxu7 => k_mem); (case qdu7 => k_mem); (case keu7 => refine errK ?_; intro _ _ _ _ _ hE9; exact hE9.elim)); intro v9 n9 h9 tk9 ok9 F9 N9; refine tx_elim ok9 ?_; intro t9 e91 e92; subst e91 e92; (try dsimp only); (try k_fold))
        k_steps
        all_goals (refine' grown_close ?zqa1 ?zqa2 ?zqa3; (case zqa1 => exact rfl); (case zqa2 => k_asm); (case zqa3 => k_mem))
      · skip
        iterate 22 (first | (k_unfold; (try dsimp only)) | (k_end; wrow_close) | walk1 | (dsimp only; walk1) | (leave1; walk_say "STEP leave1"; try dsimp only) | fail "no step")
        ((with_reducible show wpAny _ _ (call (Value.ref 236) _) _ _ _); k_dflt (refine' c_cursor _ _ _ _ _ _ _ _ _ _ _ _ _ _ ?qxu8 ?qdu8 ?qDu8 _ _ _ _ _ _ _ _ _ _ _ _ _ _ _ _ _ ?k1u8 ?k2u8 ?k3u8 ?k4u8 ?k5u8 ?kKu8 ?kdu8 ?kuu8 ?_ ?keu8; (case k1u8 => k_asm); (case k2u8 => k_asm); (case k3u8 => k_asm); (case k4u8 => k_asm); (case k5u8 => k_asm); (case kKu8 => first | exact rfl | assumption); (case kdu8 => first | (with_unfolding_all decide) | ktr_room); (case kuu8 => first | (with_unfolding_all decide) | ktr_room); (case qDu8 => k_mem); (case qxu8 => k_mem); (case qdu8 => k_mem); (case keu8 => refine errK ?_; intro _ _ _ _ _ hE9; exact hE9.elim)); intro v9 n9 h9 tk9 ok9 F9 N9; refine tx_elim ok9 ?_; intro t9 e91 e92; subst e91 e92; (try dsimp only); (try k_fold))
        iterate 29 (first | (k_unfold; (try dsimp only)) | (k_end; wrow_close) | walk1 | (dsimp only; walk1) | (leave1; walk_say "STEP leave1"; try dsimp only) | fail "no step")
        ((with_reducible show wpAny _ _ (call (Value.ref 236) _) _ _ _); k_dflt (refine' c_later _ _ _ _ _ _ _ _ _ _ _ _ _ _ _ _ ?qxu9 ?qdu9 ?qDu9 ?qRu9 _ _ _ _ _ _ _ _ _ _ _ _ _ _ _ _ _ ?k1u9 ?k2u9 ?k3u9 ?k4u9 ?k5u9 ?kKu9 ?kdu9 ?kuu9 ?_ ?keu9; (case k1u9 => k_asm); (case k2u9 => k_asm); (case k3u9 => k_asm); (case k4u9 => k_asm); (case k5u9 => k_asm); (case kKu9 => first | exact rfl | assumption); (case kdu9 => first | (with_unfolding_all decide) | ktr_room); (case kuu9 => first | (with_unfolding_all decide) | ktr_room); (case qDu9 => k_mem); (case qRu9 => k_mem); (case qxu9 => k_mem); (case qdu9 => k_mem); (case keu9 => refine errK ?_; intro _ _ _ _ _ hE9; exact hE9.elim)); intro v9 n9 h9 tk9 ok9 F9 N9; refine tx_elim ok9 ?_; intro t9 e91 e92; subst e91 e92; (try dsimp only); (try k_fold))
        iterate 38 (first | (k_unfold; (try dsimp only)) | (k_end; wrow_close) | walk1 | (dsimp only; walk1) | (leave1; walk_say "STEP leave1"; try dsimp only) | fail "no step")
        ((with_reducible show wpAny _ _ (call (Value.ref 236) _) _ _ _); k_dflt (refine' c_now _ _ _ _ _ _ _ _ _ _ _ _ _ _ _ _ _ ?qxu10 ?qdu10 ?qDu10 ?qRu10 _ _ _ _ _ _ _ _ _ _ _ _ _ _ _ _ _ ?k1u10 ?k2u10 ?k3u10 ?k4u10 ?k5u10 ?kKu10 ?kdu10 ?kuu10 ?_ ?keu10; (case k1u10 => k_asm); (case k2u10 => k_asm); (case k3u10 => k_asm); (case k4u10 => k_asm); (case k5u10 => k_asm); (case kKu10 => first | exact rfl | assumption); (case kdu10 => first | (with_unfolding_all decide) | ktr_room); (case kuu10 => first | (with_unfolding_all decide) | ktr_room); (case qDu10 => k_mem); (case qRu10 => k_mem); (case qxu10 => k_mem); (case qdu10 => k_mem); (case keu10 => refine errK ?_; intro _ _ _ _ _ hE9; exact hE9.elim)); intro v9 n9 h9 tk9 ok9 F9 N9; refine tx_elim ok9 ?_; intro t9 e91 e92; subst e91 e92; (try dsimp only); (try k_fold))
        k_steps
        all_goals (refine' grown_close ?zqb1 ?zqb2 ?zqb3; (case zqb1 => exact rfl); (case zqb2 => k_asm); (case zqb3 => k_mem))
  case turn =>
    clear rgX
    rintro i k t m₁ nx h tk own hk hoff hJ F₁ N₁
    have hi2 := range_le (by with_reducible assumption) (by with_reducible assumption) hk
    clear hk
    obtain ⟨hf, hw, turn, tkn, o1, o2, o3, o4, v1, v2, v3, v4, ht0, ht1, e1, e2, e3, e4, hl⟩ := hJ
    replace F₁ := fr_at lF rfl (fr_two hf hw F₁)
    replace N₁ := news_at lF rfl N₁
    clear lF lN
    k_sweep
    clear hf hw
    have hO := tbOff_own hoff
    clear hoff
    rcases hl with ⟨rfl, rfl⟩ | ⟨a1, a2, a3, q1, q2, q3, s1, s2, s3, t1, t2, t3, l1, l2, l3, f1, g1, f2, g2, f3, g3, rfl⟩
    all_goals simp only [List.map_cons, List.map_nil] at hO
    all_goals (simp only [List.cons_append, List.nil_append] at N₁)
    case inl =>
      rename _ < (33 : Int) => hr33
      obtain ⟨P9, hP9, hP2, hP3, hw8, hw40⟩ := pow_ex hr33 (by with_reducible assumption)
      iterate 11 (first | (k_unfold; (try dsimp only)) | (k_end; wrow_close) | walk1 | (dsimp only; walk1) | (leave1; walk_say "STEP leave1"; try dsimp only) | fail "no step")
      ((with_reducible show wpAny _ _ (call (Value.ref 342) _) _ _ _); k_dflt (refine' c_next _ _ _ _ _ _ _ _ _ _ ?hiu11 ?hnu11 ?hn2u11 ?ht0u11 ?ht1u11 ?hm0u11 ?hm1u11 ?hneu11 ?hlu11 ?hDu11 (updA_ofF ?hUu11) _ _ _ _ _ _ _ _ _ _ _ _ _ _ _ _ _ ?k1u11 ?k2u11 ?k3u11 ?k4u11 ?k5u11 ?kKu11 ?kdu11 ?kuu11 ?_ ?keu11; (case k1u11 => k_asm); (case k2u11 => k_asm); (case k3u11 => k_asm); (case k4u11 => k_asm); (case k5u11 => k_asm); (case kKu11 => first | exact rfl | assumption); (case kdu11 => first | (with_unfolding_all decide) | ktr_room); (case kuu11 => first | (with_unfolding_all decide) | ktr_room); (case hlu11 => k_mem); (case hDu11 => k_mem); (case hiu11 => with_reducible assumption); (case hnu11 => with_reducible assumption); (case hn2u11 => with_reducible assumption); (case ht0u11 => omega); (case ht1u11 => omega); (case hm0u11 => decide); (case hm1u11 => decide); (case hneu11 => first | omega | (apply Nat.ne_of_lt; omega)); (case hUu11 => k_updF); (case keu11 => refine errK ?_; intro _ _ _ _ _ hE9; exact hE9.elim)); intro v9 n9 h9 tk9 ok9 F9 N9; obtain ⟨r9, t9, k9, e91, r90, r91, e92⟩ := ok9; subst e91 e92; (try dsimp only at N9); (try dsimp only); (try k_fold))
      iterate 66 (first | (k_unfold; (try dsimp only)) | (k_end; wrow_close) | walk1 | (dsimp only; walk1) | (leave1; walk_say "STEP leave1"; try dsimp only) | fail "no step")
      ((with_reducible show wpAny _ _ (call (Value.ref 342) _) _ _ _); k_dflt (refine' c_next _ _ _ _ _ _ _ _ _ _ ?hiu12 ?hnu12 ?hn2u12 ?ht0u12 ?ht1u12 ?hm0u12 ?hm1u12 ?hneu12 ?hlu12 ?hDu12 (updA_ofF ?hUu12) _ _ _ _ _ _ _ _ _ _ _ _ _ _ _ _ _ ?k1u12 ?k2u12 ?k3u12 ?k4u12 ?k5u12 ?kKu12 ?kdu12 ?kuu12 ?_ ?keu12; (case k1u12 => k_asm); (case k2u12 => k_asm); (case k3u12 => k_asm); (case k4u12 => k_asm); (case k5u12 => k_asm); (case kKu12 => first | exact rfl | assumption); (case kdu12 => first | (with_unfolding_all decide) | ktr_room); (case kuu12 => first | (with_unfolding_all decide) | ktr_room); (case hlu12 => k_mem); (case hDu12 => k_mem); (case hiu12 => with_reducible assumption); (case hnu12 => with_reducible assumption); (case hn2u12 => with_reducible assumption); (case ht0u12 => omega); (case ht1u12 => omega); (case hm0u12 => decide); (case hm1u12 => decide); (case hneu12 => first | omega | (apply Nat.ne_of_lt; omega)); (case hUu12 => k_updF); (case keu12 => refine errK ?_; intro _ _ _ _ _ hE9; exact hE9.elim)); intro v9 n9 h9 tk9 ok9 F9 N9; obtain ⟨r9, t9, k9, e91, r90, r91, e92⟩ := ok9; subst e91 e92; (try dsimp only at N9); (try dsimp only); (try k_fold))
      iterate 11 (first | (k_unfold; (try dsimp only)) | (k_end; wrow_close) | walk1 | (dsimp only; walk1) | (leave1; walk_say "STEP leave1"; try dsimp only) | fail "no step")
      ((with_reducible show wpAny _ _ (call (Value.ref 349) _) _ _ _); k_dflt (refine' c_value _ _ _ _ _ ?q1u13 ?q2u13 ?q3u13 ?q4u13 _ _ _ _ _ _ _ _ _ _ _ _ _ _ _ _ _ ?k1u13 ?k2u13 ?k3u13 ?k4u13 ?k5u13 ?kKu13 ?kdu13 ?kuu13 ?_ ?keu13; (case k1u13 => k_asm); (case k2u13 => k_asm); (case k3u13 => k_asm); (case k4u13 => k_asm); (case k5u13 => k_asm); (case kKu13 => first | exact rfl | assumption); (case kdu13 => first | (with_unfolding_all decide) | ktr_room); (case kuu13 => first | (with_unfolding_all decide) | ktr_room); (case q1u13 => with_reducible assumption); (case q2u13 => with_reducible assumption); (case q3u13 => with_reducible assumption); (case q4u13 => with_reducible assumption); (case keu13 => refine errK ?_; intro _ _ _ _ _ hE9; exact hE9.elim)); intro v9 n9 h9 tk9 ok9 F9 N9; obtain ⟨pv9, num9, lv9, T9, t19, t29, v19, v29, e91, l9, e92, e93, e94⟩ := ok9; subst e91 e94 e92 e93; (have pl9 := plain (by with_reducible assumption) (by omega) (by omega) lv9); obtain ⟨⟨fit9, good9⟩, pw9, p649⟩ := pl9; (try k_lt l9); skip; (try dsimp only); (try k_fold))
      iterate 19 (first | (k_unfold; (try dsimp only)) | (k_end; wrow_close) | walk1 | (dsimp only; walk1) | (leave1; walk_say "STEP leave1"; try dsimp only) | fail "no step")
      ((with_reducible show wpAny _ _ (call (Value.ref 363) _) _ _ _); k_dflt (refine' c_heardX  ?r1u14 ?r2u14 ?r3u14 _ _ _ _ _ () _ ?hfu14 ?hCu14 _ _ _ _ _ _ _ _ _ _ _ _ _ _ _ _ ?k1u14 ?k2u14 ?k3u14 ?k4u14 ?k5u14 ?k6u14 ?k7u14 ?kKu14 ?kdu14 ?kuu14 ?_; (case r1u14 => with_reducible assumption); (case r2u14 => with_reducible assumption); (case r3u14 => with_reducible assumption); (case k1u14 => k_asm); (case k2u14 => k_asm); (case k3u14 => k_asm); (case k4u14 => k_asm); (case k5u14 => k_asm); (case k6u14 => k_asm); (case k7u14 => k_asm); (case kKu14 => first | exact rfl | assumption); (case kdu14 => first | (with_unfolding_all decide) | ktr_room); (case kuu14 => first | (with_unfolding_all decide) | ktr_room); (case hfu14 => k_mem); (case hCu14 => (refine' lam_gen ?gxu14; (case gxu14 => (intro nn hs9; refine' gA hs9 ?zzCu14 ?zzm1u14 ?zzm2u14 ?zzd2u14 ?zze2u14 ?zzd3u14 ?zzm3u14 ?zzd4u14 ?zzm4u14 ?zzm6u14 ?zzd5u14 ?zzm5u14 ?zzm7u14 ?zzb1u14 ?zzb2u14 ?zzftu14 ?zzku14; (case zzCu14 => with_reducible assumption); (case zzm1u14 => exact List.Mem.head _); (case zzm2u14 => k_mem); (case zzd2u14 => with_reducible assumption); (case zze2u14 => with_reducible assumption); (case zzd3u14 => with_reducible assumption); (case zzm3u14 => k_mem); (case zzd4u14 => with_reducible assumption); (case zzm4u14 => k_mem); (case zzm6u14 => k_mem); (case zzd5u14 => with_reducible assumption); (case zzm5u14 => k_mem); (case zzm7u14 => k_mem); (case zzb1u14 => with_reducible assumption); (case zzb2u14 => with_reducible assumption); (case zzftu14 => with_reducible assumption); (case zzku14 => (intro x0 x1 x2 x3 x4 x5 x6 x7 x8 x9 y0 y1 y2 y3 y4 y5; (repeat (rename News _ _ _ _ => z9; clear z9)); (repeat (rename Fr _ _ _ _ => z9; clear z9)); (repeat (rename Below _ _ _ _ => z9; clear z9)); (repeat (rename OwnOff _ _ => z9; clear z9)); (repeat (rename RdA _ _ _ => z9; clear z9)); (repeat (rename ∀ p ∈ _, p ∈ _ => z9; clear z9)); (repeat clear qk); (repeat clear ek); (try k_fill); intro dp un gd cn cs a ccd cl outer A0 base h0 L m s Q E B F X N T hk hd hu hret herr; refine wpAny_call ?_; k_dflt (refine' kla_code ?k1u14 ?k2u14 ?k3u14 ?k4u14 ?k5u14 ?kAu14 ?kFu14 ?kKu14 ?k6u14 ?k7u14 ?k8u14 ?k9u14 ?kBu14 ?_ ?c2u14 ?c3u14 ?c4u14 ?c5u14; (case kAu14 => exact rfl); (case kFu14 => exact rfl); (case kKu14 => first | exact rfl | assumption); (case k1u14 => k_asm); (case k2u14 => k_asm); (case k3u14 => k_asm); (case k4u14 => k_asm); (case k5u14 => k_asm); (case k6u14 => k_mem); (case k7u14 => exact codeRec_news (by k_asm) (by k_mem) (by assumption) (by assumption)); (case k8u14 => ktr_room); (case k9u14 => exact rfl); (case c5u14 => decide); (case kBu14 => exact locs rfl); (case c2u14 => exact rfl); (case c3u14 => exact rfl); (case c4u14 => exact rfl); k_whole; intro g' L' h' FG' F' N' B' X' T'; (try dsimp only); (try k_lift B'); (try k_fold)); k_steps; (refine' hret _ _ _ _ ⟨_, _, _, _, rfl, ?a1u14, ?a2u14, ?a3u14⟩ ?aFu14 ?aNu14; (case aFu14 => k_asm); (case aNu14 => k_asm); (case a1u14 => with_reducible assumption); (case a2u14 => repeat (first | exact List.Mem.head _ | refine' List.Mem.tail _ ?_)); (case a3u14 => first | exact (fun p hp => .tail _ hp) | exact (fun p hp => .tail _ (.tail _ (.tail _ (.tail _ hp)))))) ))))))); intro v9 n9 h9 tk9 ok9 F9 N9; obtain ⟨ex9, rd9⟩ := ok9; (try dsimp only); (try k_fold))
      iterate 11 (first | (k_unfold; (try dsimp only)) | (k_end; wrow_close) | walk1 | (dsimp only; walk1) | (leave1; walk_say "STEP leave1"; try dsimp only) | fail "no step")
      ((with_reducible show wpAny _ _ (call (Value.ref 356) _) _ _ _); k_dflt (refine' c_dueA _ _ _ _ _ _ _ ?q1u15 ?q2u15 _ _ _ _ _ _ _ _ _ _ _ _ _ _ _ _ _ ?k1u15 ?k2u15 ?k3u15 ?k4u15 ?k5u15 ?kKu15 ?kdu15 ?kuu15 ?_ ?keu15; (case k1u15 => k_asm); (case k2u15 => k_asm); (case k3u15 => k_asm); (case k4u15 => k_asm); (case k5u15 => k_asm); (case kKu15 => first | exact rfl | assumption); (case kdu15 => first | (with_unfolding_all decide) | ktr_room); (case kuu15 => first | (with_unfolding_all decide) | ktr_room); (case q1u15 => omega); (case q2u15 => omega); (case keu15 => refine errK ?_; intro _ _ _ _ _ hE9; exact hE9.elim)); intro v9 n9 h9 tk9 ok9 F9 N9; obtain ⟨ex9, rd9⟩ := ok9; (try dsimp only); (try k_fold))
      iterate 1 (first | (k_unfold; (try dsimp only)) | (k_end; wrow_close) | walk1 | (dsimp only; walk1) | (leave1; walk_say "STEP leave1"; try dsimp only) | fail "no step")
      ((with_reducible show wpAny _ _ (compareOp CmpOp.NotEq _ _) _ _ _); k_dflt (refine' ne_rdX ?k1u16 ?k2u16 ?k3u16 ?k4u16 ?k5u16 ?k6u16 ?k7u16 ?_; (case k1u16 => k_asm); (case k2u16 => with_reducible assumption); (case k3u16 => with_reducible assumption); (case k4u16 => with_reducible assumption); (case k5u16 => with_reducible assumption); (case k6u16 => with_reducible assumption); (case k7u16 => ke_room)); intro N9; (have nNew := news_drop1 N9); clear N9; (try (rename RdA _ _ _ => z9; clear z9)); (try (rename RdA _ _ _ => z9; clear z9)))
      iterate 29 (first | (k_unfold; (try dsimp only)) | (k_end; wrow_close) | walk1 | (dsimp only; walk1) | (leave1; walk_say "STEP leave1"; try dsimp only) | fail "no step")
      ((with_reducible show wpAny _ _ (call (Value.ref 96) _) _ _ _); k_dflt (refine' c_delay _ _ _ _ _ _ _ _ _ _ _ _ _ _ _ _ _ _ _ ?k1u17 ?k2u17 ?k3u17 ?k4u17 ?k5u17 ?kKu17 ?kdu17 ?kuu17 ?_ ?keu17; (case k1u17 => k_asm); (case k2u17 => k_asm); (case k3u17 => k_asm); (case k4u17 => k_asm); (case k5u17 => k_asm); (case kKu17 => first | exact rfl | assumption); (case kdu17 => first | (with_unfolding_all decide) | ktr_room); (case kuu17 => first | (with_unfolding_all decide) | ktr_room);  (case keu17 => refine errK ?_; intro _ _ _ _ _ hE9; exact hE9.elim)); intro v9 n9 h9 tk9 ok9 F9 N9; obtain ⟨x9, d9, hs9, nt9, e91, l9, l91, e92⟩ := ok9; subst e91 e92; (try k_lt l9); (have := allA_c l91 (by with_reducible assumption)); (try dsimp only); (try k_fold))
      iterate 4 (first | (k_unfold; (try dsimp only)) | (k_end; wrow_close) | walk1 | (dsimp only; walk1) | (leave1; walk_say "STEP leave1"; try dsimp only) | fail "no step")
      ((with_reducible show wpAny _ _ (call (Value.ref (fOf _)) _) _ _ _); k_dflt (refine' c_md _ _ _ _ _ _ _ _ _ _ _ _ _ _ _ _ _ ?qWu18 ?qdu18 ?qAu18 ?qxu18 ?qyu18 _ _ _ _ _ _ _ _ _ _ _ _ _ _ _ _ _ ?k1u18 ?k2u18 ?k3u18 ?k4u18 ?k5u18 ?kKu18 ?kdu18 ?kuu18 ?_ ?keu18; (case k1u18 => k_asm); (case k2u18 => k_asm); (case k3u18 => k_asm); (case k4u18 => k_asm); (case k5u18 => k_asm); (case kKu18 => first | exact rfl | assumption); (case kdu18 => first | (with_unfolding_all decide) | ktr_room); (case kuu18 => first | (with_unfolding_all decide) | ktr_room); (case qWu18 => k_mem); (case qdu18 => k_mem); (case qAu18 => k_mem); (case qxu18 => k_mem); (case qyu18 => k_mem); (case keu18 => refine errK ?_; intro _ _ _ _ _ hE9; exact hE9.elim)); intro v9 n9 h9 tk9 ok9 F9 N9; obtain ⟨x9, d9, T91, T92, t91, t92, hs9, nt9, e91, l9, l91, l92, l93, e92⟩ := ok9; subst e91 e92; (try k_lt l9); (have := allA_c l91 (by with_reducible assumption)); (have := allA_c l92 (by with_reducible assumption)); (have := allA_c l93 (by with_reducible assumption)); (try dsimp only); (try k_fold))
      iterate 15 (first | (k_unfold; (try dsimp only)) | (k_end; wrow_close) | walk1 | (dsimp only; walk1) | (leave1; walk_say "STEP leave1"; try dsimp only) | fail "no step")
      ((with_reducible show wpAny _ _ (call (Value.ref 274) _) _ _ _); k_dflt (refine' c_host _ _ _ _ _ _ _ _ _ _ _ _ _ _ _ _ _ _ _ _ _ ?k1u19 ?k2u19 ?k3u19 ?k4u19 ?k5u19 ?kKu19 ?kdu19 ?kuu19 ?_ ?keu19; (case k1u19 => k_asm); (case k2u19 => k_asm); (case k3u19 => k_asm); (case k4u19 => k_asm); (case k5u19 => k_asm); (case kKu19 => first | exact rfl | assumption); (case kdu19 => first | (with_unfolding_all decide) | ktr_room); (case kuu19 => first | (with_unfolding_all decide) | ktr_room);  (case keu19 => refine errK ?_; intro _ _ _ _ _ hE9; exact hE9.elim)); intro v9 n9 h9 tk9 ok9 F9 N9; obtain ⟨H9, d9, hA9, hB9, hC9, hD9, hE9, hF9, nA9, nB9, nC9, nD9, nE9, nF9, tA9, tB9, tC9, C9, e91, l9, l91, e92⟩ := ok9; subst e91 e92; (try k_lt l9); (have := allA_c l91 (by with_reducible assumption)); (try dsimp only); (try k_fold))
      iterate 34 (first | (k_unfold; (try dsimp only)) | (k_end; wrow_close) | walk1 | (dsimp only; walk1) | (leave1; walk_say "STEP leave1"; try dsimp only) | fail "no step")
      dsimp only
      ((with_reducible show wpAny _ _ (compareOp CmpOp.NotEq _ _) _ _ _); k_dflt (refine' ne_latr ?hgu20 ?Nu20 ?h1u20 ?h2u20 ?h3u20 ?k1u20 ?k2u20 ?k3u20 ?huu20 ?_; (case Nu20 => k_asm); (case h1u20 => k_mem); (case h2u20 => k_mem); (case h3u20 => k_mem); (case k1u20 => k_mem); (case k2u20 => k_mem); (case k3u20 => k_mem); (case hgu20 => with_reducible assumption); (case huu20 => ke_room)); (rename News _ _ _ _ => nOld); (have nNew := news_drop3 nOld); clear nOld)
      iterate 14 (first | (k_unfold; (try dsimp only)) | (k_end; wrow_close) | walk1 | (dsimp only; walk1) | (leave1; walk_say "STEP leave1"; try dsimp only) | fail "no step")
      ((with_reducible show wpAny _ _ (call (Value.ref 363) _) _ _ _); k_dflt (refine' c_heardX  ?r1u21 ?r2u21 ?r3u21 _ _ _ _ _ () _ ?hfu21 ?hCu21 _ _ _ _ _ _ _ _ _ _ _ _ _ _ _ _ ?k1u21 ?k2u21 ?k3u21 ?k4u21 ?k5u21 ?k6u21 ?k7u21 ?kKu21 ?kdu21 ?kuu21 ?_; (case r1u21 => with_reducible assumption); (case r2u21 => with_reducible assumption); (case r3u21 => with_reducible assumption); (case k1u21 => k_asm); (case k2u21 => k_asm); (case k3u21 => k_asm); (case k4u21 => k_asm); (case k5u21 => k_asm); (case k6u21 => k_asm); (case k7u21 => k_asm); (case kKu21 => first | exact rfl | assumption); (case kdu21 => first | (with_unfolding_all decide) | ktr_room); (case kuu21 => first | (with_unfolding_all decide) | ktr_room); (case hfu21 => k_mem); (case hCu21 => (refine' lam_gen ?gxu21; (case gxu21 => (intro nn hs9; refine' gB hs9 ?zzCu21 ?zzm1u21 ?zzm2u21 ?zzd2u21 ?zze2u21 ?zzm3u21 ?zzd3u21 ?zzm4u21 ?zzm5u21 ?zzm6u21 ?zzd6u21 ?zzm7u21 ?zzm8u21 ?zzm9u21 ?zzb1u21 ?zzb2u21 ?zzftu21 ?zzku21; (case zzCu21 => with_reducible assumption); (case zzm1u21 => exact List.Mem.head _); (case zzm2u21 => k_mem); (case zzd2u21 => with_reducible assumption); (case zze2u21 => with_reducible assumption); (case zzm3u21 => k_mem); (case zzd3u21 => with_reducible assumption); (case zzm4u21 => k_mem); (case zzm5u21 => k_mem); (case zzm8u21 => k_mem); (case zzm6u21 => k_mem); (case zzd6u21 => with_reducible assumption); (case zzm7u21 => k_mem); (case zzm9u21 => k_mem); (case zzb1u21 => omega); (case zzb2u21 => omega); (case zzftu21 => with_reducible assumption); (case zzku21 => (intro x0 x1 x2 x3 x4 x5 x6 x7 x8 x9 y0 y1 y2 y3 y4 y5 y6; (repeat (rename News _ _ _ _ => z9; clear z9)); (repeat (rename Fr _ _ _ _ => z9; clear z9)); (repeat (rename Below _ _ _ _ => z9; clear z9)); (repeat (rename OwnOff _ _ => z9; clear z9)); (repeat (rename RdA _ _ _ => z9; clear z9)); (repeat (rename ∀ p ∈ _, p ∈ _ => z9; clear z9)); (repeat clear qk); (repeat clear ek); (try k_fill); intro dp un gd cn cs a ccd cl outer A0 base h0 L m s Q E B F X N T hk hd hu hret herr; refine wpAny_call ?_; k_dflt (refine' kla_code ?k1u21 ?k2u21 ?k3u21 ?k4u21 ?k5u21 ?kAu21 ?kFu21 ?kKu21 ?k6u21 ?k7u21 ?k8u21 ?k9u21 ?kBu21 ?_ ?c2u21 ?c3u21 ?c4u21 ?c5u21; (case kAu21 => exact rfl); (case kFu21 => exact rfl); (case kKu21 => first | exact rfl | assumption); (case k1u21 => k_asm); (case k2u21 => k_asm); (case k3u21 => k_asm); (case k4u21 => k_asm); (case k5u21 => k_asm); (case k6u21 => k_mem); (case k7u21 => exact codeRec_news (by k_asm) (by k_mem) (by assumption) (by assumption)); (case k8u21 => ktr_room); (case k9u21 => exact rfl); (case c5u21 => decide); (case kBu21 => exact locs rfl); (case c2u21 => exact rfl); (case c3u21 => exact rfl); (case c4u21 => exact rfl); k_whole; intro g' L' h' FG' F' N' B' X' T'; (try dsimp only); (try k_lift B'); (try k_fold)); k_steps; (refine' hret _ _ _ _ ⟨_, _, _, _, rfl, ?a1u21, ?a2u21, ?a3u21⟩ ?aFu21 ?aNu21; (case aFu21 => k_asm); (case aNu21 => k_asm); (case a1u21 => with_reducible assumption); (case a2u21 => repeat (first | exact List.Mem.head _ | refine' List.Mem.tail _ ?_)); (case a3u21 => first | exact (fun p hp => .tail _ hp) | exact (fun p hp => .tail _ (.tail _ (.tail _ (.tail _ hp)))))) ))))))); intro v9 n9 h9 tk9 ok9 F9 N9; obtain ⟨ex9, rd9⟩ := ok9; (try dsimp only); (try k_fold))
      iterate 11 (first | (k_unfold; (try dsimp only)) | (k_end; wrow_close) | walk1 | (dsimp only; walk1) | (leave1; walk_say "STEP leave1"; try dsimp only) | fail "no step")
      ((with_reducible show wpAny _ _ (call (Value.ref 356) _) _ _ _); k_dflt (refine' c_dueA _ _ _ _ _ _ _ ?q1u22 ?q2u22 _ _ _ _ _ _ _ _ _ _ _ _ _ _ _ _ _ ?k1u22 ?k2u22 ?k3u22 ?k4u22 ?k5u22 ?kKu22 ?kdu22 ?kuu22 ?_ ?keu22; (case k1u22 => k_asm); (case k2u22 => k_asm); (case k3u22 => k_asm); (case k4u22 => k_asm); (case k5u22 => k_asm); (case kKu22 => first | exact rfl | assumption); (case kdu22 => first | (with_unfolding_all decide) | ktr_room); (case kuu22 => first | (with_unfolding_all decide) | ktr_room); (case q1u22 => omega); (case q2u22 => omega); (case keu22 => refine errK ?_; intro _ _ _ _ _ hE9; exact hE9.elim)); intro v9 n9 h9 tk9 ok9 F9 N9; obtain ⟨ex9, rd9⟩ := ok9; (try dsimp only); (try k_fold))
      iterate 1 (first | (k_unfold; (try dsimp only)) | (k_end; wrow_close) | walk1 | (dsimp only; walk1) | (leave1; walk_say "STEP leave1"; try dsimp only) | fail "no step")
      ((with_reducible show wpAny _ _ (compareOp CmpOp.NotEq _ _) _ _ _); k_dflt (refine' ne_rdX ?k1u23 ?k2u23 ?k3u23 ?k4u23 ?k5u23 ?k6u23 ?k7u23 ?_; (case k1u23 => k_asm); (case k2u23 => with_reducible assumption); (case k3u23 => with_reducible assumption); (case k4u23 => with_reducible assumption); (case k5u23 => with_reducible assumption); (case k6u23 => with_reducible assumption); (case k7u23 => ke_room)); intro N9; (have nNew := news_drop1 N9); clear N9; (try (rename RdA _ _ _ => z9; clear z9)); (try (rename RdA _ _ _ => z9; clear z9)))
      iterate 18 (first | (k_unfold; (try dsimp only)) | (k_end; wrow_close) | walk1 | (dsimp only; walk1) | (leave1; walk_say "STEP leave1"; try dsimp only) | fail "no step")
      ((with_reducible show wpAny _ _ (call (Value.ref 363) _) _ _ _); k_dflt (refine' c_heardX  ?r1u24 ?r2u24 ?r3u24 _ _ _ _ _ () _ ?hfu24 ?hCu24 _ _ _ _ _ _ _ _ _ _ _ _ _ _ _ _ ?k1u24 ?k2u24 ?k3u24 ?k4u24 ?k5u24 ?k6u24 ?k7u24 ?kKu24 ?kdu24 ?kuu24 ?_; (case r1u24 => with_reducible assumption); (case r2u24 => with_reducible assumption); (case r3u24 => with_reducible assumption); (case k1u24 => k_asm); (case k2u24 => k_asm); (case k3u24 => k_asm); (case k4u24 => k_asm); (case k5u24 => k_asm); (case k6u24 => k_asm); (case k7u24 => k_asm); (case kKu24 => first | exact rfl | assumption); (case kdu24 => first | (with_unfolding_all decide) | ktr_room); (case kuu24 => first | (with_unfolding_all decide) | ktr_room); (case hfu24 => k_mem); (case hCu24 => (refine' lam_gen ?gxu24; (case gxu24 => (intro nn hs9; refine' gB hs9 ?zzCu24 ?zzm1u24 ?zzm2u24 ?zzd2u24 ?zze2u24 ?zzm3u24 ?zzd3u24 ?zzm4u24 ?zzm5u24 ?zzm6u24 ?zzd6u24 ?zzm7u24 ?zzm8u24 ?zzm9u24 ?zzb1u24 ?zzb2u24 ?zzftu24 ?zzku24; (case zzCu24 => with_reducible assumption); (case zzm1u24 => exact List.Mem.head _); (case zzm2u24 => k_mem); (case zzd2u24 => with_reducible assumption); (case zze2u24 => with_reducible assumption); (case zzm3u24 => k_mem); (case zzd3u24 => with_reducible assumption); (case zzm4u24 => k_mem); (case zzm5u24 => k_mem); (case zzm8u24 => k_mem); (case zzm6u24 => k_mem); (case zzd6u24 => with_reducible assumption); (case zzm7u24 => k_mem); (case zzm9u24 => k_mem); (case zzb1u24 => omega); (case zzb2u24 => omega); (case zzftu24 => with_reducible assumption); (case zzku24 => (intro x0 x1 x2 x3 x4 x5 x6 x7 x8 x9 y0 y1 y2 y3 y4 y5 y6; (repeat (rename News _ _ _ _ => z9; clear z9)); (repeat (rename Fr _ _ _ _ => z9; clear z9)); (repeat (rename Below _ _ _ _ => z9; clear z9)); (repeat (rename OwnOff _ _ => z9; clear z9)); (repeat (rename RdA _ _ _ => z9; clear z9)); (repeat (rename ∀ p ∈ _, p ∈ _ => z9; clear z9)); (repeat clear qk); (repeat clear ek); (try k_fill); intro dp un gd cn cs a ccd cl outer A0 base h0 L m s Q E B F X N T hk hd hu hret herr; refine wpAny_call ?_; k_dflt (refine' kla_code ?k1u24 ?k2u24 ?k3u24 ?k4u24 ?k5u24 ?kAu24 ?kFu24 ?kKu24 ?k6u24 ?k7u24 ?k8u24 ?k9u24 ?kBu24 ?_ ?c2u24 ?c3u24 ?c4u24 ?c5u24; (case kAu24 => exact rfl); (case kFu24 => exact rfl); (case kKu24 => first | exact rfl | assumption); (case k1u24 => k_asm); (case k2u24 => k_asm); (case k3u24 => k_asm); (case k4u24 => k_asm); (case k5u24 => k_asm); (case k6u24 => k_mem); (case k7u24 => exact codeRec_news (by k_asm) (by k_mem) (by assumption) (by assumption)); (case k8u24 => ktr_room); (case k9u24 => exact rfl); (case c5u24 => decide); (case kBu24 => exact locs rfl); (case c2u24 => exact rfl); (case c3u24 => exact rfl); (case c4u24 => exact rfl); k_whole; intro g' L' h' FG' F' N' B' X' T'; (try dsimp only); (try k_lift B'); (try k_fold)); k_steps; (refine' hret _ _ _ _ ⟨_, _, _, _, rfl, ?a1u24, ?a2u24, ?a3u24⟩ ?aFu24 ?aNu24; (case aFu24 => k_asm); (case aNu24 => k_asm); (case a1u24 => with_reducible assumption); (case a2u24 => repeat (first | exact List.Mem.head _ | refine' List.Mem.tail _ ?_)); (case a3u24 => first | exact (fun p hp => .tail _ hp) | exact (fun p hp => .tail _ (.tail _ (.tail _ (.tail _ hp)))))) ))))))); intro v9 n9 h9 tk9 ok9 F9 N9; obtain ⟨ex9, rd9⟩ := ok9; (try dsimp only); (try k_fold))
      iterate 11 (first | (k_unfold; (try dsimp only)) | (k_end; wrow_close) | walk1 | (dsimp only; walk1) | (leave1; walk_say "STEP leave1"; try dsimp only) | fail "no step")
      ((with_reducible show wpAny _ _ (call (Value.ref 356) _) _ _ _); k_dflt (refine' c_dueA _ _ _ _ _ _ _ ?q1u25 ?q2u25 _ _ _ _ _ _ _ _ _ _ _ _ _ _ _ _ _ ?k1u25 ?k2u25 ?k3u25 ?k4u25 ?k5u25 ?kKu25 ?kdu25 ?kuu25 ?_ ?keu25; (case k1u25 => k_asm); (case k2u25 => k_asm); (case k3u25 => k_asm); (case k4u25 => k_asm); (case k5u25 => k_asm); (case kKu25 => first | exact rfl | assumption); (case kdu25 => first | (with_unfolding_all decide) | ktr_room); (case kuu25 => first | (with_unfolding_all decide) | ktr_room); (case q1u25 => omega); (case q2u25 => omega); (case keu25 => refine errK ?_; intro _ _ _ _ _ hE9; exact hE9.elim)); intro v9 n9 h9 tk9 ok9 F9 N9; obtain ⟨ex9, rd9⟩ := ok9; (try dsimp only); (try k_fold))
      iterate 1 (first | (k_unfold; (try dsimp only)) | (k_end; wrow_close) | walk1 | (dsimp only; walk1) | (leave1; walk_say "STEP leave1"; try dsimp only) | fail "no step")
      ((with_reducible show wpAny _ _ (compareOp CmpOp.NotEq _ _) _ _ _); k_dflt (refine' ne_rdX ?k1u26 ?k2u26 ?k3u26 ?k4u26 ?k5u26 ?k6u26 ?k7u26 ?_; (case k1u26 => k_asm); (case k2u26 => with_reducible assumption); (case k3u26 => with_reducible assumption); (case k4u26 => with_reducible assumption); (case k5u26 => with_reducible assumption); (case k6u26 => with_reducible assumption); (case k7u26 => ke_room)); intro N9; (have nNew := news_drop1 N9); clear N9; (try (rename RdA _ _ _ => z9; clear z9)); (try (rename RdA _ _ _ => z9; clear z9)))
      k_steps
      k_dflt (refine' turn_end ?zF ?zN ?zf ?zw ?z0 ?z1 ?ze1 ?ze2 ?ze3 ?ze4 ?zl1 ?zl2 ?zl3 ?zf1 ?zg1 ?zf2 ?zg2 ?zf3 ?zg3 ?zn ?zo ?zO ?zs ?zu1 ?zu2 ?zu3)
      case zF => k_asm
      case zN => k_asm
      case zf => with_unfolding_all rfl
      case zw => with_unfolding_all rfl
      case zO => with_reducible assumption
      case zn =>
        refine' List.forall_mem_cons.mpr ⟨?m1, List.forall_mem_cons.mpr ⟨?m2, List.forall_mem_cons.mpr ⟨?m3, List.forall_mem_cons.mpr ⟨?m4, List.forall_mem_cons.mpr ⟨?m5, List.forall_mem_cons.mpr ⟨?m6, List.forall_mem_cons.mpr ⟨?m7, List.forall_mem_cons.mpr ⟨?m8, List.forall_mem_cons.mpr ⟨?m9, List.forall_mem_cons.mpr ⟨?mA, List.forall_mem_cons.mpr ⟨?mB, List.forall_mem_cons.mpr ⟨?mC, List.forall_mem_cons.mpr ⟨?mD, List.forall_mem_nil _⟩⟩⟩⟩⟩⟩⟩⟩⟩⟩⟩⟩⟩
        all_goals (repeat (first | exact List.Mem.head _ | refine' List.Mem.tail _ ?_))
      case zo => exact fun p hp => by (repeat' apply List.Mem.tail); exact hp
      case zs => first | exact fun b hb => hb | exact fun b hb => List.mem_append_left [_, _, _] hb
      case z0 => omega
      case z1 => omega
      case ze1 => with_reducible assumption
      case ze2 => with_reducible assumption
      case ze3 => with_reducible assumption
      case ze4 => with_reducible assumption
      case zf1 => with_reducible assumption
      case zg1 => assumption
      case zf2 => with_reducible assumption
      case zg2 => assumption
      case zf3 => with_reducible assumption
      case zg3 => assumption
      case zu1 => first | ((refine' ltAll_ne ?zx1 ?zx2); (case zx1 => with_reducible assumption); (case zx2 => intro p hp; (repeat' apply List.Mem.tail); exact hp)) | exact OwnOff.ne (by with_reducible assumption) (by repeat (first | exact List.Mem.head _ | refine' List.Mem.tail _ ?_))
      case zu2 => first | (refine' ltAll_ne ?zx1 ?zx2; (case zx1 => with_reducible assumption); (case zx2 => intro p hp; (repeat' apply List.Mem.tail); exact hp)) | exact OwnOff.ne (by with_reducible assumption) (by repeat (first | exact List.Mem.head _ | refine' List.Mem.tail _ ?_))
      case zu3 => first | (refine' ltAll_ne ?zx1 ?zx2; (case zx1 => with_reducible assumption); (case zx2 => intro p hp; (repeat' apply List.Mem.tail); exact hp)) | exact OwnOff.ne (by with_reducible assumption) (by repeat (first | exact List.Mem.head _ | refine' List.Mem.tail _ ?_))
      all_goals first
        | with_reducible assumption
        | omega
        | exact OwnLt.out (by with_reducible assumption)
        | exact OwnOff.ne (by with_reducible assumption) (by repeat (first | exact List.Mem.head _ | refine' List.Mem.tail _ ?_))
    case inr =>
      rename _ < (33 : Int) => hr33
      obtain ⟨P9, hP9, hP2, hP3, hw8, hw40⟩ := pow_ex hr33 (by with_reducible assumption)
      (have := allA_c l1 (by with_reducible assumption)); (have := allA_c l2 (by with_reducible assumption)); (have := allA_c l3 (by with_reducible assumption))
      iterate 11 (first | (k_unfold; (try dsimp only)) | (k_end; wrow_close) | walk1 | (dsimp only; walk1) | (leave1; walk_say "STEP leave1"; try dsimp only) | fail "no step")
      ((with_reducible show wpAny _ _ (call (Value.ref 342) _) _ _ _); k_dflt (refine' c_next _ _ _ _ _ _ _ _ _ _ ?hiu27 ?hnu27 ?hn2u27 ?ht0u27 ?ht1u27 ?hm0u27 ?hm1u27 ?hneu27 ?hlu27 ?hDu27 (updA_ofF ?hUu27) _ _ _ _ _ _ _ _ _ _ _ _ _ _ _ _ _ ?k1u27 ?k2u27 ?k3u27 ?k4u27 ?k5u27 ?kKu27 ?kdu27 ?kuu27 ?_ ?keu27; (case k1u27 => k_asm); (case k2u27 => k_asm); (case k3u27 => k_asm); (case k4u27 => k_asm); (case k5u27 => k_asm); (case kKu27 => first | exact rfl | assumption); (case kdu27 => first | (with_unfolding_all decide) | ktr_room); (case kuu27 => first | (with_unfolding_all decide) | ktr_room); (case hlu27 => k_mem); (case hDu27 => k_mem); (case hiu27 => with_reducible assumption); (case hnu27 => with_reducible assumption); (case hn2u27 => with_reducible assumption); (case ht0u27 => omega); (case ht1u27 => omega); (case hm0u27 => decide); (case hm1u27 => decide); (case hneu27 => first | omega | (apply Nat.ne_of_lt; omega)); (case hUu27 => k_updF); (case keu27 => refine errK ?_; intro _ _ _ _ _ hE9; exact hE9.elim)); intro v9 n9 h9 tk9 ok9 F9 N9; obtain ⟨r9, t9, k9, e91, r90, r91, e92⟩ := ok9; subst e91 e92; (try dsimp only at N9); (try dsimp only); (try k_fold))
      iterate 66 (first | (k_unfold; (try dsimp only)) | (k_end; wrow_close) | walk1 | (dsimp only; walk1) | (leave1; walk_say "STEP leave1"; try dsimp only) | fail "no step")
      ((with_reducible show wpAny _ _ (call (Value.ref 342) _) _ _ _); k_dflt (refine' c_next _ _ _ _ _ _ _ _ _ _ ?hiu28 ?hnu28 ?hn2u28 ?ht0u28 ?ht1u28 ?hm0u28 ?hm1u28 ?hneu28 ?hlu28 ?hDu28 (updA_ofF ?hUu28) _ _ _ _ _ _ _ _ _ _ _ _ _ _ _ _ _ ?k1u28 ?k2u28 ?k3u28 ?k4u28 ?k5u28 ?kKu28 ?kdu28 ?kuu28 ?_ ?keu28; (case k1u28 => k_asm); (case k2u28 => k_asm); (case k3u28 => k_asm); (case k4u28 => k_asm); (case k5u28 => k_asm); (case kKu28 => first | exact rfl | assumption); (case kdu28 => first | (with_unfolding_all decide) | ktr_room); (case kuu28 => first | (with_unfolding_all decide) | ktr_room); (case hlu28 => k_mem); (case hDu28 => k_mem); (case hiu28 => with_reducible assumption); (case hnu28 => with_reducible assumption); (case hn2u28 => with_reducible assumption); (case ht0u28 => omega); (case ht1u28 => omega); (case hm0u28 => decide); (case hm1u28 => decide); (case hneu28 => first | omega | (apply Nat.ne_of_lt; omega)); (case hUu28 => k_updF); (case keu28 => refine errK ?_; intro _ _ _ _ _ hE9; exact hE9.elim)); intro v9 n9 h9 tk9 ok9 F9 N9; obtain ⟨r9, t9, k9, e91, r90, r91, e92⟩ := ok9; subst e91 e92; (try dsimp only at N9); (try dsimp only); (try k_fold))
      iterate 11 (first | (k_unfold; (try dsimp only)) | (k_end; wrow_close) | walk1 | (dsimp only; walk1) | (leave1; walk_say "STEP leave1"; try dsimp only) | fail "no step")
      ((with_reducible show wpAny _ _ (call (Value.ref 349) _) _ _ _); k_dflt (refine' c_value _ _ _ _ _ ?q1u29 ?q2u29 ?q3u29 ?q4u29 _ _ _ _ _ _ _ _ _ _ _ _ _ _ _ _ _ ?k1u29 ?k2u29 ?k3u29 ?k4u29 ?k5u29 ?kKu29 ?kdu29 ?kuu29 ?_ ?keu29; (case k1u29 => k_asm); (case k2u29 => k_asm); (case k3u29 => k_asm); (case k4u29 => k_asm); (case k5u29 => k_asm); (case kKu29 => first | exact rfl | assumption); (case kdu29 => first | (with_unfolding_all decide) | ktr_room); (case kuu29 => first | (with_unfolding_all decide) | ktr_room); (case q1u29 => with_reducible assumption); (case q2u29 => with_reducible assumption); (case q3u29 => with_reducible assumption); (case q4u29 => with_reducible assumption); (case keu29 => refine errK ?_; intro _ _ _ _ _ hE9; exact hE9.elim)); intro v9 n9 h9 tk9 ok9 F9 N9; obtain ⟨pv9, num9, lv9, T9, t19, t29, v19, v29, e91, l9, e92, e93, e94⟩ := ok9; subst e91 e94 e92 e93; (have pl9 := plain (by with_reducible assumption) (by omega) (by omega) lv9); obtain ⟨⟨fit9, good9⟩, pw9, p649⟩ := pl9; (try k_lt l9); skip; (try dsimp only); (try k_fold))
      iterate 19 (first | (k_unfold; (try dsimp only)) | (k_end; wrow_close) | walk1 | (dsimp only; walk1) | (leave1; walk_say "STEP leave1"; try dsimp only) | fail "no step")
      ((with_reducible show wpAny _ _ (call (Value.ref 363) _) _ _ _); k_dflt (refine' c_heardX  ?r1u30 ?r2u30 ?r3u30 _ _ _ _ _ () _ ?hfu30 ?hCu30 _ _ _ _ _ _ _ _ _ _ _ _ _ _ _ _ ?k1u30 ?k2u30 ?k3u30 ?k4u30 ?k5u30 ?k6u30 ?k7u30 ?kKu30 ?kdu30 ?kuu30 ?_; (case r1u30 => with_reducible assumption); (case r2u30 => with_reducible assumption); (case r3u30 => with_reducible assumption); (case k1u30 => k_asm); (case k2u30 => k_asm); (case k3u30 => k_asm); (case k4u30 => k_asm); (case k5u30 => k_asm); (case k6u30 => k_asm); (case k7u30 => k_asm); (case kKu30 => first | exact rfl | assumption); (case kdu30 => first | (with_unfolding_all decide) | ktr_room); (case kuu30 => first | (with_unfolding_all decide) | ktr_room); (case hfu30 => k_mem); (case hCu30 => (refine' lam_gen ?gxu30; (case gxu30 => (intro nn hs9; refine' gA hs9 ?zzCu30 ?zzm1u30 ?zzm2u30 ?zzd2u30 ?zze2u30 ?zzd3u30 ?zzm3u30 ?zzd4u30 ?zzm4u30 ?zzm6u30 ?zzd5u30 ?zzm5u30 ?zzm7u30 ?zzb1u30 ?zzb2u30 ?zzftu30 ?zzku30; (case zzCu30 => with_reducible assumption); (case zzm1u30 => exact List.Mem.head _); (case zzm2u30 => k_mem); (case zzd2u30 => with_reducible assumption); (case zze2u30 => with_reducible assumption); (case zzd3u30 => with_reducible assumption); (case zzm3u30 => k_mem); (case zzd4u30 => with_reducible assumption); (case zzm4u30 => k_mem); (case zzm6u30 => k_mem); (case zzd5u30 => with_reducible assumption); (case zzm5u30 => k_mem); (case zzm7u30 => k_mem); (case zzb1u30 => with_reducible assumption); (case zzb2u30 => with_reducible assumption); (case zzftu30 => with_reducible assumption); (case zzku30 => (intro x0 x1 x2 x3 x4 x5 x6 x7 x8 x9 y0 y1 y2 y3 y4 y5; (repeat (rename News _ _ _ _ => z9; clear z9)); (repeat (rename Fr _ _ _ _ => z9; clear z9)); (repeat (rename Below _ _ _ _ => z9; clear z9)); (repeat (rename OwnOff _ _ => z9; clear z9)); (repeat (rename RdA _ _ _ => z9; clear z9)); (repeat (rename ∀ p ∈ _, p ∈ _ => z9; clear z9)); (repeat clear qk); (repeat clear ek); (try k_fill); intro dp un gd cn cs a ccd cl outer A0 base h0 L m s Q E B F X N T hk hd hu hret herr; refine wpAny_call ?_; k_dflt (refine' kla_code ?k1u30 ?k2u30 ?k3u30 ?k4u30 ?k5u30 ?kAu30 ?kFu30 ?kKu30 ?k6u30 ?k7u30 ?k8u30 ?k9u30 ?kBu30 ?_ ?c2u30 ?c3u30 ?c4u30 ?c5u30; (case kAu30 => exact rfl); (case kFu30 => exact rfl); (case kKu30 => first | exact rfl | assumption); (case k1u30 => k_asm); (case k2u30 => k_asm); (case k3u30 => k_asm); (case k4u30 => k_asm); (case k5u30 => k_asm); (case k6u30 => k_mem); (case k7u30 => exact codeRec_news (by k_asm) (by k_mem) (by assumption) (by assumption)); (case k8u30 => ktr_room); (case k9u30 => exact rfl); (case c5u30 => decide); (case kBu30 => exact locs rfl); (case c2u30 => exact rfl); (case c3u30 => exact rfl); (case c4u30 => exact rfl); k_whole; intro g' L' h' FG' F' N' B' X' T'; (try dsimp only); (try k_lift B'); (try k_fold)); k_steps; (refine' hret _ _ _ _ ⟨_, _, _, _, rfl, ?a1u30, ?a2u30, ?a3u30⟩ ?aFu30 ?aNu30; (case aFu30 => k_asm); (case aNu30 => k_asm); (case a1u30 => with_reducible assumption); (case a2u30 => repeat (first | exact List.Mem.head _ | refine' List.Mem.tail _ ?_)); (case a3u30 => first | exact (fun p hp => .tail _ hp) | exact (fun p hp => .tail _ (.tail _ (.tail _ (.tail _ hp)))))) ))))))); intro v9 n9 h9 tk9 ok9 F9 N9; obtain ⟨ex9, rd9⟩ := ok9; (try dsimp only); (try k_fold))
      iterate 11 (first | (k_unfold; (try dsimp only)) | (k_end; wrow_close) | walk1 | (dsimp only; walk1) | (leave1; walk_say "STEP leave1"; try dsimp only) | fail "no step")
      ((with_reducible show wpAny _ _ (call (Value.ref 356) _) _ _ _); k_dflt (refine' c_dueA _ _ _ _ _ _ _ ?q1u31 ?q2u31 _ _ _ _ _ _ _ _ _ _ _ _ _ _ _ _ _ ?k1u31 ?k2u31 ?k3u31 ?k4u31 ?k5u31 ?kKu31 ?kdu31 ?kuu31 ?_ ?keu31; (case k1u31 => k_asm); (case k2u31 => k_asm); (case k3u31 => k_asm); (case k4u31 => k_asm); (case k5u31 => k_asm); (case kKu31 => first | exact rfl | assumption); (case kdu31 => first | (with_unfolding_all decide) | ktr_room); (case kuu31 => first | (with_unfolding_all decide) | ktr_room); (case q1u31 => omega); (case q2u31 => omega); (case keu31 => refine errK ?_; intro _ _ _ _ _ hE9; exact hE9.elim)); intro v9 n9 h9 tk9 ok9 F9 N9; obtain ⟨ex9, rd9⟩ := ok9; (try dsimp only); (try k_fold))
      iterate 1 (first | (k_unfold; (try dsimp only)) | (k_end; wrow_close) | walk1 | (dsimp only; walk1) | (leave1; walk_say "STEP leave1"; try dsimp only) | fail "no step")
      ((with_reducible show wpAny _ _ (compareOp CmpOp.NotEq _ _) _ _ _); k_dflt (refine' ne_rdX ?k1u32 ?k2u32 ?k3u32 ?k4u32 ?k5u32 ?k6u32 ?k7u32 ?_; (case k1u32 => k_asm); (case k2u32 => with_reducible assumption); (case k3u32 => with_reducible assumption); (case k4u32 => with_reducible assumption); (case k5u32 => with_reducible assumption); (case k6u32 => with_reducible assumption); (case k7u32 => ke_room)); intro N9; (have nNew := news_drop1 N9); clear N9; (try (rename RdA _ _ _ => z9; clear z9)); (try (rename RdA _ _ _ => z9; clear z9)))
      iterate 29 (first | (k_unfold; (try dsimp only)) | (k_end; wrow_close) | walk1 | (dsimp only; walk1) | (leave1; walk_say "STEP leave1"; try dsimp only) | fail "no step")
      ((with_reducible show wpAny _ _ (call (Value.ref 96) _) _ _ _); k_dflt (refine' c_delay _ _ _ _ _ _ _ _ _ _ _ _ _ _ _ _ _ _ _ ?k1u33 ?k2u33 ?k3u33 ?k4u33 ?k5u33 ?kKu33 ?kdu33 ?kuu33 ?_ ?keu33; (case k1u33 => k_asm); (case k2u33 => k_asm); (case k3u33 => k_asm); (case k4u33 => k_asm); (case k5u33 => k_asm); (case kKu33 => first | exact rfl | assumption); (case kdu33 => first | (with_unfolding_all decide) | ktr_room); (case kuu33 => first | (with_unfolding_all decide) | ktr_room);  (case keu33 => refine errK ?_; intro _ _ _ _ _ hE9; exact hE9.elim)); intro v9 n9 h9 tk9 ok9 F9 N9; obtain ⟨x9, d9, hs9, nt9, e91, l9, l91, e92⟩ := ok9; subst e91 e92; (try k_lt l9); (have := allA_c l91 (by with_reducible assumption)); (try dsimp only); (try k_fold))
      iterate 4 (first | (k_unfold; (try dsimp only)) | (k_end; wrow_close) | walk1 | (dsimp only; walk1) | (leave1; walk_say "STEP leave1"; try dsimp only) | fail "no step")
      ((with_reducible show wpAny _ _ (call (Value.ref (fOf _)) _) _ _ _); k_dflt (refine' c_md _ _ _ _ _ _ _ _ _ _ _ _ _ _ _ _ _ ?qWu34 ?qdu34 ?qAu34 ?qxu34 ?qyu34 _ _ _ _ _ _ _ _ _ _ _ _ _ _ _ _ _ ?k1u34 ?k2u34 ?k3u34 ?k4u34 ?k5u34 ?kKu34 ?kdu34 ?kuu34 ?_ ?keu34; (case k1u34 => k_asm); (case k2u34 => k_asm); (case k3u34 => k_asm); (case k4u34 => k_asm); (case k5u34 => k_asm); (case kKu34 => first | exact rfl | assumption); (case kdu34 => first | (with_unfolding_all decide) | ktr_room); (case kuu34 => first | (with_unfolding_all decide) | ktr_room); (case qWu34 => k_mem); (case qdu34 => k_mem); (case qAu34 => k_mem); (case qxu34 => k_mem); (case qyu34 => k_mem); (case keu34 => refine errK ?_; intro _ _ _ _ _ hE9; exact hE9.elim)); intro v9 n9 h9 tk9 ok9 F9 N9; obtain ⟨x9, d9, T91, T92, t91, t92, hs9, nt9, e91, l9, l91, l92, l93, e92⟩ := ok9; subst e91 e92; (try k_lt l9); (have := allA_c l91 (by with_reducible assumption)); (have := allA_c l92 (by with_reducible assumption)); (have := allA_c l93 (by with_reducible assumption)); (try dsimp only); (try k_fold))
      iterate 15 (first | (k_unfold; (try dsimp only)) | (k_end; wrow_close) | walk1 | (dsimp only; walk1) | (leave1; walk_say "STEP leave1"; try dsimp only) | fail "no step")
      ((with_reducible show wpAny _ _ (call (Value.ref 274) _) _ _ _); k_dflt (refine' c_host _ _ _ _ _ _ _ _ _ _ _ _ _ _ _ _ _ _ _ _ _ ?k1u35 ?k2u35 ?k3u35 ?k4u35 ?k5u35 ?kKu35 ?kdu35 ?kuu35 ?_ ?keu35; (case k1u35 => k_asm); (case k2u35 => k_asm); (case k3u35 => k_asm); (case k4u35 => k_asm); (case k5u35 => k_asm); (case kKu35 => first | exact rfl | assumption); (case kdu35 => first | (with_unfolding_all decide) | ktr_room); (case kuu35 => first | (with_unfolding_all decide) | ktr_room);  (case keu35 => refine errK ?_; intro _ _ _ _ _ hE9; exact hE9.elim)); intro v9 n9 h9 tk9 ok9 F9 N9; obtain ⟨H9, d9, hA9, hB9, hC9, hD9, hE9, hF9, nA9, nB9, nC9, nD9, nE9, nF9, tA9, tB9, tC9, C9, e91, l9, l91, e92⟩ := ok9; subst e91 e92; (try k_lt l9); (have := allA_c l91 (by with_reducible assumption)); (try dsimp only); (try k_fold))
      iterate 34 (first | (k_unfold; (try dsimp only)) | (k_end; wrow_close) | walk1 | (dsimp only; walk1) | (leave1; walk_say "STEP leave1"; try dsimp only) | fail "no step")
      dsimp only
      ((with_reducible show wpAny _ _ (compareOp CmpOp.NotEq _ _) _ _ _); k_dflt (refine' ne_latr ?hgu36 ?Nu36 ?h1u36 ?h2u36 ?h3u36 ?k1u36 ?k2u36 ?k3u36 ?huu36 ?_; (case Nu36 => k_asm); (case h1u36 => k_mem); (case h2u36 => k_mem); (case h3u36 => k_mem); (case k1u36 => k_mem); (case k2u36 => k_mem); (case k3u36 => k_mem); (case hgu36 => with_reducible assumption); (case huu36 => ke_room)); (rename News _ _ _ _ => nOld); (have nNew := news_drop3 nOld); clear nOld)
      iterate 14 (first | (k_unfold; (try dsimp only)) | (k_end; wrow_close) | walk1 | (dsimp only; walk1) | (leave1; walk_say "STEP leave1"; try dsimp only) | fail "no step")
      ((with_reducible show wpAny _ _ (call (Value.ref 363) _) _ _ _); k_dflt (refine' c_heardX  ?r1u37 ?r2u37 ?r3u37 _ _ _ _ _ () _ ?hfu37 ?hCu37 _ _ _ _ _ _ _ _ _ _ _ _ _ _ _ _ ?k1u37 ?k2u37 ?k3u37 ?k4u37 ?k5u37 ?k6u37 ?k7u37 ?kKu37 ?kdu37 ?kuu37 ?_; (case r1u37 => with_reducible assumption); (case r2u37 => with_reducible assumption); (case r3u37 => with_reducible assumption); (case k1u37 => k_asm); (case k2u37 => k_asm); (case k3u37 => k_asm); (case k4u37 => k_asm); (case k5u37 => k_asm); (case k6u37 => k_asm); (case k7u37 => k_asm); (case kKu37 => first | exact rfl | assumption); (case kdu37 => first | (with_unfolding_all decide) | ktr_room); (case kuu37 => first | (with_unfolding_all decide) | ktr_room); (case hfu37 => k_mem); (case hCu37 => (refine' lam_gen ?gxu37; (case gxu37 => (intro nn hs9; refine' gB hs9 ?zzCu37 ?zzm1u37 ?zzm2u37 ?zzd2u37 ?zze2u37 ?zzm3u37 ?zzd3u37 ?zzm4u37 ?zzm5u37 ?zzm6u37 ?zzd6u37 ?zzm7u37 ?zzm8u37 ?zzm9u37 ?zzb1u37 ?zzb2u37 ?zzftu37 ?zzku37; (case zzCu37 => with_reducible assumption); (case zzm1u37 => exact List.Mem.head _); (case zzm2u37 => k_mem); (case zzd2u37 => with_reducible assumption); (case zze2u37 => with_reducible assumption); (case zzm3u37 => k_mem); (case zzd3u37 => with_reducible assumption); (case zzm4u37 => k_mem); (case zzm5u37 => k_mem); (case zzm8u37 => k_mem); (case zzm6u37 => k_mem); (case zzd6u37 => with_reducible assumption); (case zzm7u37 => k_mem); (case zzm9u37 => k_mem); (case zzb1u37 => omega); (case zzb2u37 => omega); (case zzftu37 => with_reducible assumption); (case zzku37 => (intro x0 x1 x2 x3 x4 x5 x6 x7 x8 x9 y0 y1 y2 y3 y4 y5 y6; (repeat (rename News _ _ _ _ => z9; clear z9)); (repeat (rename Fr _ _ _ _ => z9; clear z9)); (repeat (rename Below _ _ _ _ => z9; clear z9)); (repeat (rename OwnOff _ _ => z9; clear z9)); (repeat (rename RdA _ _ _ => z9; clear z9)); (repeat (rename ∀ p ∈ _, p ∈ _ => z9; clear z9)); (repeat clear qk); (repeat clear ek); (try k_fill); intro dp un gd cn cs a ccd cl outer A0 base h0 L m s Q E B F X N T hk hd hu hret herr; refine wpAny_call ?_; k_dflt (refine' kla_code ?k1u37 ?k2u37 ?k3u37 ?k4u37 ?k5u37 ?kAu37 ?kFu37 ?kKu37 ?k6u37 ?k7u37 ?k8u37 ?k9u37 ?kBu37 ?_ ?c2u37 ?c3u37 ?c4u37 ?c5u37; (case kAu37 => exact rfl); (case kFu37 => exact rfl); (case kKu37 => first | exact rfl | assumption); (case k1u37 => k_asm); (case k2u37 => k_asm); (case k3u37 => k_asm); (case k4u37 => k_asm); (case k5u37 => k_asm); (case k6u37 => k_mem); (case k7u37 => exact codeRec_news (by k_asm) (by k_mem) (by assumption) (by assumption)); (case k8u37 => ktr_room); (case k9u37 => exact rfl); (case c5u37 => decide); (case kBu37 => exact locs rfl); (case c2u37 => exact rfl); (case c3u37 => exact rfl); (case c4u37 => exact rfl); k_whole; intro g' L' h' FG' F' N' B' X' T'; (try dsimp only); (try k_lift B'); (try k_fold)); k_steps; (refine' hret _ _ _ _ ⟨_, _, _, _, rfl, ?a1u37, ?a2u37, ?a3u37⟩ ?aFu37 ?aNu37; (case aFu37 => k_asm); (case aNu37 => k_asm); (case a1u37 => with_reducible assumption); (case a2u37 => repeat (first | exact List.Mem.head _ | refine' List.Mem.tail _ ?_)); (case a3u37 => first | exact (fun p hp => .tail _ hp) | exact (fun p hp => .tail _ (.tail _ (.tail _ (.tail _ hp)))))) ))))))); intro v9 n9 h9 tk9 ok9 F9 N9; obtain ⟨ex9, rd9⟩ := ok9; (try dsimp only); (try k_fold))
      iterate 11 (first | (k_unfold; (try dsimp only)) | (k_end; wrow_close) | walk1 | (dsimp only; walk1) | (leave1; walk_say "STEP leave1"; try dsimp only) | fail "no step")
      ((with_reducible show wpAny _ _ (call (Value.ref 356) _) _ _ _); k_dflt (refine' c_dueA _ _ _ _ _ _ _ ?q1u38 ?q2u38 _ _ _ _ _ _ _ _ _ _ _ _ _ _ _ _ _ ?k1u38 ?k2u38 ?k3u38 ?k4u38 ?k5u38 ?kKu38 ?kdu38 ?kuu38 ?_ ?keu38; (case k1u38 => k_asm); (case k2u38 => k_asm); (case k3u38 => k_asm); (case k4u38 => k_asm); (case k5u38 => k_asm); (case kKu38 => first | exact rfl | assumption); (case kdu38 => first | (with_unfolding_all decide) | ktr_room); (case kuu38 => first | (with_unfolding_all decide) | ktr_room); (case q1u38 => omega); (case q2u38 => omega); (case keu38 => refine errK ?_; intro _ _ _ _ _ hE9; exact hE9.elim)); intro v9 n9 h9 tk9 ok9 F9 N9; obtain ⟨ex9, rd9⟩ := ok9; (try dsimp only); (try k_fold))
      iterate 1 (first | (k_unfold; (try dsimp only)) | (k_end; wrow_close) | walk1 | (dsimp only; walk1) | (leave1; walk_say "STEP leave1"; try dsimp only) | fail "no step")
      ((with_reducible show wpAny _ _ (compareOp CmpOp.NotEq _ _) _ _ _); k_dflt (refine' ne_rdX ?k1u39 ?k2u39 ?k3u39 ?k4u39 ?k5u39 ?k6u39 ?k7u39 ?_; (case k1u39 => k_asm); (case k2u39 => with_reducible assumption); (case k3u39 => with_reducible assumption); (case k4u39 => with_reducible assumption); (case k5u39 => with_reducible assumption); (case k6u39 => with_reducible assumption); (case k7u39 => ke_room)); intro N9; (have nNew := news_drop1 N9); clear N9; (try (rename RdA _ _ _ => z9; clear z9)); (try (rename RdA _ _ _ => z9; clear z9)))
      iterate 18 (first | (k_unfold; (try dsimp only)) | (k_end; wrow_close) | walk1 | (dsimp only; walk1) | (leave1; walk_say "STEP leave1"; try dsimp only) | fail "no step")
      ((with_reducible show wpAny _ _ (call (Value.ref 363) _) _ _ _); k_dflt (refine' c_heardX  ?r1u40 ?r2u40 ?r3u40 _ _ _ _ _ () _ ?hfu40 ?hCu40 _ _ _ _ _ _ _ _ _ _ _ _ _ _ _ _ ?k1u40 ?k2u40 ?k3u40 ?k4u40 ?k5u40 ?k6u40 ?k7u40 ?kKu40 ?kdu40 ?kuu40 ?_; (case r1u40 => with_reducible assumption); (case r2u40 => with_reducible assumption); (case r3u40 => with_reducible assumption); (case k1u40 => k_asm); (case k2u40 => k_asm); (case k3u40 => k_asm); (case k4u40 => k_asm); (case k5u40 => k_asm); (case k6u40 => k_asm); (case k7u40 => k_asm); (case kKu40 => first | exact rfl | assumption); (case kdu40 => first | (with_unfolding_all decide) | ktr_room); (case kuu40 => first | (with_unfolding_all decide) | ktr_room); (case hfu40 => k_mem); (case hCu40 => (refine' lam_gen ?gxu40; (case gxu40 => (intro nn hs9; refine' gB hs9 ?zzCu40 ?zzm1u40 ?zzm2u40 ?zzd2u40 ?zze2u40 ?zzm3u40 ?zzd3u40 ?zzm4u40 ?zzm5u40 ?zzm6u40 ?zzd6u40 ?zzm7u40 ?zzm8u40 ?zzm9u40 ?zzb1u40 ?zzb2u40 ?zzftu40 ?zzku40; (case zzCu40 => with_reducible assumption); (case zzm1u40 => exact List.Mem.head _); (case zzm2u40 => k_mem); (case zzd2u40 => with_reducible assumption); (case zze2u40 => with_reducible assumption); (case zzm3u40 => k_mem); (case zzd3u40 => with_reducible assumption); (case zzm4u40 => k_mem); (case zzm5u40 => k_mem); (case zzm8u40 => k_mem); (case zzm6u40 => k_mem); (case zzd6u40 => with_reducible assumption); (case zzm7u40 => k_mem); (case zzm9u40 => k_mem); (case zzb1u40 => omega); (case zzb2u40 => omega); (case zzftu40 => with_reducible assumption); (case zzku40 => (intro x0 x1 x2 x3 x4 x5 x6 x7 x8 x9 y0 y1 y2 y3 y4 y5 y6; (repeat (rename News _ _ _ _ => z9; clear z9)); (repeat (rename Fr _ _ _ _ => z9; clear z9)); (repeat (rename Below _ _ _ _ => z9; clear z9)); (repeat (rename OwnOff _ _ => z9; clear z9)); (repeat (rename RdA _ _ _ => z9; clear z9)); (repeat (rename ∀ p ∈ _, p ∈ _ => z9; clear z9)); (repeat clear qk); (repeat clear ek); (try k_fill); intro dp un gd cn cs a ccd cl outer A0 base h0 L m s Q E B F X N T hk hd hu hret herr; refine wpAny_call ?_; k_dflt (refine' kla_code ?k1u40 ?k2u40 ?k3u40 ?k4u40 ?k5u40 ?kAu40 ?kFu40 ?kKu40 ?k6u40 ?k7u40 ?k8u40 ?k9u40 ?kBu40 ?_ ?c2u40 ?c3u40 ?c4u40 ?c5u40; (case kAu40 => exact rfl); (case kFu40 => exact rfl); (case kKu40 => first | exact rfl | assumption); (case k1u40 => k_asm); (case k2u40 => k_asm); (case k3u40 => k_asm); (case k4u40 => k_asm); (case k5u40 => k_asm); (case k6u40 => k_mem); (case k7u40 => exact codeRec_news (by k_asm) (by k_mem) (by assumption) (by assumption)); (case k8u40 => ktr_room); (case k9u40 => exact rfl); (case c5u40 => decide); (case kBu40 => exact locs rfl); (case c2u40 => exact rfl); (case c3u40 => exact rfl); (case c4u40 => exact rfl); k_whole; intro g' L' h' FG' F' N' B' X' T'; (try dsimp only); (try k_lift B'); (try k_fold)); k_steps; (refine' hret _ _ _ _ ⟨_, _, _, _, rfl, ?a1u40, ?a2u40, ?a3u40⟩ ?aFu40 ?aNu40; (case aFu40 => k_asm); (case aNu40 => k_asm); (case a1u40 => with_reducible assumption); (case a2u40 => repeat (first | exact List.Mem.head _ | refine' List.Mem.tail _ ?_)); (case a3u40 => first | exact (fun p hp => .tail _ hp) | exact (fun p hp => .tail _ (.tail _ (.tail _ (.tail _ hp)))))) ))))))); intro v9 n9 h9 tk9 ok9 F9 N9; obtain ⟨ex9, rd9⟩ := ok9; (try dsimp only); (try k_fold))
      iterate 11 (first | (k_unfold; (try dsimp only)) | (k_end; wrow_close) | walk1 | (dsimp only; walk1) | (leave1; walk_say "STEP leave1"; try dsimp only) | fail "no step")
      ((with_reducible show wpAny _ _ (call (Value.ref 356) _) _ _ _); k_dflt (refine' c_dueA _ _ _ _ _ _ _ ?q1u41 ?q2u41 _ _ _ _ _ _ _ _ _ _ _ _ _ _ _ _ _ ?k1u41 ?k2u41 ?k3u41 ?k4u41 ?k5u41 ?kKu41 ?kdu41 ?kuu41 ?_ ?keu41; (case k1u41 => k_asm); (case k2u41 => k_asm); (case k3u41 => k_asm); (case k4u41 => k_asm); (case k5u41 => k_asm); (case kKu41 => first | exact rfl | assumption); (case kdu41 => first | (with_unfolding_all decide) | ktr_room); (case kuu41 => first | (with_unfolding_all decide) | ktr_room); (case q1u41 => omega); (case q2u41 => omega); (case keu41 => refine errK ?_; intro _ _ _ _ _ hE9; exact hE9.elim)); intro v9 n9 h9 tk9 ok9 F9 N9; obtain ⟨ex9, rd9⟩ := ok9; (try dsimp only); (try k_fold))
      iterate 1 (first | (k_unfold; (try dsimp only)) | (k_end; wrow_close) | walk1 | (dsimp only; walk1) | (leave1; walk_say "STEP leave1"; try dsimp only) | fail "no step")
      ((with_reducible show wpAny _ _ (compareOp CmpOp.NotEq _ _) _ _ _); k_dflt (refine' ne_rdX ?k1u42 ?k2u42 ?k3u42 ?k4u42 ?k5u42 ?k6u42 ?k7u42 ?_; (case k1u42 => k_asm); (case k2u42 => with_reducible assumption); (case k3u42 => with_reducible assumption); (case k4u42 => with_reducible assumption); (case k5u42 => with_reducible assumption); (case k6u42 => with_reducible assumption); (case k7u42 => ke_room)); intro N9; (have nNew := news_drop1 N9); clear N9; (try (rename RdA _ _ _ => z9; clear z9)); (try (rename RdA _ _ _ => z9; clear z9)))
      k_steps
      k_dflt (refine' turn_end ?wzF ?wzN ?wzf ?wzw ?wz0 ?wz1 ?wze1 ?wze2 ?wze3 ?wze4 ?wzl1 ?wzl2 ?wzl3 ?wzf1 ?wzg1 ?wzf2 ?wzg2 ?wzf3 ?wzg3 ?wzn ?wzo ?wzO ?wzs ?wzu1 ?wzu2 ?wzu3)
      case wzF => k_asm
      case wzN => k_asm
      case wzf => with_unfolding_all rfl
      case wzw => with_unfolding_all rfl
      case wzO => with_reducible assumption
      case wzn =>
        refine' List.forall_mem_cons.mpr ⟨?wm1, List.forall_mem_cons.mpr ⟨?wm2, List.forall_mem_cons.mpr ⟨?wm3, List.forall_mem_cons.mpr ⟨?wm4, List.forall_mem_cons.mpr ⟨?wm5, List.forall_mem_cons.mpr ⟨?wm6, List.forall_mem_cons.mpr ⟨?wm7, List.forall_mem_cons.mpr ⟨?wm8, List.forall_mem_cons.mpr ⟨?wm9, List.forall_mem_cons.mpr ⟨?wmA, List.forall_mem_cons.mpr ⟨?wmB, List.forall_mem_cons.mpr ⟨?wmC, List.forall_mem_cons.mpr ⟨?wmD, List.forall_mem_nil _⟩⟩⟩⟩⟩⟩⟩⟩⟩⟩⟩⟩⟩
        all_goals (repeat (first | exact List.Mem.head _ | refine' List.Mem.tail _ ?_))
      case wzo => exact fun p hp => by (repeat' apply List.Mem.tail); exact hp
      case wzs => first | exact fun b hb => hb | exact fun b hb => List.mem_append_left [_, _, _] hb
      case wz0 => omega
      case wz1 => omega
      case wze1 => with_reducible assumption
      case wze2 => with_reducible assumption
      case wze3 => with_reducible assumption
      case wze4 => with_reducible assumption
      case wzf1 => with_reducible assumption
      case wzg1 => assumption
      case wzf2 => with_reducible assumption
      case wzg2 => assumption
      case wzf3 => with_reducible assumption
      case wzg3 => assumption
      case wzu1 => first | ((refine' ltAll_ne ?wzx1 ?wzx2); (case wzx1 => with_reducible assumption); (case wzx2 => intro p hp; (repeat' apply List.Mem.tail); exact hp)) | exact OwnOff.ne (by with_reducible assumption) (by repeat (first | exact List.Mem.head _ | refine' List.Mem.tail _ ?_))
      case wzu2 => first | (refine' ltAll_ne ?wzx1 ?wzx2; (case wzx1 => with_reducible assumption); (case wzx2 => intro p hp; (repeat' apply List.Mem.tail); exact hp)) | exact OwnOff.ne (by with_reducible assumption) (by repeat (first | exact List.Mem.head _ | refine' List.Mem.tail _ ?_))
      case wzu3 => first | (refine' ltAll_ne ?wzx1 ?wzx2; (case wzx1 => with_reducible assumption); (case wzx2 => intro p hp; (repeat' apply List.Mem.tail); exact hp)) | exact OwnOff.ne (by with_reducible assumption) (by repeat (first | exact List.Mem.head _ | refine' List.Mem.tail _ ?_))
      all_goals first
        | with_reducible assumption
        | omega
        | exact OwnLt.out (by with_reducible assumption)
        | exact OwnOff.ne (by with_reducible assumption) (by repeat (first | exact List.Mem.head _ | refine' List.Mem.tail _ ?_))
)
end

end Mine
end

theorem said_36 : True := by
  k_with_none
  exact True.intro
end
theorem PySem.Challenge.cw_rh0227_01_holds : PySem.Challenge.rw_rh0227_01.Holds := by
  exact Mine.law_walk
