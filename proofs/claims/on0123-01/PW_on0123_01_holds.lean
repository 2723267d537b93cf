import PyProof.Rows.All
import Wide.All
import OpenK.AllK
import Wide.FinOn
import PySem.Challenge.RW_on0123_01
open PySem PySem.W PyProof.Rows PySem.Spec PySem.Calls
set_option Elab.async false
set_option maxRecDepth 100000
set_option linter.all false
set_option compiler.extract_closed false
set_option maxHeartbeats 8000000
namespace Mine
-- H2
/-- a term and what it comes to -/
def Keep {α : Type} (a b : α) : Prop := a = b
theorem Keep.refl {α : Type} (a : α) : Keep a a := rfl
noncomputable def took {α : Type} {a : α} (x : α) (_ : Keep a x) : α := x
noncomputable def tl : List Stmt → List Stmt
  | [] => []
  | _ :: r => r
noncomputable def tl10 (l : List Stmt) : List Stmt := tl (tl (tl (tl (tl (tl (tl (tl (tl (tl l)))))))))
noncomputable def fst : List Stmt → Stmt
  | [] => .Pass default
  | s :: _ => s
noncomputable def bodyOf : Stmt → List Stmt
  | .FunctionDef _ _ b _ _ _ _ _ _ _ => b
  | _ => []
noncomputable def argsOf : Stmt → Arguments
  | .FunctionDef _ a _ _ _ _ _ _ _ _ => a
  | _ => ⟨[], [], none, [], [], none, []⟩
noncomputable def scopeOf : Stmt → Scope
  | .FunctionDef _ _ _ _ _ _ s _ _ _ => s
  | _ => PySem.Challenge.pw_on0123_01.main.scope
noncomputable def o2 : Params → Obj := fun P => { cls := Value.none, data := Data.dict #[] }
noncomputable def o3 : Params → Obj := fun P => { cls := Value.type "dict", data := Data.dict #[{ hash := PyData.keyHash P (Str.ofString "__name__"), key := Value.str (Str.ofString "__name__") 165, val := Value.str (Str.ofString "law_on0123_01") 542 }, { hash := PyData.keyHash P (Str.ofString "__doc__"), key := Value.str (Str.ofString "__doc__") 166, val := Value.none }, { hash := PyData.keyHash P (Str.ofString "__package__"), key := Value.str (Str.ofString "__package__") 167, val := Value.none }, { hash := PyData.keyHash P (Str.ofString "__loader__"), key := Value.str (Str.ofString "__loader__") 168, val := Value.builtin "__main__.__loader__#opaque" }, { hash := PyData.keyHash P (Str.ofString "__spec__"), key := Value.str (Str.ofString "__spec__") 169, val := Value.none }, { hash := PyData.keyHash P (Str.ofString "__annotations__"), key := Value.str (Str.ofString "__annotations__") 170, val := Value.ref 6 }, { hash := PyData.keyHash P (Str.ofString "__builtins__"), key := Value.str (Str.ofString "__builtins__") 171, val := Value.ref 4 }, { hash := PyData.keyHash P (Str.ofString "__file__"), key := Value.str (Str.ofString "__file__") 173, val := Value.str (Str.ofString "/claim/cut.py") 172 }, { hash := PyData.keyHash P (Str.ofString "__cached__"), key := Value.str (Str.ofString "__cached__") 174, val := Value.none }, { hash := PyData.keyHash P (Str.ofString "precedence"), key := Value.str (Str.ofString "precedence") 195, val := Value.ref 21 }, { hash := PyData.keyHash P (Str.ofString "code"), key := Value.str (Str.ofString "code") 205, val := Value.ref 28 }, { hash := PyData.keyHash P (Str.ofString "bits_text"), key := Value.str (Str.ofString "bits_text") 215, val := Value.ref 35 }, { hash := PyData.keyHash P (Str.ofString "PLAIN_BITS"), key := Value.str (Str.ofString "PLAIN_BITS") 219, val := Value.int 32 218 }, { hash := PyData.keyHash P (Str.ofString "numeral_text"), key := Value.str (Str.ofString "numeral_text") 232, val := Value.ref 42 }, { hash := PyData.keyHash P (Str.ofString "keyword_words"), key := Value.str (Str.ofString "keyword_words") 240, val := Value.ref 49 }, { hash := PyData.keyHash P (Str.ofString "is_simple_name"), key := Value.str (Str.ofString "is_simple_name") 252, val := Value.ref 56 }, { hash := PyData.keyHash P (Str.ofString "id_text"), key := Value.str (Str.ofString "id_text") 259, val := Value.ref 63 }, { hash := PyData.keyHash P (Str.ofString "string_literal"), key := Value.str (Str.ofString "string_literal") 269, val := Value.ref 70 }, { hash := PyData.keyHash P (Str.ofString "rank"), key := Value.str (Str.ofString "rank") 276, val := Value.ref 77 }, { hash := PyData.keyHash P (Str.ofString "operand_text"), key := Value.str (Str.ofString "operand_text") 284, val := Value.ref 84 }, { hash := PyData.keyHash P (Str.ofString "list_text"), key := Value.str (Str.ofString "list_text") 293, val := Value.ref 91 }, { hash := PyData.keyHash P (Str.ofString "path_text"), key := Value.str (Str.ofString "path_text") 304, val := Value.ref 98 }, { hash := PyData.keyHash P (Str.ofString "select_text"), key := Value.str (Str.ofString "select_text") 313, val := Value.ref 105 }, { hash := PyData.keyHash P (Str.ofString "expr_text"), key := Value.str (Str.ofString "expr_text") 322, val := Value.ref 112 }, { hash := PyData.keyHash P (Str.ofString "pad"), key := Value.str (Str.ofString "pad") 331, val := Value.ref 119 }, { hash := PyData.keyHash P (Str.ofString "events_text"), key := Value.str (Str.ofString "events_text") 341, val := Value.ref 126 }, { hash := PyData.keyHash P (Str.ofString "control_text"), key := Value.str (Str.ofString "control_text") 348, val := Value.ref 133 }, { hash := PyData.keyHash P (Str.ofString "pair_text"), key := Value.str (Str.ofString "pair_text") 355, val := Value.ref 140 }, { hash := PyData.keyHash P (Str.ofString "block_text"), key := Value.str (Str.ofString "block_text") 368, val := Value.ref 147 }, { hash := PyData.keyHash P (Str.ofString "if_text"), key := Value.str (Str.ofString "if_text") 379, val := Value.ref 154 }, { hash := PyData.keyHash P (Str.ofString "case_text"), key := Value.str (Str.ofString "case_text") 390, val := Value.ref 161 }, { hash := PyData.keyHash P (Str.ofString "head_text"), key := Value.str (Str.ofString "head_text") 398, val := Value.ref 168 }, { hash := PyData.keyHash P (Str.ofString "inner_statement"), key := Value.str (Str.ofString "inner_statement") 405, val := Value.ref 175 }, { hash := PyData.keyHash P (Str.ofString "simple_text"), key := Value.str (Str.ofString "simple_text") 415, val := Value.ref 182 }, { hash := PyData.keyHash P (Str.ofString "stmt_text"), key := Value.str (Str.ofString "stmt_text") 425, val := Value.ref 190 }, { hash := PyData.keyHash P (Str.ofString "type_text"), key := Value.str (Str.ofString "type_text") 434, val := Value.ref 197 }, { hash := PyData.keyHash P (Str.ofString "range_text"), key := Value.str (Str.ofString "range_text") 441, val := Value.ref 204 }, { hash := PyData.keyHash P (Str.ofString "strength_text"), key := Value.str (Str.ofString "strength_text") 450, val := Value.ref 212 }, { hash := PyData.keyHash P (Str.ofString "delays_text"), key := Value.str (Str.ofString "delays_text") 457, val := Value.ref 219 }, { hash := PyData.keyHash P (Str.ofString "declarator_text"), key := Value.str (Str.ofString "declarator_text") 468, val := Value.ref 226 }, { hash := PyData.keyHash P (Str.ofString "param_text"), key := Value.str (Str.ofString "param_text") 475, val := Value.ref 233 }, { hash := PyData.keyHash P (Str.ofString "declaration_text"), key := Value.str (Str.ofString "declaration_text") 481, val := Value.ref 238 }, { hash := PyData.keyHash P (Str.ofString "named_text"), key := Value.str (Str.ofString "named_text") 490, val := Value.ref 245 }, { hash := PyData.keyHash P (Str.ofString "label_text"), key := Value.str (Str.ofString "label_text") 499, val := Value.ref 252 }, { hash := PyData.keyHash P (Str.ofString "gate_text"), key := Value.str (Str.ofString "gate_text") 507, val := Value.ref 259 }, { hash := PyData.keyHash P (Str.ofString "inst_text"), key := Value.str (Str.ofString "inst_text") 513, val := Value.ref 264 }, { hash := PyData.keyHash P (Str.ofString "routine_text"), key := Value.str (Str.ofString "routine_text") 524, val := Value.ref 271 }, { hash := PyData.keyHash P (Str.ofString "generate_text"), key := Value.str (Str.ofString "generate_text") 530, val := Value.ref 276 }, { hash := PyData.keyHash P (Str.ofString "item_text"), key := Value.str (Str.ofString "item_text") 541, val := Value.ref 284 }, { hash := PyData.keyHash P (Str.ofString "_law_draw"), key := Value.str (Str.ofString "_law_draw") 554, val := Value.ref 291 }, { hash := PyData.keyHash P (Str.ofString "_law_letter"), key := Value.str (Str.ofString "_law_letter") 561, val := Value.ref 298 }, { hash := PyData.keyHash P (Str.ofString "_law_made"), key := Value.str (Str.ofString "_law_made") 567, val := Value.ref 303 }, { hash := PyData.keyHash P (Str.ofString "_law_if"), key := Value.str (Str.ofString "_law_if") 576, val := Value.ref 310 }, { hash := PyData.keyHash P (Str.ofString "_law_bracketed"), key := Value.str (Str.ofString "_law_bracketed") 584, val := Value.ref 317 }, { hash := PyData.keyHash P (Str.ofString "_law_read"), key := Value.str (Str.ofString "_law_read") 598, val := Value.ref 324 }, { hash := PyData.keyHash P (Str.ofString "_law_right"), key := Value.str (Str.ofString "_law_right") 612, val := Value.ref 331 }, { hash := PyData.keyHash P (Str.ofString "law"), key := Value.str (Str.ofString "law") 621, val := Value.ref 338 }] 57 }
noncomputable def o48 : Params → Obj := fun P => { cls := Value.type "code", data := Data.fields #[Value.str (Str.ofString "keyword_words") 235, Value.str (Str.ofString "keyword_words") 236, Value.str (Str.ofString "/claim/cut.py") 237, Value.int 48 0, Value.int 0 0, Value.int 0 0, Value.int 0 0, Value.int 3 0, Value.ref 43, Value.bool true, Value.int 181 0, Value.ref 44, Value.none, Value.ref 45, Value.ref 46, Value.ref 47, Value.int 238 0, Value.int 48 0, Value.str (Str.ofString "/claim/cut.py") 239] }
noncomputable def o49 : Params → Obj := @took _ (fun P => { cls := Value.type "function", data := Data.func { name := Str.ofString "keyword_words", qualname := Str.ofString "keyword_words", params := argsOf (fst (tl (tl (tl (tl (tl (tl (tl (tl (tl PySem.Challenge.pw_on0123_01.main.body)))))))))), body := .stmts (bodyOf (fst (tl (tl (tl (tl (tl (tl (tl (tl (tl PySem.Challenge.pw_on0123_01.main.body))))))))))), scope := scopeOf (fst (tl (tl (tl (tl (tl (tl (tl (tl (tl PySem.Challenge.pw_on0123_01.main.body)))))))))), globals := 3, closure := [], defaults := Value.none, kwdefaults := Value.none, pyModule := Value.str (Str.ofString "gateloom.tokens") 233, code := Value.ref 48 } }) _ (by dsimp only [PySem.Challenge.pw_on0123_01, tl10, tl, fst, bodyOf, argsOf, scopeOf]; exact Keep.refl _)
noncomputable def o52 : Params → Obj := fun P => { cls := Value.type "tuple", data := Data.seq #[Value.str (Str.ofString "name") 246, Value.str (Str.ofString "place") 247, Value.str (Str.ofString "char") 248, Value.str (Str.ofString "letter") 249] }
noncomputable def o55 : Params → Obj := fun P => { cls := Value.type "code", data := Data.fields #[Value.str (Str.ofString "is_simple_name") 243, Value.str (Str.ofString "is_simple_name") 244, Value.str (Str.ofString "/claim/cut.py") 245, Value.int 51 0, Value.int 1 0, Value.int 0 0, Value.int 0 0, Value.int 3 0, Value.ref 50, Value.bool true, Value.int 181 0, Value.ref 51, Value.none, Value.ref 52, Value.ref 53, Value.ref 54, Value.int 250 0, Value.int 51 0, Value.str (Str.ofString "/claim/cut.py") 251] }
noncomputable def o56 : Params → Obj := @took _ (fun P => { cls := Value.type "function", data := Data.func { name := Str.ofString "is_simple_name", qualname := Str.ofString "is_simple_name", params := argsOf (fst (tl10 (tl PySem.Challenge.pw_on0123_01.main.body))), body := .stmts (bodyOf (fst (tl10 (tl PySem.Challenge.pw_on0123_01.main.body)))), scope := scopeOf (fst (tl10 (tl PySem.Challenge.pw_on0123_01.main.body))), globals := 3, closure := [], defaults := Value.none, kwdefaults := Value.none, pyModule := Value.str (Str.ofString "gateloom.exprtext") 241, code := Value.ref 55 } }) _ (by dsimp only [PySem.Challenge.pw_on0123_01, tl10, tl, fst, bodyOf, argsOf, scopeOf]; exact Keep.refl _)
noncomputable def o59 : Params → Obj := fun P => { cls := Value.type "tuple", data := Data.seq #[Value.str (Str.ofString "name") 256] }
noncomputable def o62 : Params → Obj := fun P => { cls := Value.type "code", data := Data.fields #[Value.str (Str.ofString "id_text") 253, Value.str (Str.ofString "id_text") 254, Value.str (Str.ofString "/claim/cut.py") 255, Value.int 58 0, Value.int 1 0, Value.int 0 0, Value.int 0 0, Value.int 3 0, Value.ref 57, Value.bool true, Value.int 181 0, Value.ref 58, Value.none, Value.ref 59, Value.ref 60, Value.ref 61, Value.int 257 0, Value.int 58 0, Value.str (Str.ofString "/claim/cut.py") 258] }
noncomputable def o63 : Params → Obj := @took _ (fun P => { cls := Value.type "function", data := Data.func { name := Str.ofString "id_text", qualname := Str.ofString "id_text", params := argsOf (fst (tl10 (tl (tl PySem.Challenge.pw_on0123_01.main.body)))), body := .stmts (bodyOf (fst (tl10 (tl (tl PySem.Challenge.pw_on0123_01.main.body))))), scope := scopeOf (fst (tl10 (tl (tl PySem.Challenge.pw_on0123_01.main.body)))), globals := 3, closure := [], defaults := Value.none, kwdefaults := Value.none, pyModule := Value.str (Str.ofString "gateloom.exprtext") 241, code := Value.ref 62 } }) _ (by dsimp only [PySem.Challenge.pw_on0123_01, tl10, tl, fst, bodyOf, argsOf, scopeOf]; exact Keep.refl _)
noncomputable def o108 : Params → Obj := fun P => { cls := Value.type "tuple", data := Data.seq #[Value.str (Str.ofString "e") 317, Value.str (Str.ofString "kind") 318, Value.str (Str.ofString "strength") 319] }
noncomputable def o111 : Params → Obj := fun P => { cls := Value.type "code", data := Data.fields #[Value.str (Str.ofString "expr_text") 314, Value.str (Str.ofString "expr_text") 315, Value.str (Str.ofString "/claim/cut.py") 316, Value.int 112 0, Value.int 1 0, Value.int 0 0, Value.int 0 0, Value.int 3 0, Value.ref 106, Value.bool true, Value.int 181 0, Value.ref 107, Value.none, Value.ref 108, Value.ref 109, Value.ref 110, Value.int 320 0, Value.int 112 0, Value.str (Str.ofString "/claim/cut.py") 321] }
noncomputable def o112 : Params → Obj := @took _ (fun P => { cls := Value.type "function", data := Data.func { name := Str.ofString "expr_text", qualname := Str.ofString "expr_text", params := argsOf (fst (tl10 (tl (tl (tl (tl (tl (tl (tl (tl (tl PySem.Challenge.pw_on0123_01.main.body))))))))))), body := .stmts (bodyOf (fst (tl10 (tl (tl (tl (tl (tl (tl (tl (tl (tl PySem.Challenge.pw_on0123_01.main.body)))))))))))), scope := scopeOf (fst (tl10 (tl (tl (tl (tl (tl (tl (tl (tl (tl PySem.Challenge.pw_on0123_01.main.body))))))))))), globals := 3, closure := [], defaults := Value.none, kwdefaults := Value.none, pyModule := Value.str (Str.ofString "gateloom.exprtext") 241, code := Value.ref 111 } }) _ (by dsimp only [PySem.Challenge.pw_on0123_01, tl10, tl, fst, bodyOf, argsOf, scopeOf]; exact Keep.refl _)
noncomputable def o115 : Params → Obj := fun P => { cls := Value.type "tuple", data := Data.seq #[Value.str (Str.ofString "indent") 328] }
noncomputable def o118 : Params → Obj := fun P => { cls := Value.type "code", data := Data.fields #[Value.str (Str.ofString "pad") 325, Value.str (Str.ofString "pad") 326, Value.str (Str.ofString "/claim/cut.py") 327, Value.int 139 0, Value.int 1 0, Value.int 0 0, Value.int 0 0, Value.int 3 0, Value.ref 113, Value.bool true, Value.int 181 0, Value.ref 114, Value.none, Value.ref 115, Value.ref 116, Value.ref 117, Value.int 329 0, Value.int 139 0, Value.str (Str.ofString "/claim/cut.py") 330] }
noncomputable def o119 : Params → Obj := @took _ (fun P => { cls := Value.type "function", data := Data.func { name := Str.ofString "pad", qualname := Str.ofString "pad", params := argsOf (fst (tl10 (tl10 (tl PySem.Challenge.pw_on0123_01.main.body)))), body := .stmts (bodyOf (fst (tl10 (tl10 (tl PySem.Challenge.pw_on0123_01.main.body))))), scope := scopeOf (fst (tl10 (tl10 (tl PySem.Challenge.pw_on0123_01.main.body)))), globals := 3, closure := [], defaults := Value.none, kwdefaults := Value.none, pyModule := Value.str (Str.ofString "gateloom.unparse") 323, code := Value.ref 118 } }) _ (by dsimp only [PySem.Challenge.pw_on0123_01, tl10, tl, fst, bodyOf, argsOf, scopeOf]; exact Keep.refl _)
noncomputable def o129 : Params → Obj := fun P => { cls := Value.type "tuple", data := Data.seq #[Value.str (Str.ofString "control") 345] }
noncomputable def o132 : Params → Obj := fun P => { cls := Value.type "code", data := Data.fields #[Value.str (Str.ofString "control_text") 342, Value.str (Str.ofString "control_text") 343, Value.str (Str.ofString "/claim/cut.py") 344, Value.int 148 0, Value.int 1 0, Value.int 0 0, Value.int 0 0, Value.int 3 0, Value.ref 127, Value.bool true, Value.int 181 0, Value.ref 128, Value.none, Value.ref 129, Value.ref 130, Value.ref 131, Value.int 346 0, Value.int 148 0, Value.str (Str.ofString "/claim/cut.py") 347] }
noncomputable def o133 : Params → Obj := @took _ (fun P => { cls := Value.type "function", data := Data.func { name := Str.ofString "control_text", qualname := Str.ofString "control_text", params := argsOf (fst (tl10 (tl10 (tl (tl (tl PySem.Challenge.pw_on0123_01.main.body)))))), body := .stmts (bodyOf (fst (tl10 (tl10 (tl (tl (tl PySem.Challenge.pw_on0123_01.main.body))))))), scope := scopeOf (fst (tl10 (tl10 (tl (tl (tl PySem.Challenge.pw_on0123_01.main.body)))))), globals := 3, closure := [], defaults := Value.none, kwdefaults := Value.none, pyModule := Value.str (Str.ofString "gateloom.unparse") 323, code := Value.ref 132 } }) _ (by dsimp only [PySem.Challenge.pw_on0123_01, tl10, tl, fst, bodyOf, argsOf, scopeOf]; exact Keep.refl _)
noncomputable def o143 : Params → Obj := fun P => { cls := Value.type "tuple", data := Data.seq #[Value.str (Str.ofString "s") 359, Value.str (Str.ofString "indent") 360, Value.str (Str.ofString "opening") 361, Value.str (Str.ofString "closing") 362, Value.str (Str.ofString "rows") 363, Value.str (Str.ofString "item") 364, Value.str (Str.ofString "inner") 365] }
noncomputable def o146 : Params → Obj := fun P => { cls := Value.type "code", data := Data.fields #[Value.str (Str.ofString "block_text") 356, Value.str (Str.ofString "block_text") 357, Value.str (Str.ofString "/claim/cut.py") 358, Value.int 156 0, Value.int 2 0, Value.int 0 0, Value.int 0 0, Value.int 3 0, Value.ref 141, Value.bool true, Value.int 181 0, Value.ref 142, Value.none, Value.ref 143, Value.ref 144, Value.ref 145, Value.int 366 0, Value.int 156 0, Value.str (Str.ofString "/claim/cut.py") 367] }
noncomputable def o147 : Params → Obj := @took _ (fun P => { cls := Value.type "function", data := Data.func { name := Str.ofString "block_text", qualname := Str.ofString "block_text", params := argsOf (fst (tl10 (tl10 (tl (tl (tl (tl (tl PySem.Challenge.pw_on0123_01.main.body)))))))), body := .stmts (bodyOf (fst (tl10 (tl10 (tl (tl (tl (tl (tl PySem.Challenge.pw_on0123_01.main.body))))))))), scope := scopeOf (fst (tl10 (tl10 (tl (tl (tl (tl (tl PySem.Challenge.pw_on0123_01.main.body)))))))), globals := 3, closure := [], defaults := Value.none, kwdefaults := Value.none, pyModule := Value.str (Str.ofString "gateloom.unparse") 323, code := Value.ref 146 } }) _ (by dsimp only [PySem.Challenge.pw_on0123_01, tl10, tl, fst, bodyOf, argsOf, scopeOf]; exact Keep.refl _)
noncomputable def o150 : Params → Obj := fun P => { cls := Value.type "tuple", data := Data.seq #[Value.str (Str.ofString "s") 372, Value.str (Str.ofString "indent") 373, Value.str (Str.ofString "closed") 374, Value.str (Str.ofString "other") 375, Value.str (Str.ofString "text") 376] }
noncomputable def o153 : Params → Obj := fun P => { cls := Value.type "code", data := Data.fields #[Value.str (Str.ofString "if_text") 369, Value.str (Str.ofString "if_text") 370, Value.str (Str.ofString "/claim/cut.py") 371, Value.int 166 0, Value.int 3 0, Value.int 0 0, Value.int 0 0, Value.int 3 0, Value.ref 148, Value.bool true, Value.int 181 0, Value.ref 149, Value.none, Value.ref 150, Value.ref 151, Value.ref 152, Value.int 377 0, Value.int 166 0, Value.str (Str.ofString "/claim/cut.py") 378] }
noncomputable def o154 : Params → Obj := @took _ (fun P => { cls := Value.type "function", data := Data.func { name := Str.ofString "if_text", qualname := Str.ofString "if_text", params := argsOf (fst (tl10 (tl10 (tl (tl (tl (tl (tl (tl PySem.Challenge.pw_on0123_01.main.body))))))))), body := .stmts (bodyOf (fst (tl10 (tl10 (tl (tl (tl (tl (tl (tl PySem.Challenge.pw_on0123_01.main.body)))))))))), scope := scopeOf (fst (tl10 (tl10 (tl (tl (tl (tl (tl (tl PySem.Challenge.pw_on0123_01.main.body))))))))), globals := 3, closure := [], defaults := Value.none, kwdefaults := Value.none, pyModule := Value.str (Str.ofString "gateloom.unparse") 323, code := Value.ref 153 } }) _ (by dsimp only [PySem.Challenge.pw_on0123_01, tl10, tl, fst, bodyOf, argsOf, scopeOf]; exact Keep.refl _)
noncomputable def o164 : Params → Obj := fun P => { cls := Value.type "tuple", data := Data.seq #[Value.str (Str.ofString "s") 394, Value.str (Str.ofString "kind") 395] }
noncomputable def o167 : Params → Obj := fun P => { cls := Value.type "code", data := Data.fields #[Value.str (Str.ofString "head_text") 391, Value.str (Str.ofString "head_text") 392, Value.str (Str.ofString "/claim/cut.py") 393, Value.int 181 0, Value.int 1 0, Value.int 0 0, Value.int 0 0, Value.int 3 0, Value.ref 162, Value.bool true, Value.int 181 0, Value.ref 163, Value.none, Value.ref 164, Value.ref 165, Value.ref 166, Value.int 396 0, Value.int 181 0, Value.str (Str.ofString "/claim/cut.py") 397] }
noncomputable def o168 : Params → Obj := @took _ (fun P => { cls := Value.type "function", data := Data.func { name := Str.ofString "head_text", qualname := Str.ofString "head_text", params := argsOf (fst (tl10 (tl10 (tl (tl (tl (tl (tl (tl (tl (tl PySem.Challenge.pw_on0123_01.main.body))))))))))), body := .stmts (bodyOf (fst (tl10 (tl10 (tl (tl (tl (tl (tl (tl (tl (tl PySem.Challenge.pw_on0123_01.main.body)))))))))))), scope := scopeOf (fst (tl10 (tl10 (tl (tl (tl (tl (tl (tl (tl (tl PySem.Challenge.pw_on0123_01.main.body))))))))))), globals := 3, closure := [], defaults := Value.none, kwdefaults := Value.none, pyModule := Value.str (Str.ofString "gateloom.unparse") 323, code := Value.ref 167 } }) _ (by dsimp only [PySem.Challenge.pw_on0123_01, tl10, tl, fst, bodyOf, argsOf, scopeOf]; exact Keep.refl _)
noncomputable def o171 : Params → Obj := fun P => { cls := Value.type "tuple", data := Data.seq #[Value.str (Str.ofString "s") 402] }
noncomputable def o174 : Params → Obj := fun P => { cls := Value.type "code", data := Data.fields #[Value.str (Str.ofString "inner_statement") 399, Value.str (Str.ofString "inner_statement") 400, Value.str (Str.ofString "/claim/cut.py") 401, Value.int 192 0, Value.int 1 0, Value.int 0 0, Value.int 0 0, Value.int 3 0, Value.ref 169, Value.bool true, Value.int 181 0, Value.ref 170, Value.none, Value.ref 171, Value.ref 172, Value.ref 173, Value.int 403 0, Value.int 192 0, Value.str (Str.ofString "/claim/cut.py") 404] }
noncomputable def o175 : Params → Obj := @took _ (fun P => { cls := Value.type "function", data := Data.func { name := Str.ofString "inner_statement", qualname := Str.ofString "inner_statement", params := argsOf (fst (tl10 (tl10 (tl (tl (tl (tl (tl (tl (tl (tl (tl PySem.Challenge.pw_on0123_01.main.body)))))))))))), body := .stmts (bodyOf (fst (tl10 (tl10 (tl (tl (tl (tl (tl (tl (tl (tl (tl PySem.Challenge.pw_on0123_01.main.body))))))))))))), scope := scopeOf (fst (tl10 (tl10 (tl (tl (tl (tl (tl (tl (tl (tl (tl PySem.Challenge.pw_on0123_01.main.body)))))))))))), globals := 3, closure := [], defaults := Value.none, kwdefaults := Value.none, pyModule := Value.str (Str.ofString "gateloom.unparse") 323, code := Value.ref 174 } }) _ (by dsimp only [PySem.Challenge.pw_on0123_01, tl10, tl, fst, bodyOf, argsOf, scopeOf]; exact Keep.refl _)
noncomputable def o178 : Params → Obj := fun P => { cls := Value.type "tuple", data := Data.seq #[Value.str (Str.ofString "s") 409, Value.str (Str.ofString "kind") 410, Value.str (Str.ofString "sign") 411, Value.str (Str.ofString "name") 412] }
noncomputable def o181 : Params → Obj := fun P => { cls := Value.type "code", data := Data.fields #[Value.str (Str.ofString "simple_text") 406, Value.str (Str.ofString "simple_text") 407, Value.str (Str.ofString "/claim/cut.py") 408, Value.int 198 0, Value.int 1 0, Value.int 0 0, Value.int 0 0, Value.int 3 0, Value.ref 176, Value.bool true, Value.int 181 0, Value.ref 177, Value.none, Value.ref 178, Value.ref 179, Value.ref 180, Value.int 413 0, Value.int 198 0, Value.str (Str.ofString "/claim/cut.py") 414] }
noncomputable def o182 : Params → Obj := @took _ (fun P => { cls := Value.type "function", data := Data.func { name := Str.ofString "simple_text", qualname := Str.ofString "simple_text", params := argsOf (fst (tl10 (tl10 (tl10 PySem.Challenge.pw_on0123_01.main.body)))), body := .stmts (bodyOf (fst (tl10 (tl10 (tl10 PySem.Challenge.pw_on0123_01.main.body))))), scope := scopeOf (fst (tl10 (tl10 (tl10 PySem.Challenge.pw_on0123_01.main.body)))), globals := 3, closure := [], defaults := Value.none, kwdefaults := Value.none, pyModule := Value.str (Str.ofString "gateloom.unparse") 323, code := Value.ref 181 } }) _ (by dsimp only [PySem.Challenge.pw_on0123_01, tl10, tl, fst, bodyOf, argsOf, scopeOf]; exact Keep.refl _)
noncomputable def o183 : Params → Obj := fun P => { cls := Value.type "tuple", data := Data.seq #[Value.bool false] }
noncomputable def o186 : Params → Obj := fun P => { cls := Value.type "tuple", data := Data.seq #[Value.str (Str.ofString "s") 419, Value.str (Str.ofString "indent") 420, Value.str (Str.ofString "closed") 421, Value.str (Str.ofString "kind") 422] }
noncomputable def o189 : Params → Obj := fun P => { cls := Value.type "code", data := Data.fields #[Value.str (Str.ofString "stmt_text") 416, Value.str (Str.ofString "stmt_text") 417, Value.str (Str.ofString "/claim/cut.py") 418, Value.int 211 0, Value.int 3 0, Value.int 0 0, Value.int 0 0, Value.int 3 0, Value.ref 184, Value.bool true, Value.int 181 0, Value.ref 185, Value.none, Value.ref 186, Value.ref 187, Value.ref 188, Value.int 423 0, Value.int 211 0, Value.str (Str.ofString "/claim/cut.py") 424] }
noncomputable def o190 : Params → Obj := @took _ (fun P => { cls := Value.type "function", data := Data.func { name := Str.ofString "stmt_text", qualname := Str.ofString "stmt_text", params := argsOf (fst (tl10 (tl10 (tl10 (tl PySem.Challenge.pw_on0123_01.main.body))))), body := .stmts (bodyOf (fst (tl10 (tl10 (tl10 (tl PySem.Challenge.pw_on0123_01.main.body)))))), scope := scopeOf (fst (tl10 (tl10 (tl10 (tl PySem.Challenge.pw_on0123_01.main.body))))), globals := 3, closure := [], defaults := Value.ref 183, kwdefaults := Value.none, pyModule := Value.str (Str.ofString "gateloom.unparse") 323, code := Value.ref 189 } }) _ (by dsimp only [PySem.Challenge.pw_on0123_01, tl10, tl, fst, bodyOf, argsOf, scopeOf]; exact Keep.refl _)
noncomputable def o287 : Params → Obj := fun P => { cls := Value.type "tuple", data := Data.seq #[Value.str (Str.ofString "jar") 547, Value.str (Str.ofString "count") 548, Value.str (Str.ofString "cell") 549, Value.str (Str.ofString "low") 550, Value.str (Str.ofString "got") 551] }
noncomputable def o290 : Params → Obj := fun P => { cls := Value.type "code", data := Data.fields #[Value.str (Str.ofString "_law_draw") 544, Value.str (Str.ofString "_law_draw") 545, Value.str (Str.ofString "/claim/cut.py") 546, Value.int 327 0, Value.int 2 0, Value.int 0 0, Value.int 0 0, Value.int 3 0, Value.ref 285, Value.bool true, Value.int 181 0, Value.ref 286, Value.none, Value.ref 287, Value.ref 288, Value.ref 289, Value.int 552 0, Value.int 327 0, Value.str (Str.ofString "/claim/cut.py") 553] }
noncomputable def o291 : Params → Obj := @took _ (fun P => { cls := Value.type "function", data := Data.func { name := Str.ofString "_law_draw", qualname := Str.ofString "_law_draw", params := argsOf (fst (tl10 (tl10 (tl10 (tl10 (tl (tl (tl (tl (tl (tl (tl PySem.Challenge.pw_on0123_01.main.body)))))))))))), body := .stmts (bodyOf (fst (tl10 (tl10 (tl10 (tl10 (tl (tl (tl (tl (tl (tl (tl PySem.Challenge.pw_on0123_01.main.body))))))))))))), scope := scopeOf (fst (tl10 (tl10 (tl10 (tl10 (tl (tl (tl (tl (tl (tl (tl PySem.Challenge.pw_on0123_01.main.body)))))))))))), globals := 3, closure := [], defaults := Value.none, kwdefaults := Value.none, pyModule := Value.str (Str.ofString "law_on0123_01") 542, code := Value.ref 290 } }) _ (by dsimp only [PySem.Challenge.pw_on0123_01, tl10, tl, fst, bodyOf, argsOf, scopeOf]; exact Keep.refl _)
noncomputable def o294 : Params → Obj := fun P => { cls := Value.type "tuple", data := Data.seq #[Value.str (Str.ofString "jar") 558] }
noncomputable def o297 : Params → Obj := fun P => { cls := Value.type "code", data := Data.fields #[Value.str (Str.ofString "_law_letter") 555, Value.str (Str.ofString "_law_letter") 556, Value.str (Str.ofString "/claim/cut.py") 557, Value.int 341 0, Value.int 1 0, Value.int 0 0, Value.int 0 0, Value.int 3 0, Value.ref 292, Value.bool true, Value.int 181 0, Value.ref 293, Value.none, Value.ref 294, Value.ref 295, Value.ref 296, Value.int 559 0, Value.int 341 0, Value.str (Str.ofString "/claim/cut.py") 560] }
noncomputable def o298 : Params → Obj := @took _ (fun P => { cls := Value.type "function", data := Data.func { name := Str.ofString "_law_letter", qualname := Str.ofString "_law_letter", params := argsOf (fst (tl10 (tl10 (tl10 (tl10 (tl (tl (tl (tl (tl (tl (tl (tl PySem.Challenge.pw_on0123_01.main.body))))))))))))), body := .stmts (bodyOf (fst (tl10 (tl10 (tl10 (tl10 (tl (tl (tl (tl (tl (tl (tl (tl PySem.Challenge.pw_on0123_01.main.body)))))))))))))), scope := scopeOf (fst (tl10 (tl10 (tl10 (tl10 (tl (tl (tl (tl (tl (tl (tl (tl PySem.Challenge.pw_on0123_01.main.body))))))))))))), globals := 3, closure := [], defaults := Value.none, kwdefaults := Value.none, pyModule := Value.str (Str.ofString "law_on0123_01") 542, code := Value.ref 297 } }) _ (by dsimp only [PySem.Challenge.pw_on0123_01, tl10, tl, fst, bodyOf, argsOf, scopeOf]; exact Keep.refl _)
noncomputable def o302 : Params → Obj := fun P => { cls := Value.type "code", data := Data.fields #[Value.str (Str.ofString "_law_made") 562, Value.str (Str.ofString "_law_made") 563, Value.str (Str.ofString "/claim/cut.py") 564, Value.int 343 0, Value.int 2 0, Value.int 0 0, Value.int 0 0, Value.int 3 0, Value.ref 299, Value.bool true, Value.int 181 0, Value.ref 300, Value.none, Value.none, Value.none, Value.ref 301, Value.int 565 0, Value.int 343 0, Value.str (Str.ofString "/claim/cut.py") 566] }
noncomputable def o303 : Params → Obj := @took _ (fun P => { cls := Value.type "function", data := Data.func { name := Str.ofString "_law_made", qualname := Str.ofString "_law_made", params := argsOf (fst (tl10 (tl10 (tl10 (tl10 (tl (tl (tl (tl (tl (tl (tl (tl (tl PySem.Challenge.pw_on0123_01.main.body)))))))))))))), body := .stmts (bodyOf (fst (tl10 (tl10 (tl10 (tl10 (tl (tl (tl (tl (tl (tl (tl (tl (tl PySem.Challenge.pw_on0123_01.main.body))))))))))))))), scope := scopeOf (fst (tl10 (tl10 (tl10 (tl10 (tl (tl (tl (tl (tl (tl (tl (tl (tl PySem.Challenge.pw_on0123_01.main.body)))))))))))))), globals := 3, closure := [], defaults := Value.none, kwdefaults := Value.none, pyModule := Value.str (Str.ofString "law_on0123_01") 542, code := Value.ref 302 } }) _ (by dsimp only [PySem.Challenge.pw_on0123_01, tl10, tl, fst, bodyOf, argsOf, scopeOf]; exact Keep.refl _)
noncomputable def o306 : Params → Obj := fun P => { cls := Value.type "tuple", data := Data.seq #[Value.str (Str.ofString "jar") 571, Value.str (Str.ofString "deep") 572, Value.str (Str.ofString "other") 573] }
noncomputable def o309 : Params → Obj := fun P => { cls := Value.type "code", data := Data.fields #[Value.str (Str.ofString "_law_if") 568, Value.str (Str.ofString "_law_if") 569, Value.str (Str.ofString "/claim/cut.py") 570, Value.int 356 0, Value.int 2 0, Value.int 0 0, Value.int 0 0, Value.int 3 0, Value.ref 304, Value.bool true, Value.int 181 0, Value.ref 305, Value.none, Value.ref 306, Value.ref 307, Value.ref 308, Value.int 574 0, Value.int 356 0, Value.str (Str.ofString "/claim/cut.py") 575] }
noncomputable def o310 : Params → Obj := @took _ (fun P => { cls := Value.type "function", data := Data.func { name := Str.ofString "_law_if", qualname := Str.ofString "_law_if", params := argsOf (fst (tl10 (tl10 (tl10 (tl10 (tl10 PySem.Challenge.pw_on0123_01.main.body)))))), body := .stmts (bodyOf (fst (tl10 (tl10 (tl10 (tl10 (tl10 PySem.Challenge.pw_on0123_01.main.body))))))), scope := scopeOf (fst (tl10 (tl10 (tl10 (tl10 (tl10 PySem.Challenge.pw_on0123_01.main.body)))))), globals := 3, closure := [], defaults := Value.none, kwdefaults := Value.none, pyModule := Value.str (Str.ofString "law_on0123_01") 542, code := Value.ref 309 } }) _ (by dsimp only [PySem.Challenge.pw_on0123_01, tl10, tl, fst, bodyOf, argsOf, scopeOf]; exact Keep.refl _)
noncomputable def o313 : Params → Obj := fun P => { cls := Value.type "tuple", data := Data.seq #[Value.str (Str.ofString "words") 580, Value.str (Str.ofString "at") 581] }
noncomputable def o316 : Params → Obj := fun P => { cls := Value.type "code", data := Data.fields #[Value.str (Str.ofString "_law_bracketed") 577, Value.str (Str.ofString "_law_bracketed") 578, Value.str (Str.ofString "/claim/cut.py") 579, Value.int 359 0, Value.int 2 0, Value.int 0 0, Value.int 0 0, Value.int 3 0, Value.ref 311, Value.bool true, Value.int 181 0, Value.ref 312, Value.none, Value.ref 313, Value.ref 314, Value.ref 315, Value.int 582 0, Value.int 359 0, Value.str (Str.ofString "/claim/cut.py") 583] }
noncomputable def o317 : Params → Obj := @took _ (fun P => { cls := Value.type "function", data := Data.func { name := Str.ofString "_law_bracketed", qualname := Str.ofString "_law_bracketed", params := argsOf (fst (tl10 (tl10 (tl10 (tl10 (tl10 (tl PySem.Challenge.pw_on0123_01.main.body))))))), body := .stmts (bodyOf (fst (tl10 (tl10 (tl10 (tl10 (tl10 (tl PySem.Challenge.pw_on0123_01.main.body)))))))), scope := scopeOf (fst (tl10 (tl10 (tl10 (tl10 (tl10 (tl PySem.Challenge.pw_on0123_01.main.body))))))), globals := 3, closure := [], defaults := Value.none, kwdefaults := Value.none, pyModule := Value.str (Str.ofString "law_on0123_01") 542, code := Value.ref 316 } }) _ (by dsimp only [PySem.Challenge.pw_on0123_01, tl10, tl, fst, bodyOf, argsOf, scopeOf]; exact Keep.refl _)
noncomputable def o320 : Params → Obj := fun P => { cls := Value.type "tuple", data := Data.seq #[Value.str (Str.ofString "words") 588, Value.str (Str.ofString "at") 589, Value.str (Str.ofString "head") 590, Value.str (Str.ofString "test") 591, Value.str (Str.ofString "first") 592, Value.str (Str.ofString "other") 593, Value.str (Str.ofString "inner") 594, Value.str (Str.ofString "parts_in") 595] }
noncomputable def o323 : Params → Obj := fun P => { cls := Value.type "code", data := Data.fields #[Value.str (Str.ofString "_law_read") 585, Value.str (Str.ofString "_law_read") 586, Value.str (Str.ofString "/claim/cut.py") 587, Value.int 361 0, Value.int 2 0, Value.int 0 0, Value.int 0 0, Value.int 3 0, Value.ref 318, Value.bool true, Value.int 181 0, Value.ref 319, Value.none, Value.ref 320, Value.ref 321, Value.ref 322, Value.int 596 0, Value.int 361 0, Value.str (Str.ofString "/claim/cut.py") 597] }
noncomputable def o324 : Params → Obj := @took _ (fun P => { cls := Value.type "function", data := Data.func { name := Str.ofString "_law_read", qualname := Str.ofString "_law_read", params := argsOf (fst (tl10 (tl10 (tl10 (tl10 (tl10 (tl (tl PySem.Challenge.pw_on0123_01.main.body)))))))), body := .stmts (bodyOf (fst (tl10 (tl10 (tl10 (tl10 (tl10 (tl (tl PySem.Challenge.pw_on0123_01.main.body))))))))), scope := scopeOf (fst (tl10 (tl10 (tl10 (tl10 (tl10 (tl (tl PySem.Challenge.pw_on0123_01.main.body)))))))), globals := 3, closure := [], defaults := Value.none, kwdefaults := Value.none, pyModule := Value.str (Str.ofString "law_on0123_01") 542, code := Value.ref 323 } }) _ (by dsimp only [PySem.Challenge.pw_on0123_01, tl10, tl, fst, bodyOf, argsOf, scopeOf]; exact Keep.refl _)
noncomputable def o327 : Params → Obj := fun P => { cls := Value.type "tuple", data := Data.seq #[Value.str (Str.ofString "made") 602, Value.str (Str.ofString "depth") 603, Value.str (Str.ofString "rows") 604, Value.str (Str.ofString "words") 605, Value.str (Str.ofString "closed_rows") 606, Value.str (Str.ofString "due") 607, Value.str (Str.ofString "line") 608, Value.str (Str.ofString "blanks") 609] }
noncomputable def o330 : Params → Obj := fun P => { cls := Value.type "code", data := Data.fields #[Value.str (Str.ofString "_law_right") 599, Value.str (Str.ofString "_law_right") 600, Value.str (Str.ofString "/claim/cut.py") 601, Value.int 387 0, Value.int 2 0, Value.int 0 0, Value.int 0 0, Value.int 3 0, Value.ref 325, Value.bool true, Value.int 181 0, Value.ref 326, Value.none, Value.ref 327, Value.ref 328, Value.ref 329, Value.int 610 0, Value.int 387 0, Value.str (Str.ofString "/claim/cut.py") 611] }
noncomputable def o331 : Params → Obj := @took _ (fun P => { cls := Value.type "function", data := Data.func { name := Str.ofString "_law_right", qualname := Str.ofString "_law_right", params := argsOf (fst (tl10 (tl10 (tl10 (tl10 (tl10 (tl (tl (tl PySem.Challenge.pw_on0123_01.main.body))))))))), body := .stmts (bodyOf (fst (tl10 (tl10 (tl10 (tl10 (tl10 (tl (tl (tl PySem.Challenge.pw_on0123_01.main.body)))))))))), scope := scopeOf (fst (tl10 (tl10 (tl10 (tl10 (tl10 (tl (tl (tl PySem.Challenge.pw_on0123_01.main.body))))))))), globals := 3, closure := [], defaults := Value.none, kwdefaults := Value.none, pyModule := Value.str (Str.ofString "law_on0123_01") 542, code := Value.ref 330 } }) _ (by dsimp only [PySem.Challenge.pw_on0123_01, tl10, tl, fst, bodyOf, argsOf, scopeOf]; exact Keep.refl _)
noncomputable def o334 : Params → Obj := fun P => { cls := Value.type "tuple", data := Data.seq #[Value.str (Str.ofString "script") 616, Value.str (Str.ofString "jar") 617, Value.str (Str.ofString "lone_if") 618] }
noncomputable def o337 : Params → Obj := fun P => { cls := Value.type "code", data := Data.fields #[Value.str (Str.ofString "law") 613, Value.str (Str.ofString "law") 614, Value.str (Str.ofString "/claim/cut.py") 615, Value.int 402 0, Value.int 1 0, Value.int 0 0, Value.int 0 0, Value.int 3 0, Value.ref 332, Value.bool true, Value.int 181 0, Value.ref 333, Value.none, Value.ref 334, Value.ref 335, Value.ref 336, Value.int 619 0, Value.int 402 0, Value.str (Str.ofString "/claim/cut.py") 620] }
noncomputable def o338 : Params → Obj := @took _ (fun P => { cls := Value.type "function", data := Data.func { name := Str.ofString "law", qualname := Str.ofString "law", params := argsOf (fst (tl10 (tl10 (tl10 (tl10 (tl10 (tl (tl (tl (tl PySem.Challenge.pw_on0123_01.main.body)))))))))), body := .stmts (bodyOf (fst (tl10 (tl10 (tl10 (tl10 (tl10 (tl (tl (tl (tl PySem.Challenge.pw_on0123_01.main.body))))))))))), scope := scopeOf (fst (tl10 (tl10 (tl10 (tl10 (tl10 (tl (tl (tl (tl PySem.Challenge.pw_on0123_01.main.body)))))))))), globals := 3, closure := [], defaults := Value.none, kwdefaults := Value.none, pyModule := Value.str (Str.ofString "law_on0123_01") 542, code := Value.ref 337 } }) _ (by dsimp only [PySem.Challenge.pw_on0123_01, tl10, tl, fst, bodyOf, argsOf, scopeOf]; exact Keep.refl _)
/-- what the heap bears behind the top -/
noncomputable def topK : Params → Frag := fun P => ((nat_lit 2), o2 P) :: ((nat_lit 3), o3 P) :: ((nat_lit 48), o48 P) :: ((nat_lit 49), o49 P) :: ((nat_lit 52), o52 P) :: ((nat_lit 55), o55 P) :: ((nat_lit 56), o56 P) :: ((nat_lit 59), o59 P) :: ((nat_lit 62), o62 P) :: ((nat_lit 63), o63 P) :: ((nat_lit 108), o108 P) :: ((nat_lit 111), o111 P) :: ((nat_lit 112), o112 P) :: ((nat_lit 115), o115 P) :: ((nat_lit 118), o118 P) :: ((nat_lit 119), o119 P) :: ((nat_lit 129), o129 P) :: ((nat_lit 132), o132 P) :: ((nat_lit 133), o133 P) :: ((nat_lit 143), o143 P) :: ((nat_lit 146), o146 P) :: ((nat_lit 147), o147 P) :: ((nat_lit 150), o150 P) :: ((nat_lit 153), o153 P) :: ((nat_lit 154), o154 P) :: ((nat_lit 164), o164 P) :: ((nat_lit 167), o167 P) :: ((nat_lit 168), o168 P) :: ((nat_lit 171), o171 P) :: ((nat_lit 174), o174 P) :: ((nat_lit 175), o175 P) :: ((nat_lit 178), o178 P) :: ((nat_lit 181), o181 P) :: ((nat_lit 182), o182 P) :: ((nat_lit 183), o183 P) :: ((nat_lit 186), o186 P) :: ((nat_lit 189), o189 P) :: ((nat_lit 190), o190 P) :: ((nat_lit 287), o287 P) :: ((nat_lit 290), o290 P) :: ((nat_lit 291), o291 P) :: ((nat_lit 294), o294 P) :: ((nat_lit 297), o297 P) :: ((nat_lit 298), o298 P) :: ((nat_lit 302), o302 P) :: ((nat_lit 303), o303 P) :: ((nat_lit 306), o306 P) :: ((nat_lit 309), o309 P) :: ((nat_lit 310), o310 P) :: ((nat_lit 313), o313 P) :: ((nat_lit 316), o316 P) :: ((nat_lit 317), o317 P) :: ((nat_lit 320), o320 P) :: ((nat_lit 323), o323 P) :: ((nat_lit 324), o324 P) :: ((nat_lit 327), o327 P) :: ((nat_lit 330), o330 P) :: ((nat_lit 331), o331 P) :: ((nat_lit 334), o334 P) :: ((nat_lit 337), o337 P) :: ((nat_lit 338), o338 P) :: []
noncomputable def qbody : List Stmt := @took _ (fst (tl PySem.Challenge.pw_on0123_01.main.body) :: fst (tl (tl (tl PySem.Challenge.pw_on0123_01.main.body))) :: fst (tl (tl (tl (tl PySem.Challenge.pw_on0123_01.main.body)))) :: fst (tl (tl (tl (tl (tl (tl PySem.Challenge.pw_on0123_01.main.body)))))) :: fst (tl (tl (tl (tl (tl (tl (tl PySem.Challenge.pw_on0123_01.main.body))))))) :: fst (tl (tl (tl (tl (tl (tl (tl (tl (tl PySem.Challenge.pw_on0123_01.main.body))))))))) :: fst (tl10 (tl PySem.Challenge.pw_on0123_01.main.body)) :: fst (tl10 (tl (tl PySem.Challenge.pw_on0123_01.main.body))) :: fst (tl10 (tl (tl (tl PySem.Challenge.pw_on0123_01.main.body)))) :: fst (tl10 (tl (tl (tl (tl PySem.Challenge.pw_on0123_01.main.body))))) :: fst (tl10 (tl (tl (tl (tl (tl PySem.Challenge.pw_on0123_01.main.body)))))) :: fst (tl10 (tl (tl (tl (tl (tl (tl PySem.Challenge.pw_on0123_01.main.body))))))) :: fst (tl10 (tl (tl (tl (tl (tl (tl (tl PySem.Challenge.pw_on0123_01.main.body)))))))) :: fst (tl10 (tl (tl (tl (tl (tl (tl (tl (tl PySem.Challenge.pw_on0123_01.main.body))))))))) :: fst (tl10 (tl (tl (tl (tl (tl (tl (tl (tl (tl PySem.Challenge.pw_on0123_01.main.body)))))))))) :: fst (tl10 (tl10 (tl PySem.Challenge.pw_on0123_01.main.body))) :: fst (tl10 (tl10 (tl (tl PySem.Challenge.pw_on0123_01.main.body)))) :: fst (tl10 (tl10 (tl (tl (tl PySem.Challenge.pw_on0123_01.main.body))))) :: fst (tl10 (tl10 (tl (tl (tl (tl PySem.Challenge.pw_on0123_01.main.body)))))) :: fst (tl10 (tl10 (tl (tl (tl (tl (tl PySem.Challenge.pw_on0123_01.main.body))))))) :: fst (tl10 (tl10 (tl (tl (tl (tl (tl (tl PySem.Challenge.pw_on0123_01.main.body)))))))) :: fst (tl10 (tl10 (tl (tl (tl (tl (tl (tl (tl PySem.Challenge.pw_on0123_01.main.body))))))))) :: fst (tl10 (tl10 (tl (tl (tl (tl (tl (tl (tl (tl PySem.Challenge.pw_on0123_01.main.body)))))))))) :: fst (tl10 (tl10 (tl (tl (tl (tl (tl (tl (tl (tl (tl PySem.Challenge.pw_on0123_01.main.body))))))))))) :: fst (tl10 (tl10 (tl10 PySem.Challenge.pw_on0123_01.main.body))) :: fst (tl10 (tl10 (tl10 (tl (tl PySem.Challenge.pw_on0123_01.main.body))))) :: fst (tl10 (tl10 (tl10 (tl (tl (tl PySem.Challenge.pw_on0123_01.main.body)))))) :: fst (tl10 (tl10 (tl10 (tl (tl (tl (tl (tl PySem.Challenge.pw_on0123_01.main.body)))))))) :: fst (tl10 (tl10 (tl10 (tl (tl (tl (tl (tl (tl PySem.Challenge.pw_on0123_01.main.body))))))))) :: fst (tl10 (tl10 (tl10 (tl (tl (tl (tl (tl (tl (tl PySem.Challenge.pw_on0123_01.main.body)))))))))) :: fst (tl10 (tl10 (tl10 (tl (tl (tl (tl (tl (tl (tl (tl PySem.Challenge.pw_on0123_01.main.body))))))))))) :: fst (tl10 (tl10 (tl10 (tl (tl (tl (tl (tl (tl (tl (tl (tl PySem.Challenge.pw_on0123_01.main.body)))))))))))) :: fst (tl10 (tl10 (tl10 (tl10 PySem.Challenge.pw_on0123_01.main.body)))) :: fst (tl10 (tl10 (tl10 (tl10 (tl PySem.Challenge.pw_on0123_01.main.body))))) :: fst (tl10 (tl10 (tl10 (tl10 (tl (tl PySem.Challenge.pw_on0123_01.main.body)))))) :: fst (tl10 (tl10 (tl10 (tl10 (tl (tl (tl PySem.Challenge.pw_on0123_01.main.body))))))) :: fst (tl10 (tl10 (tl10 (tl10 (tl (tl (tl (tl PySem.Challenge.pw_on0123_01.main.body)))))))) :: fst (tl10 (tl10 (tl10 (tl10 (tl (tl (tl (tl (tl (tl (tl PySem.Challenge.pw_on0123_01.main.body))))))))))) :: fst (tl10 (tl10 (tl10 (tl10 (tl (tl (tl (tl (tl (tl (tl (tl PySem.Challenge.pw_on0123_01.main.body)))))))))))) :: fst (tl10 (tl10 (tl10 (tl10 (tl (tl (tl (tl (tl (tl (tl (tl (tl PySem.Challenge.pw_on0123_01.main.body))))))))))))) :: fst (tl10 (tl10 (tl10 (tl10 (tl10 PySem.Challenge.pw_on0123_01.main.body))))) :: fst (tl10 (tl10 (tl10 (tl10 (tl10 (tl PySem.Challenge.pw_on0123_01.main.body)))))) :: fst (tl10 (tl10 (tl10 (tl10 (tl10 (tl (tl PySem.Challenge.pw_on0123_01.main.body))))))) :: fst (tl10 (tl10 (tl10 (tl10 (tl10 (tl (tl (tl PySem.Challenge.pw_on0123_01.main.body)))))))) :: fst (tl10 (tl10 (tl10 (tl10 (tl10 (tl (tl (tl (tl PySem.Challenge.pw_on0123_01.main.body))))))))) :: []) _ (by dsimp only [PySem.Challenge.pw_on0123_01, tl10, tl, fst, bodyOf, argsOf, scopeOf]; exact Keep.refl _)
/-- the text's defs -/
noncomputable def topQ : Program := { PySem.Challenge.pw_on0123_01 with main := { PySem.Challenge.pw_on0123_01.main with body := qbody } }
noncomputable abbrev topAs : List Addr := (nat_lit 2) :: (nat_lit 3) :: (nat_lit 48) :: (nat_lit 49) :: (nat_lit 52) :: (nat_lit 55) :: (nat_lit 56) :: (nat_lit 59) :: (nat_lit 62) :: (nat_lit 63) :: (nat_lit 108) :: (nat_lit 111) :: (nat_lit 112) :: (nat_lit 115) :: (nat_lit 118) :: (nat_lit 119) :: (nat_lit 129) :: (nat_lit 132) :: (nat_lit 133) :: (nat_lit 143) :: (nat_lit 146) :: (nat_lit 147) :: (nat_lit 150) :: (nat_lit 153) :: (nat_lit 154) :: (nat_lit 164) :: (nat_lit 167) :: (nat_lit 168) :: (nat_lit 171) :: (nat_lit 174) :: (nat_lit 175) :: (nat_lit 178) :: (nat_lit 181) :: (nat_lit 182) :: (nat_lit 183) :: (nat_lit 186) :: (nat_lit 189) :: (nat_lit 190) :: (nat_lit 287) :: (nat_lit 290) :: (nat_lit 291) :: (nat_lit 294) :: (nat_lit 297) :: (nat_lit 298) :: (nat_lit 302) :: (nat_lit 303) :: (nat_lit 306) :: (nat_lit 309) :: (nat_lit 310) :: (nat_lit 313) :: (nat_lit 316) :: (nat_lit 317) :: (nat_lit 320) :: (nat_lit 323) :: (nat_lit 324) :: (nat_lit 327) :: (nat_lit 330) :: (nat_lit 331) :: (nat_lit 334) :: (nat_lit 337) :: (nat_lit 338) :: []
theorem K_as : ∀ P, topAs = (topK P).map (·.1) := fun _ => by kernel_rfl
noncomputable abbrev topH : Hook := kHook topK topAs K_as
noncomputable abbrev topLoose : List Str := [Str.ofString "stmt_text", Str.ofString "strength_text", Str.ofString "item_text"]
noncomputable abbrev topR : OpenRow := PySem.Challenge.rw_on0123_01.row
/-- the top runs to its end, and what stands then -/
theorem left : LeftO topR.prog topQ topLoose (fun s => xlAt topQ [] s && recOk (RowW.records topR.toRowW) s) (Hook.obs topH) (Hook.val topH) 3166 := fun w => by kernel_rfl
noncomputable abbrev P0 : Program := PySem.Challenge.rw_on0123_01.row.prog
theorem road_step (lk : Look) (s : Stmt) (r : List Stmt) : noRoadLSs lk (s :: r) = (noRoadLS lk s && noRoadLSs lk r) := rfl
theorem road_app (lk : Look) : ∀ a b : List Stmt, noRoadLSs lk a = true → noRoadLSs lk b = true → noRoadLSs lk (a ++ b) = true
  | [], b, _, h => h
  | s :: r, b, h, k => by
    have h' := Bool.and_eq_true_iff.mp ((road_step lk s r).symm.trans h)
    exact (road_step lk s (r ++ b)).trans (look_both h'.1 (road_app lk r b h'.2 k))
theorem road_cons {lk : Look} {s : Stmt} {r : List Stmt} (h : noRoadLS lk s = true) (k : noRoadLSs lk r = true) : noRoadLSs lk (s :: r) = true := (road_step lk s r).trans (look_both h k)
noncomputable abbrev lk0 : Look := { strict := false, foot := none, bare := [] }
theorem road_list (c : List Nat) : roadStr ⟨c.toArray⟩ = (c.any (fun c => c == 123 || c == 125) || (c.any (· == 46) && !c.any (fun c => decide (c ≤ 32)))) := by simp [roadStr]
theorem str_ok {lk : Look} {c : List Nat} (h1 : lk.word ⟨c.toArray⟩ = true) (h2 : (c.any (fun c => c == 123 || c == 125) || (c.any (· == 46) && !c.any (fun c => decide (c ≤ 32)))) = false) : lk.str ⟨c.toArray⟩ = true := by
  unfold Look.str
  rw [road_list, h2, h1]
  simp
/-- a def that gives back one long text -/
theorem road_kw {lk : Look} {nm bd : Str} {a : Arguments} {sc : Scope} {p p1 p2 : Pos} {k : Nat} {s : String} {l : List Char} (h : s = String.ofList l) (ha : noRoadLArgs lk a = true) (hy : lk.inDef.yields = true) (e1 : lk.inDef.word ⟨(l.map Char.toNat).toArray⟩ = true)
    (e2 : ((l.map Char.toNat).any (fun c => c == 123 || c == 125) || ((l.map Char.toNat).any (· == 46) && !(l.map Char.toNat).any (fun c => decide (c ≤ 32)))) = false) :
    noRoadLS lk (.FunctionDef nm a [.Return (some (.Constant (.str (Str.ofString s)) k p1)) p2] [] none [] sc none bd p) = true := by
  subst h
  have e' : lk.inDef.str (Str.ofString (String.ofList l)) = true := by rw [Fast.ofString_ofList]; exact str_ok e1 e2
  have f : noRoadLS lk (.FunctionDef nm a [.Return (some (.Constant (.str (Str.ofString (String.ofList l))) k p1)) p2] [] none [] sc none bd p) = (noRoadLArgs lk a && (lk.inDef.yields && lk.inDef.str (Str.ofString (String.ofList l)) && true) && true && true && true) := rfl
  rw [f, ha, hy, e']
  rfl
theorem body_cut : P0.main.body = P0.main.body.take 9 ++ (fst (tl (tl (tl (tl (tl (tl (tl (tl (tl PySem.Challenge.pw_on0123_01.main.body))))))))) :: P0.main.body.drop 10) := by kernel_rfl
theorem road1 : noRoadLSs lk0 (P0.main.body.take 9) = true := by kernel_rfl
theorem road2 : noRoadLS lk0 (fst (tl (tl (tl (tl (tl (tl (tl (tl (tl PySem.Challenge.pw_on0123_01.main.body)))))))))) = true := by
  dsimp only [PySem.Challenge.pw_on0123_01, tl, fst]
  exact road_kw rfl (by decide +kernel) rfl (by decide +kernel) (by decide +kernel)
theorem road3 : noRoadLSs lk0 (P0.main.body.drop 10) = true := by kernel_rfl
theorem road0 : noRoadLSs lk0 P0.main.body = true := (congrArg (noRoadLSs lk0) body_cut).trans (road_app _ _ _ road1 (road_cons road2 road3))
theorem bare0 : (["vars", "dir", "locals"] : List Str).filter (readsOut P0 P0.main.body) = [] := by kernel_rfl
theorem strict0 : (!(importedModules P0.main.body).all cThrough.contains) = false := by kernel_rfl
/-- the looks at the law's text -/
theorem said : PySem.Challenge.rw_on0123_01.wellSaid = true := by
  unfold OpenLaw.wellSaid OpenRow.wellSaid OpenRow.partSaid looksOpen
  repeat' (with_reducible refine look_both ?_ ?_)
  all_goals first | (rw [bare0, strict0]; exact road0) | decide +kernel

-- C0
/-- the ledger l bears o at j; k is the rest, and none of it lies at j -/
inductive Rest (j : Addr) (o : Obj) : List (Addr × Obj) → List (Addr × Obj) → Prop
  | head {r : List (Addr × Obj)} : (∀ p ∈ r, p.1 ≠ j) → Rest j o ((j, o) :: r) r
  | tail {p : Addr × Obj} {r r' : List (Addr × Obj)} : p.1 ≠ j → Rest j o r r' → Rest j o (p :: r) (p :: r')

theorem Rest.news {h₀ h : Heap} {L j : Addr} {o : Obj} {l k : List (Addr × Obj)} (R : Rest j o l k) (N : News h₀ L h l) : News h₀ L h ((j, o) :: k) := by
  induction R with
  | head _ => exact N
  | tail _ _ ih =>
    have N1 := ih fun p hp => N p (.tail _ hp)
    intro p hp
    rcases List.mem_cons.mp hp with rfl | hp
    · exact N1 _ (.head _)
    · rcases List.mem_cons.mp hp with rfl | hp
      · exact N _ (.head _)
      · exact N1 _ (.tail _ hp)
theorem Rest.off {j : Addr} {o : Obj} {l k : List (Addr × Obj)} (R : Rest j o l k) : ∀ p ∈ k, p.1 ≠ j := by
  induction R with
  | head h => exact h
  | tail h _ ih =>
    intro p hp
    rcases List.mem_cons.mp hp with rfl | hp
    · exact h
    · exact ih p hp

noncomputable abbrev tupO (its : Array Value) (n : Nat) : Obj := { cls := .type "tuple", data := .seq its n }
noncomputable abbrev jarO (x y : Int) (tx ty : Tok) (l : Addr) (n : Nat) : Obj := listOf #[.int x tx, .int y ty, .ref l] n
def AllTup (tl : List (Addr × Obj)) : Prop := ∀ q ∈ tl, q.2.cls = .type "tuple"

theorem off_list {h₀ h : Heap} {L D : Addr} {its : Array Value} {n : Nat} {l tl : List (Addr × Obj)} (N : News h₀ L h l) (hD : (D, listOf its n) ∈ l) (ht : AllTup tl) (hs : ∀ q ∈ tl, q ∈ l) : ∀ q ∈ tl, q.1 ≠ D := by
  intro q hq e
  have h1 := (N _ hD).1
  have h2 := (N _ (hs q hq)).1
  rw [e] at h2
  rw [h1] at h2
  have h3 := ht q hq
  rw [← Option.some.inj h2] at h3
  exact absurd (Value.type.inj h3) (by decide)

inductive Lt | a | b | c | d | e | f | q | x | y
noncomputable def Lt.str : Lt → Str
  | .a => Str.ofString "a" | .b => Str.ofString "b" | .c => Str.ofString "c" | .d => Str.ofString "d" | .e => Str.ofString "e" | .f => Str.ofString "f" | .q => Str.ofString "q" | .x => Str.ofString "x" | .y => Str.ofString "y"

/-- the statements that the law builds -/
inductive S
  | none
  | set (x y : Lt)
  | ite (c : Lt) (s o : S)
  | whl (c : Lt) (s : S)
  | fev (s : S)
  | blk0
  | blk1 (s : S)
  | blk2 (s r : S)

/-- v is the tuple ('id', 0, x) -/
inductive IdIn (P : Addr → Obj → Prop) : Value → Lt → Prop
  | mk {l : Addr} {t u r : Tok} {n : Nat} {x : Lt} : P l (tupO #[.str (Str.ofString "id") t, .int 0 u, .str x.str r] n) → IdIn P (.ref l) x
inductive StIn (P : Addr → Obj → Prop) : Value → S → Prop
  | none : StIn P .none .none
  | set {a : Addr} {v w : Value} {t u : Tok} {n : Nat} {x y : Lt} : P a (tupO #[.str (Str.ofString "set") t, .int 0 u, v, w, .none] n) → IdIn P v x → IdIn P w y → StIn P (.ref a) (.set x y)
  | ite {a : Addr} {v v1 v2 : Value} {t u : Tok} {n : Nat} {c : Lt} {s o : S} : P a (tupO #[.str (Str.ofString "if") t, .int 0 u, v, v1, v2] n) → IdIn P v c → StIn P v1 s → StIn P v2 o → StIn P (.ref a) (.ite c s o)
  | whl {a : Addr} {v v1 : Value} {t u : Tok} {n : Nat} {c : Lt} {s : S} : P a (tupO #[.str (Str.ofString "while") t, .int 0 u, v, v1] n) → IdIn P v c → StIn P v1 s → StIn P (.ref a) (.whl c s)
  | fev {a : Addr} {v1 : Value} {t u : Tok} {n : Nat} {s : S} : P a (tupO #[.str (Str.ofString "forever") t, .int 0 u, v1] n) → StIn P v1 s → StIn P (.ref a) (.fev s)
  | blk0 {a e b : Addr} {t u : Tok} {n n1 n2 : Nat} : P a (tupO #[.str (Str.ofString "block") t, .int 0 u, .none, .ref e, .ref b] n) → P e (tupO #[] n1) → P b (tupO #[] n2) → StIn P (.ref a) .blk0
  | blk1 {a e b : Addr} {v1 : Value} {t u : Tok} {n n1 n2 : Nat} {s : S} : P a (tupO #[.str (Str.ofString "block") t, .int 0 u, .none, .ref e, .ref b] n) → P e (tupO #[] n1) → P b (tupO #[v1] n2) → StIn P v1 s → StIn P (.ref a) (.blk1 s)
  | blk2 {a e b : Addr} {v1 v2 : Value} {t u : Tok} {n n1 n2 : Nat} {s r : S} : P a (tupO #[.str (Str.ofString "block") t, .int 0 u, .none, .ref e, .ref b] n) → P e (tupO #[] n1) → P b (tupO #[v1, v2] n2) → StIn P v1 s → StIn P v2 r → StIn P (.ref a) (.blk2 s r)

theorem IdIn.mono {P P' : Addr → Obj → Prop} (hs : ∀ a o, P a o → P' a o) {v : Value} {x : Lt} (h : IdIn P v x) : IdIn P' v x := by
  cases h with
  | mk h => exact .mk (hs _ _ h)
theorem StIn.mono {P P' : Addr → Obj → Prop} (hs : ∀ a o, P a o → P' a o) {v : Value} {s : S} (h : StIn P v s) : StIn P' v s := by
  induction h with
  | none => exact .none
  | set h h1 h2 => exact .set (hs _ _ h) (h1.mono hs) (h2.mono hs)
  | ite h h1 _ _ i1 i2 => exact .ite (hs _ _ h) (h1.mono hs) i1 i2
  | whl h h1 _ i1 => exact .whl (hs _ _ h) (h1.mono hs) i1
  | fev h _ i1 => exact .fev (hs _ _ h) i1
  | blk0 h h1 h2 => exact .blk0 (hs _ _ h) (hs _ _ h1) (hs _ _ h2)
  | blk1 h h1 h2 _ i1 => exact .blk1 (hs _ _ h) (hs _ _ h1) (hs _ _ h2) i1
  | blk2 h h1 h2 _ _ i1 i2 => exact .blk2 (hs _ _ h) (hs _ _ h1) (hs _ _ h2) i1 i2

/-- in a list of entries; in a heap -/
abbrev InL (l : List (Addr × Obj)) : Addr → Obj → Prop := fun a o => (a, o) ∈ l
abbrev InH (h : Heap) : Addr → Obj → Prop := fun a o => h.get? a = some o

-- C0b
noncomputable def S.ht : S → Nat
  | .none => 0
  | .set _ _ => 0
  | .ite _ s o => max s.ht o.ht + 1
  | .whl _ s => s.ht + 1
  | .fev s => s.ht + 1
  | .blk0 => 0
  | .blk1 s => s.ht + 1
  | .blk2 s r => max s.ht r.ht + 1
noncomputable def cost : Nat → Int
  | 0 => 3
  | d + 1 => 3 + 2 * cost d
theorem cost_pos : ∀ d, 3 ≤ cost d
  | 0 => by decide
  | d + 1 => by have := cost_pos d; unfold cost; omega

/-- in a list of entries, above B -/
abbrev InG (B : Addr) (l : List (Addr × Obj)) : Addr → Obj → Prop := fun a o => (a, o) ∈ l ∧ B < a
def Above (B : Addr) (tl : List (Addr × Obj)) : Prop := ∀ q ∈ tl, B < q.1
def Over (tl led : List (Addr × Obj)) : Prop := ∀ q ∈ tl, ∀ p ∈ led, p.1 < q.1
theorem Over.of {B : Addr} {tl led : List (Addr × Obj)} (h : Above B tl) (k : ∀ p ∈ led, p.1 < B) : Over tl led := fun q hq p hp => Nat.lt_trans (k p hp) (h q hq)

/-- the entries of l that a reading uses -/
def Used (B : Addr) (l tl : List (Addr × Obj)) : Prop := (∀ q ∈ tl, q ∈ l) ∧ AllTup tl ∧ Above B tl
theorem Used.one {B : Addr} {l : List (Addr × Obj)} {a : Addr} {its : Array Value} {n : Nat} (h : InG B l a (tupO its n)) : Used B l [(a, tupO its n)] :=
  ⟨fun q hq => by rw [List.mem_singleton.mp hq]; exact h.1, fun q hq => by rw [List.mem_singleton.mp hq], fun q hq => by rw [List.mem_singleton.mp hq]; exact h.2⟩
theorem Used.app {B : Addr} {l t t' : List (Addr × Obj)} (h : Used B l t) (k : Used B l t') : Used B l (t ++ t') :=
  ⟨fun q hq => (List.mem_append.mp hq).elim (h.1 q) (k.1 q), fun q hq => (List.mem_append.mp hq).elim (h.2.1 q) (k.2.1 q), fun q hq => (List.mem_append.mp hq).elim (h.2.2 q) (k.2.2 q)⟩
theorem inl_left {t t' : List (Addr × Obj)} : ∀ a o, InL t a o → InL (t ++ t') a o := fun _ _ h => List.mem_append.mpr (.inl h)
theorem inl_right {t t' : List (Addr × Obj)} : ∀ a o, InL t' a o → InL (t ++ t') a o := fun _ _ h => List.mem_append.mpr (.inr h)
theorem IdIn.used {B : Addr} {l : List (Addr × Obj)} {v : Value} {x : Lt} (h : IdIn (InG B l) v x) : ∃ tl, Used B l tl ∧ IdIn (InL tl) v x := by
  cases h with
  | mk h => exact ⟨_, .one h, .mk (.head _)⟩
theorem StIn.used {B : Addr} {l : List (Addr × Obj)} {v : Value} {σ : S} (h : StIn (InG B l) v σ) : ∃ tl, Used B l tl ∧ StIn (InL tl) v σ := by
  induction h with
  | none => exact ⟨[], ⟨fun _ h => (nomatch h), fun _ h => (nomatch h), fun _ h => (nomatch h)⟩, .none⟩
  | set h h1 h2 =>
    obtain ⟨t1, u1, k1⟩ := h1.used
    obtain ⟨t2, u2, k2⟩ := h2.used
    exact ⟨_, ((Used.one h).app u1).app u2, .set (inl_left _ _ (inl_left _ _ (.head _))) (k1.mono fun a o q => inl_left _ _ (inl_right _ _ q)) (k2.mono fun a o q => inl_right _ _ q)⟩
  | ite h h1 _ _ i1 i2 =>
    obtain ⟨t1, u1, k1⟩ := h1.used
    obtain ⟨t2, u2, k2⟩ := i1
    obtain ⟨t3, u3, k3⟩ := i2
    exact ⟨_, (((Used.one h).app u1).app u2).app u3, .ite (inl_left _ _ (inl_left _ _ (inl_left _ _ (.head _)))) (k1.mono fun a o q => inl_left _ _ (inl_left _ _ (inl_right _ _ q))) (k2.mono fun a o q => inl_left _ _ (inl_right _ _ q)) (k3.mono fun a o q => inl_right _ _ q)⟩
  | whl h h1 _ i1 =>
    obtain ⟨t1, u1, k1⟩ := h1.used
    obtain ⟨t2, u2, k2⟩ := i1
    exact ⟨_, ((Used.one h).app u1).app u2, .whl (inl_left _ _ (inl_left _ _ (.head _))) (k1.mono fun a o q => inl_left _ _ (inl_right _ _ q)) (k2.mono fun a o q => inl_right _ _ q)⟩
  | fev h _ i1 =>
    obtain ⟨t2, u2, k2⟩ := i1
    exact ⟨_, (Used.one h).app u2, .fev (inl_left _ _ (.head _)) (k2.mono fun a o q => inl_right _ _ q)⟩
  | blk0 h h1 h2 =>
    exact ⟨_, ((Used.one h).app (.one h1)).app (.one h2), .blk0 (inl_left _ _ (inl_left _ _ (.head _))) (inl_left _ _ (inl_right _ _ (.head _))) (inl_right _ _ (.head _))⟩
  | blk1 h h1 h2 _ i1 =>
    obtain ⟨t3, u3, k3⟩ := i1
    exact ⟨_, (((Used.one h).app (.one h1)).app (.one h2)).app u3, .blk1 (inl_left _ _ (inl_left _ _ (inl_left _ _ (.head _)))) (inl_left _ _ (inl_left _ _ (inl_right _ _ (.head _)))) (inl_left _ _ (inl_right _ _ (.head _))) (k3.mono fun a o q => inl_right _ _ q)⟩
  | blk2 h h1 h2 _ _ i1 i2 =>
    obtain ⟨t3, u3, k3⟩ := i1
    obtain ⟨t4, u4, k4⟩ := i2
    exact ⟨_, ((((Used.one h).app (.one h1)).app (.one h2)).app u3).app u4, .blk2 (inl_left _ _ (inl_left _ _ (inl_left _ _ (inl_left _ _ (.head _))))) (inl_left _ _ (inl_left _ _ (inl_left _ _ (inl_right _ _ (.head _))))) (inl_left _ _ (inl_left _ _ (inl_right _ _ (.head _)))) (k3.mono fun a o q => inl_left _ _ (inl_right _ _ q)) (k4.mono fun a o q => inl_right _ _ q)⟩

theorem StIn.lift {B : Addr} {tl l : List (Addr × Obj)} {v : Value} {σ : S} (st : StIn (InL tl) v σ) (hb : Above B tl) (hs : ∀ q ∈ tl, q ∈ l) : StIn (InG B l) v σ :=
  st.mono fun a o h => ⟨hs _ h, hb _ h⟩

theorem made_end {h₀ h : Heap} {L j B : Addr} {its : Array Value} {n : Nat} {led news : List (Addr × Obj)} {v : Value} {σ : S} (N : News h₀ L h led) (hj : (j, listOf its n) ∈ led) (hn : ∀ p ∈ news, p ∈ led) (st : StIn (InG B led) v σ) :
    ∃ tl, News h₀ L h ((j, listOf its n) :: (news ++ tl)) ∧ StIn (InL tl) v σ ∧ AllTup tl ∧ Above B tl ∧ ∀ p ∈ tl, p.1 ≠ j := by
  obtain ⟨tl, ⟨u1, u2, u3⟩, k⟩ := st.used
  refine ⟨tl, fun p hp => ?_, k, u2, u3, off_list N hj u2 u1⟩
  rcases List.mem_cons.mp hp with rfl | hp
  · exact N _ hj
  · rcases List.mem_append.mp hp with hp | hp
    · exact N p (hn p hp)
    · exact N p (u1 p hp)

theorem frame_lt {h₀ g h₁ : Heap} {L L' : Addr} {m m' : Str → Option Value} (FG : Fr h₀ L g m) (F' : Fr g L' h₁ m') : L < L' := Nat.lt_of_lt_of_le FG.ns.lt F'.above

theorem news_stays {h₀ h h' : Heap} {L : Addr} {news : List (Addr × Obj)} (N : News h₀ L h news) (hs : h.StaysIn h') : News h₀ L h' news := News.grown N hs
theorem retB {Q : Value → Shared → Prop} {b c : Bool} {σ : Shared} (h : Q (.bool c) σ) (e : b = c) : Q (.bool b) σ := e ▸ h
theorem retS {Q : Value → Shared → Prop} {x y : Str} {t : Tok} {σ : Shared} (h : Q (.str y t) σ) (e : x = y) : Q (.str x t) σ := e ▸ h
section
variable {prog : Program} {w : World} {A A₀ : Around} {M : Model} {E : Value → Shared → Prop} {s : Shared} {K : Frag} {L l : Addr} {h₀ base : Heap} {m mg mb : Str → Option Value} {news : List (Addr × Obj)} {p : Program} {loose : List Str} {mean : ExcName → Option Value} {vs zs : List Value} {items : Array Value}
theorem code_defL {env : Env} {outer : List Env} {R : Result → Shared → Prop} {name qual : Str} {params : Arguments} {body : List Stmt} {scope : Scope} {dV kV doc pm cdv ct oc : Value} {an od : Option Addr} {osl : Array (Option Value)} {f : Addr} {args : Args} {binds : List (Str × Value)}
    (B : Below A₀ base outer h₀) (F : Fr h₀ L s.heap m) (X₀ : K.In h₀) (N : News h₀ L s.heap news) (T : Top p loose mean mg mb h₀) (hA : A.frames = some (env :: outer)) (hf : env.frame = some L) (hke : env.scope.kind = .function)
    (ho : K.lookup f = some ⟨oc, od, .func (fnOf name qual params body scope dV kV doc pm an cdv ct), osl⟩) (hcd : codeIn K cdv qual = true) (hroom : A.depth < recursionLimit)
    (hbind : BindsTo s (fnOf name qual params body scope dV kV doc pm an cdv ct) args binds) (hloc : ∀ y ∈ binds, scope.names.lookup y.1 = some .local)
    (h : ∀ g L' h₁, Fr h₀ L g m → Fr g L' h₁ (fun y => binds.reverse.lookup y) → News g L' h₁ news → Below A base (env :: outer) g → K.In g → Top p loose mean mg mb g → (∀ p ∈ news, p.1 < L') → L < L' →
      wpAny (model prog w) (A.deeper (envOf qual scope L' f cdv)) (execs body (envOf qual scope L' f cdv))
        (fun fl s' => LeaveK h₀ L m g R (match fl with | .ret v => v | _ => .none) s')
        (fun e s' => wpAny (model prog w) (A.deeper (envOf qual scope L' f cdv)) (leaving (envOf qual scope L' f cdv) e) (fun _ s'' => R (.error e) s'') (fun e' s'' => R (.error e') s'') s')
        { s with heap := h₁, toks := s.toks + binds.length })
    (hco : scope.isCoroutine = false) (hgen : scope.isGenerator = false) (hk : scope.kind = .function)
    (hcell : ∀ x ∈ scope.names, x.2 ≠ .cell) : codeAny (model prog w) A (.call (.ref f) args) R s :=
  callX_plain (cl := []) B F N T.nolimit hA hf hke ((X₀.keeps F.keep) _ _ ho) rfl (codeRec_of (X₀.keeps F.keep) hcd) hroom hbind hloc (fun g L' h₁ FG F' N' B' st lt => h g L' h₁ FG F' N' B' (X₀.keeps st) (T.keeps st) lt (frame_lt FG F')) hcell hco hgen hk
theorem code_defP {env : Env} {outer : List Env} {R : Result → Shared → Prop} {name qual : Str} {params : Arguments} {body : List Stmt} {scope : Scope} {dV kV doc pm cdv ct oc : Value} {an od : Option Addr} {osl : Array (Option Value)} {f : Addr} {args : Args} {binds : List (Str × Value)}
    (B : Below A₀ base outer h₀) (F : Fr h₀ L s.heap m) (X₀ : K.In h₀) (T : Top p loose mean mg mb h₀) (hA : A.frames = some (env :: outer)) (hf : env.frame = some L) (hke : env.scope.kind = .function)
    (ho : K.lookup f = some ⟨oc, od, .func (fnOf name qual params body scope dV kV doc pm an cdv ct), osl⟩) (hcd : codeIn K cdv qual = true) (hroom : A.depth < recursionLimit)
    (hbind : BindsTo s (fnOf name qual params body scope dV kV doc pm an cdv ct) args binds) (hloc : ∀ y ∈ binds, scope.names.lookup y.1 = some .local)
    (h : ∀ g L' h₁, Fr h₀ L g m → Fr g L' h₁ (fun y => binds.reverse.lookup y) → News g L' h₁ [] → Below A base (env :: outer) g → K.In g → Top p loose mean mg mb g → s.heap.StaysIn g → L < L' →
      wpAny (model prog w) (A.deeper (envOf qual scope L' f cdv)) (execs body (envOf qual scope L' f cdv))
        (fun fl s' => LeaveK h₀ L m g R (match fl with | .ret v => v | _ => .none) s')
        (fun e s' => wpAny (model prog w) (A.deeper (envOf qual scope L' f cdv)) (leaving (envOf qual scope L' f cdv) e) (fun _ s'' => R (.error e) s'') (fun e' s'' => R (.error e') s'') s')
        { s with heap := h₁, toks := s.toks + binds.length })
    (hco : scope.isCoroutine = false) (hgen : scope.isGenerator = false) (hk : scope.kind = .function)
    (hcell : ∀ x ∈ scope.names, x.2 ≠ .cell) : codeAny (model prog w) A (.call (.ref f) args) R s :=
  code_defG (news := []) B F X₀ News.nil T hA hf hke ho hcd hroom hbind hloc (fun g L' h₁ FG F' N' B' X' T' G => h g L' h₁ FG F' N' B' X' T' (fun b o e => G b o e (fun q => (nomatch q))) (frame_lt FG F')) hco hgen hk hcell
theorem newTuple_L {Q : Value → Shared → Prop} (F : Fr h₀ L s.heap m) (N : News h₀ L s.heap news)
    (h : ∀ D h', Fr h₀ L h' m → News h₀ L h' ((D, ({ cls := .type "tuple", data := .seq vs.toArray } : Obj)) :: news) → (∀ p ∈ news, p.1 < D) → L < D → Q (.ref D) { s with heap := h' }) (hz : vs.length ≤ sizeLine) : wpAny M A (newTuple vs) Q E s :=
  newTuple_N F N (fun h' F' N' => h _ h' F' N' (fun p hp => Heap.lt_size (N p hp).1) F.ns.lt) hz
theorem tupleOf_L {Q : Value → Shared → Prop} (F : Fr h₀ L s.heap m) (N : News h₀ L s.heap news) (hl : s.heap.IsList l items) (hz : items.size ≤ 16384) (e : items.toList = zs)
    (h : ∀ D h', Fr h₀ L h' m → News h₀ L h' ((D, ({ cls := .type "tuple", data := .seq zs.toArray } : Obj)) :: news) → (∀ p ∈ news, p.1 < D) → L < D → Q (.ref D) { s with heap := h' }) : wpAny (model prog w) A (call (.type "tuple") [.ref l]) Q E s := by
  subst e
  refine call_tuple_list hl (fun h' hk => ?_) (by rw [sizeLine_eq]; omega)
  have F' : Fr h₀ L h' m := F.keeps hk
  have N' : News h₀ L h' news := fun p hp => ⟨hk _ _ (N p hp).1, (N p hp).2⟩
  exact h _ _ (F'.push _) (N'.push F' _) (fun p hp => Heap.lt_size (N' p hp).1) F'.ns.lt

theorem turn_end {I C D j : Addr} {oI oC oD J J' : Obj} {rest tl all : List (Addr × Obj)} {P : Value → List (Addr × Obj) → Prop} {y : Value} {h' : Heap} {tk : Nat}
    (F : Fr h₀ L h' m) (N : News h₀ L h' all) (off : LCg.Off3 I C D ((j, J) :: rest)) (ov : Over tl ((j, J) :: (I, oI) :: (C, oC) :: (D, oD) :: rest))
    (hj : (j, J') ∈ all) (hs : ∀ p ∈ (I, oI) :: (C, oC) :: (D, oD) :: rest, p ∈ all) (ht : ∀ p ∈ tl, p ∈ all)
    (r : P y ((j, J') :: (rest ++ tl))) : LCg.CompEnd h₀ L m s I oI C oC D oD (fun _ => True) P y { s with heap := h', toks := tk } := by
  have o := off.mem
  refine LCg.CompEnd.intro F N _ ?_ (LCg.Off3.of fun p hp => ?_) trivial r
  · intro p hp
    simp only [List.mem_cons] at hp
    rcases hp with rfl | rfl | rfl | rfl | hp
    · exact hs _ (.head _)
    · exact hs _ (.tail _ (.head _))
    · exact hs _ (.tail _ (.tail _ (.head _)))
    · exact hj
    · rcases List.mem_append.mp hp with hp | hp
      · exact hs _ (.tail _ (.tail _ (.tail _ hp)))
      · exact ht _ hp
  · rcases List.mem_cons.mp hp with rfl | hp
    · exact o (j, J) (.head _)
    · rcases List.mem_append.mp hp with hp | hp
      · exact o p (.tail _ hp)
      · have q := ov p hp
        exact ⟨Nat.ne_of_gt (q _ (.tail _ (.head _))), Nat.ne_of_gt (q _ (.tail _ (.tail _ (.head _)))), Nat.ne_of_gt (q _ (.tail _ (.tail _ (.tail _ (.head _)))))⟩
theorem range_split {r : Int} {t : Tok} {Q : Value → Shared → Prop} (h0 : 0 ≤ r) (h1 : r < 3) (k0 : wpAny M A (call (.type "range") [.int 0 t]) Q E s) (k1 : wpAny M A (call (.type "range") [.int 1 t]) Q E s) (k2 : wpAny M A (call (.type "range") [.int 2 t]) Q E s) :
    wpAny M A (call (.type "range") [.int r t]) Q E s := by
  have h : r = 0 ∨ r = 1 ∨ r = 2 := by omega
  rcases h with rfl | rfl | rfl
  · exact k0
  · exact k1
  · exact k2
end

-- C0c
noncomputable def Lt.code : Lt → Nat
  | .a => 97 | .b => 98 | .c => 99 | .d => 100 | .e => 101 | .f => 102 | .q => 113 | .x => 120 | .y => 121
theorem Lt.str_eq (z : Lt) : z.str = ⟨#[z.code]⟩ := by cases z <;> decide +kernel
/-- no letter of ours stands between two blanks -/
noncomputable def noLone : List Nat → Bool
  | x :: y :: z :: r => !(x == 32 && z == 32 && decide (97 ≤ y ∧ y ≤ 122)) && noLone (y :: z :: r)
  | _ => true
theorem noLone_take (c : Nat) (hc : 97 ≤ c ∧ c ≤ 122) : ∀ (l : List Nat) (i : Nat), noLone l = true → ((l.drop i).take 3 == [32, c, 32]) = false
  | [], i, _ => by simp
  | [x], 0, _ => by simp
  | [x], i + 1, _ => by simp
  | [x, y], 0, _ => by simp
  | [x, y], 1, _ => by simp
  | [x, y], i + 2, _ => by simp
  | x :: y :: z :: r, 0, h => by
    simp only [noLone, Bool.and_eq_true, Bool.not_eq_true', Bool.and_eq_false_iff, beq_eq_false_iff_ne, decide_eq_false_iff_not] at h
    rw [beq_eq_false_iff_ne]
    intro e
    simp at e
    obtain ⟨rfl, rfl, rfl⟩ := e
    rcases h.1 with (h | h) | h
    · exact h rfl
    · exact h rfl
    · exact h hc
  | x :: y :: z :: r, i + 1, h => by
    have h2 : noLone (y :: z :: r) = true := by
      simp only [noLone, Bool.and_eq_true] at h
      exact h.2
    have := noLone_take c hc (y :: z :: r) i h2
    simpa using this
theorem lone_end (z : Lt) (X : Str) (h : noLone (32 :: (X.cps.toList ++ [32])) = true) :
    (!(!(Builtin.Str.occurrences (Str.ofString " " ++ X ++ Str.ofString " ") (Str.ofString " " ++ z.str ++ Str.ofString " ") 0 (Str.ofString " " ++ X ++ Str.ofString " ").length 1).isEmpty)) = true := by
  have b : Str.ofString " " = ⟨#[32]⟩ := by decide +kernel
  rw [b, z.str_eq]
  have e : Builtin.Str.occurrences (⟨#[32]⟩ ++ X ++ ⟨#[32]⟩) (⟨#[32]⟩ ++ ⟨#[z.code]⟩ ++ ⟨#[32]⟩) 0 (⟨#[32]⟩ ++ X ++ ⟨#[32]⟩ : Str).length 1 = [] := by
    refine occ_nil_of_no _ _ 1 fun i _ => ?_
    rw [StrLaws.subAt_eq]
    have e1 : (⟨#[32]⟩ ++ X ++ ⟨#[32]⟩ : Str).cps.toList = 32 :: (X.cps.toList ++ [32]) := by
      show ((#[32] ++ X.cps) ++ #[32]).toList = _
      simp
    have e2 : (⟨#[32]⟩ ++ ⟨#[z.code]⟩ ++ ⟨#[32]⟩ : Str).cps.toList = [32, z.code, 32] := rfl
    rw [e1, e2]
    exact noLone_take z.code (by cases z <;> decide) _ i h
  rw [e]
  rfl
/-- noLone by one look at each number -/
noncomputable def lone : Nat → List Nat → Bool
  | _, [] => true
  | st, c :: r => if Nat.beq c 32 then (if Nat.beq st 2 then false else lone 1 r) else if Nat.beq st 1 && (Nat.ble 97 c && Nat.ble c 122) then lone 2 r else lone 0 r
theorem lone_down : ∀ (l : List Nat) (st : Nat), lone st l = true → lone 0 l = true
  | [], _, _ => rfl
  | c :: r, st, h => by
    unfold lone at h ⊢
    by_cases hc : Nat.beq c 32 = true
    · rw [if_pos hc] at h ⊢
      rw [if_neg (by decide)]
      by_cases h2 : Nat.beq st 2 = true
      · rw [if_pos h2] at h; cases h
      · rw [if_neg h2] at h; exact h
    · rw [if_neg hc] at h ⊢
      have e : (Nat.beq 0 1 && (Nat.ble 97 c && Nat.ble c 122)) = false := rfl
      rw [if_neg (by rw [e]; decide)]
      split at h
      · exact lone_down r _ h
      · exact h
theorem lone_no : ∀ l : List Nat, lone 0 l = true → noLone l = true
  | [], _ => rfl
  | [_], _ => rfl
  | [_, _], _ => rfl
  | x :: y :: z :: r, h => by
    have hr : lone 0 (y :: z :: r) = true := by
      unfold lone at h
      split at h
      · split at h
        · cases h
        · exact lone_down _ _ h
      · split at h <;> exact lone_down _ _ h
    have ih := lone_no (y :: z :: r) hr
    simp only [noLone, Bool.and_eq_true]
    refine ⟨?_, ih⟩
    rw [Bool.not_eq_true', Bool.eq_false_iff]
    intro hb
    simp only [Bool.and_eq_true, beq_iff_eq, decide_eq_true_eq] at hb
    obtain ⟨⟨rfl, rfl⟩, h1, h2⟩ := hb
    have e1 : lone 0 (32 :: y :: 32 :: r) = lone 1 (y :: 32 :: r) := rfl
    have e2 : lone 1 (y :: 32 :: r) = lone 2 (32 :: r) := by
      have hy : Nat.beq y 32 = false := by
        cases q : Nat.beq y 32 with
        | false => rfl
        | true => have := Nat.eq_of_beq_eq_true q; omega
      have hl : (Nat.beq 1 1 && (Nat.ble 97 y && Nat.ble y 122)) = true := by
        rw [Nat.ble_eq_true_of_le h1, Nat.ble_eq_true_of_le h2]; rfl
      show (if Nat.beq y 32 = true then _ else if (Nat.beq 1 1 && (Nat.ble 97 y && Nat.ble y 122)) = true then _ else _) = _
      rw [if_neg (by rw [hy]; decide), if_pos hl]
    rw [e1, e2] at h
    cases h
def KwOK (X : Str) : Prop := X.length ≤ 2000 ∧ noLone (32 :: (X.cps.toList ++ [32])) = true
theorem lit_cps {s : String} {l : List Char} (h : s = String.ofList l) : (Str.ofString s).cps.toList = l.map Char.toNat := by
  subst h
  rw [Str.ofString_eq_toList]
  simp
theorem KwOK.lit {s : String} {l : List Char} (h : s = String.ofList l) (h1 : Nat.ble l.length 2000 = true) (h2 : lone 0 (32 :: (l.map Char.toNat ++ [32])) = true) : KwOK (Str.ofString s) := by
  have e := lit_cps h
  refine ⟨?_, lone_no _ (by rw [e]; exact h2)⟩
  have : (Str.ofString s).length = l.length := by
    show (Str.ofString s).cps.size = _
    rw [← Array.length_toList, e, List.length_map]
  rw [this]
  exact Nat.le_of_ble_eq_true h1
/-- four blanks for each depth -/
noncomputable def padS (i : Int) : Str := Txt.mul (Str.ofString "    ") i
theorem pad_len {i : Int} (h0 : 0 ≤ i) (h1 : i ≤ 1000) : (padS i).length ≤ 4000 :=
  len_mul_leN (L := 4) (N := 1000) (by decide +kernel) h1

/-- a text's numbers -/
noncomputable def q (x : Str) : List Nat := x.cps.toList
noncomputable def lit (s : String) : List Nat := q (Str.ofString s)
theorem q_append (a b : Str) : q (a ++ b) = q a ++ q b := by
  show (a.cps ++ b.cps).toList = _
  simp [q]
theorem q_empty : q Str.empty = [] := rfl
theorem q_lit (s : String) : q (Str.ofString s) = lit s := rfl
theorem lit_nil : lit "" = [] := by decide +kernel
theorem str_of {x : Str} {l : List Nat} (h : q x = l) : x = ⟨l.toArray⟩ := by
  subst h
  cases x
  simp [q]
/-- the text of an assignment -/
noncomputable def SL (x y : Lt) : List Nat := q x.str ++ (lit " " ++ (lit "=" ++ (lit " " ++ (q y.str ++ lit ";"))))
noncomputable def Sx (x y : Lt) : Str := ⟨(SL x y).toArray⟩
/-- the text of a statement -/
noncomputable def TL : S → Int → Bool → List Nat
  | .none, i, _ => q (padS i) ++ lit ";\n"
  | .set x y, i, _ => q (padS i) ++ SL x y ++ lit "\n"
  | .ite z s .none, i, c => q (padS i) ++ lit "if (" ++ q z.str ++ lit ")\n" ++ TL s (i + 1) c ++ (if c then q (padS i) ++ lit "else ;\n" else [])
  | .ite z s o, i, c => q (padS i) ++ lit "if (" ++ q z.str ++ lit ")\n" ++ TL s (i + 1) true ++ (q (padS i) ++ lit "else\n" ++ TL o (i + 1) c)
  | .whl z s, i, c => q (padS i) ++ (lit "while" ++ (lit " (" ++ (q z.str ++ lit ")"))) ++ lit "\n" ++ TL s (i + 1) c
  | .fev s, i, c => q (padS i) ++ lit "forever" ++ lit "\n" ++ TL s (i + 1) c
  | .blk0, i, _ => q (padS i) ++ lit "begin" ++ lit "\n" ++ (q (padS i) ++ lit "end" ++ lit "\n")
  | .blk1 s, i, _ => q (padS i) ++ lit "begin" ++ lit "\n" ++ TL s (i + 1) false ++ (q (padS i) ++ lit "end" ++ lit "\n")
  | .blk2 s r, i, _ => q (padS i) ++ lit "begin" ++ lit "\n" ++ TL s (i + 1) false ++ TL r (i + 1) false ++ (q (padS i) ++ lit "end" ++ lit "\n")
noncomputable def Tx (σ : S) (i : Int) (c : Bool) : Str := ⟨(TL σ i c).toArray⟩
theorem q_tx (σ : S) (i : Int) (c : Bool) : q (Tx σ i c) = TL σ i c := rfl
theorem q_sx (x y : Lt) : q (Sx x y) = SL x y := rfl

noncomputable def HwS (z : Lt) : Str := ⟨(lit "while" ++ (lit " (" ++ (q z.str ++ lit ")"))).toArray⟩
theorem q_hw (z : Lt) : q (HwS z) = lit "while" ++ (lit " (" ++ (q z.str ++ lit ")")) := rfl
theorem q_len (x : Str) : (q x).length = x.length := by
  show x.cps.toList.length = x.cps.size
  simp
theorem len_of (l : List Nat) : (⟨l.toArray⟩ : Str).length = l.length := by
  show l.toArray.size = _
  simp
theorem lt_len (z : Lt) : (q z.str).length = 1 := by cases z <;> decide +kernel
theorem sl_len (x y : Lt) : (SL x y).length ≤ 10 := by
  have h1 : (lit " ").length = 1 := by decide +kernel
  have h2 : (lit "=").length = 1 := by decide +kernel
  have h3 : (lit ";").length = 1 := by decide +kernel
  unfold SL
  simp only [List.length_append, lt_len, h1, h2, h3]
  omega
theorem sx_len (x y : Lt) : (Sx x y).length ≤ 10 := by
  unfold Sx
  rw [len_of]
  exact sl_len x y
theorem pad_len' {i : Int} (h0 : 0 ≤ i) (h1 : i ≤ 12) : (q (padS i)).length ≤ 48 := by
  rw [q_len]
  exact len_mul_leN (L := 4) (N := 12) (by decide +kernel) h1
theorem tl_len : ∀ (σ : S) (i : Int) (c : Bool), 0 ≤ i → i + (S.ht σ : Int) ≤ 12 → (TL σ i c).length + 200 ≤ 400 * 2 ^ S.ht σ := by
  have l1 : (lit ";\n").length = 2 := by decide +kernel
  have l2 : (lit "\n").length = 1 := by decide +kernel
  have l3 : (lit "if (").length = 4 := by decide +kernel
  have l4 : (lit ")\n").length = 2 := by decide +kernel
  have l5 : (lit "else ;\n").length = 7 := by decide +kernel
  have l6 : (lit "else\n").length = 5 := by decide +kernel
  have l7 : (lit "while").length = 5 := by decide +kernel
  have l12 : (lit " (").length = 2 := by decide +kernel
  have l8 : (lit ")").length = 1 := by decide +kernel
  have l9 : (lit "forever").length = 7 := by decide +kernel
  have l10 : (lit "begin").length = 5 := by decide +kernel
  have l11 : (lit "end").length = 3 := by decide +kernel
  have up : ∀ a b : Nat, 2 ^ a ≤ 2 ^ max a b := fun a b => Nat.pow_le_pow_right (by decide) (Nat.le_max_left a b)
  have up' : ∀ a b : Nat, 2 ^ b ≤ 2 ^ max a b := fun a b => Nat.pow_le_pow_right (by decide) (Nat.le_max_right a b)
  have one : ∀ a : Nat, 1 ≤ 2 ^ a := fun a => Nat.one_le_two_pow
  intro σ
  induction σ with
  | none =>
    intro i c h0 h1
    have hp := pad_len' h0 (by simp only [S.ht] at h1; omega)
    simp only [TL, S.ht, List.length_append, l1]
    omega
  | set x y =>
    intro i c h0 h1
    have hp := pad_len' h0 (by simp only [S.ht] at h1; omega)
    have := sl_len x y
    simp only [TL, S.ht, List.length_append, l2]
    omega
  | ite z s o ihs iho =>
    intro i c h0 h1
    simp only [S.ht] at h1
    have hp := pad_len' h0 (by omega)
    have a := up (S.ht s) (S.ht o)
    have b := up' (S.ht s) (S.ht o)
    have k := one (max (S.ht s) (S.ht o))
    have e1 := ihs (i + 1) c (by omega) (by omega)
    have e2 := ihs (i + 1) true (by omega) (by omega)
    have e3 := iho (i + 1) c (by omega) (by omega)
    have e : 2 ^ (max (S.ht s) (S.ht o) + 1) = 2 * 2 ^ max (S.ht s) (S.ht o) := by rw [Nat.pow_succ, Nat.mul_comm]
    cases o with
    | none =>
      simp only [TL, S.ht, List.length_append, l3, l4, lt_len] at *
      rw [e]
      split
      · simp only [List.length_append, l5]
        omega
      · simp only [List.length_nil]
        omega
    | _ =>
      simp only [TL, S.ht, List.length_append, l3, l4, l6, lt_len] at *
      rw [e]
      omega
  | whl z s ihs =>
    intro i c h0 h1
    simp only [S.ht] at h1
    have hp := pad_len' h0 (by omega)
    have k := one (S.ht s)
    have e1 := ihs (i + 1) c (by omega) (by omega)
    simp only [TL, S.ht, List.length_append, l7, l12, l8, l2, lt_len, Nat.pow_succ]
    omega
  | fev s ihs =>
    intro i c h0 h1
    simp only [S.ht] at h1
    have hp := pad_len' h0 (by omega)
    have k := one (S.ht s)
    have e1 := ihs (i + 1) c (by omega) (by omega)
    simp only [TL, S.ht, List.length_append, l9, l2, Nat.pow_succ]
    omega
  | blk0 =>
    intro i c h0 h1
    have hp := pad_len' h0 (by simp only [S.ht] at h1; omega)
    simp only [TL, S.ht, List.length_append, l10, l11, l2]
    omega
  | blk1 s ihs =>
    intro i c h0 h1
    simp only [S.ht] at h1
    have hp := pad_len' h0 (by omega)
    have k := one (S.ht s)
    have e1 := ihs (i + 1) false (by omega) (by omega)
    simp only [TL, S.ht, List.length_append, l10, l11, l2, Nat.pow_succ]
    omega
  | blk2 s o ihs iho =>
    intro i c h0 h1
    simp only [S.ht] at h1
    have hp := pad_len' h0 (by omega)
    have a := up (S.ht s) (S.ht o)
    have b := up' (S.ht s) (S.ht o)
    have k := one (max (S.ht s) (S.ht o))
    have e1 := ihs (i + 1) false (by omega) (by omega)
    have e3 := iho (i + 1) false (by omega) (by omega)
    have e : 2 ^ (max (S.ht s) (S.ht o) + 1) = 2 * 2 ^ max (S.ht s) (S.ht o) := by rw [Nat.pow_succ, Nat.mul_comm]
    simp only [TL, S.ht, List.length_append, l10, l11, l2]
    rw [e]
    omega
theorem tx_len (σ : S) (i : Int) (c : Bool) {k : Nat} (h0 : 0 ≤ i) (hk : S.ht σ ≤ k) (h6 : k ≤ 6) (h1 : i + (k : Int) ≤ 12) : (Tx σ i c).length ≤ 30000 := by
  unfold Tx
  rw [len_of]
  have e := tl_len σ i c h0 (by omega)
  have : 2 ^ S.ht σ ≤ 2 ^ 6 := Nat.pow_le_pow_right (by decide) (by omega)
  omega
section
variable {prog : Program} {w : World} {A : Around} {E : Value → Shared → Prop} {s : Shared} {env : Env} {h₀ : Heap} {target : PySem.Expr} {body : List Stmt} {Q : Flow → Shared → Prop}
theorem iter_tupB {ax : Addr} {vs : List Value} {n : Nat} {m₀ : Str → Option Value} {news : List (Addr × Obj)}
    (hh : A.handled = none) (F : Fr h₀ env.locals s.heap m₀) (N : News h₀ env.locals s.heap news) (hg : h₀.get? ax = some (tupO vs.toArray n)) (hz : vs.length ≤ 24)
    (rest₀ : ∀ I : Addr, (∀ p ∈ news, p.1 < I) → ItemsRest prog w A E h₀ env target body Q s [(I, "tuple_iterator")] [] (vs.map .val) m₀ news) :
    wpAny (model prog w) A (pyIter (.ref ax)) (fun it s₂ => TurnsAt prog w A h₀ env target body Q E it s₂) E s :=
  iter_tupK (K := [(ax, tupO vs.toArray n)]) (lo := tupO vs.toArray n) hh F N (fun a o e => by
    rw [List.lookup_cons] at e
    split at e
    · rename_i q
      rw [beq_iff_eq.mp q, ← Option.some.inj e]
      exact hg
    · cases e) (by simp) rfl rfl hz rest₀
end

-- C0d
theorem q_sjoin0 : ∀ ys : List Str, q (Str.join (Str.ofString "") ys) = (ys.map q).flatten
  | [] => rfl
  | [x] => by simp [Str.join]
  | x :: y :: r => by
    have ih := q_sjoin0 (y :: r)
    show q (x ++ Str.ofString "" ++ Str.join (Str.ofString "") (y :: r)) = _
    rw [q_append, q_append, ih, q_lit, lit_nil]
    simp
theorem q_join0 (ys : List Str) : q (Txt.join (Str.ofString "") ys) = (ys.map q).flatten := by
  have e : Txt.join (Str.ofString "") ys = Str.join (Str.ofString "") ys := StrLaws.glued_eq_join _ ys
  rw [e, q_sjoin0]
theorem len_begin : (Str.ofString "begin").length = 5 := by decide +kernel
theorem len_end : (Str.ofString "end").length = 3 := by decide +kernel
theorem len_nl : (Str.ofString "\n").length = 1 := by decide +kernel
theorem tl_ite {z : Lt} {s o : S} {i : Int} {c : Bool} (h : o ≠ .none) : TL (.ite z s o) i c = q (padS i) ++ lit "if (" ++ q z.str ++ lit ")\n" ++ TL s (i + 1) true ++ (q (padS i) ++ lit "else\n" ++ TL o (i + 1) c) := by
  cases o with
  | none => exact absurd rfl h
  | _ => rfl
theorem tl_if0 {z : Lt} {s : S} {i : Int} {c : Bool} : TL (.ite z s .none) i c = q (padS i) ++ lit "if (" ++ q z.str ++ lit ")\n" ++ TL s (i + 1) c ++ (if c then q (padS i) ++ lit "else ;\n" else []) := rfl
theorem st_ref {P : Addr → Obj → Prop} {v : Value} {σ : S} (h : StIn P v σ) (k : σ ≠ .none) : ∃ a, v = .ref a := by
  cases h with
  | none => exact absurd rfl k
  | _ => exact ⟨_, rfl⟩

-- C0e
noncomputable abbrev ws (x : String) : Str := Str.ofString x
/-- (z) -/
noncomputable def par (z : Lt) : Str := ⟨#[40, z.code, 41]⟩
/-- y; -/
noncomputable def semi (y : Lt) : Str := ⟨#[y.code, 59]⟩
/-- the words of a statement -/
noncomputable def WL : S → Bool → List Str
  | .none, _ => [ws ";"]
  | .set x y, _ => [x.str, ws "=", semi y]
  | .ite z s .none, c => [ws "if", par z] ++ (WL s c ++ (if c then [ws "else", ws ";"] else []))
  | .ite z s o, c => [ws "if", par z] ++ (WL s true ++ (ws "else" :: WL o c))
  | .whl z s, c => [ws "while", par z] ++ WL s c
  | .fev s, c => ws "forever" :: WL s c
  | .blk0, _ => [ws "begin", ws "end"]
  | .blk1 s, _ => ws "begin" :: (WL s false ++ [ws "end"])
  | .blk2 s r, _ => ws "begin" :: (WL s false ++ (WL r false ++ [ws "end"]))
theorem wl_ite {z : Lt} {s o : S} {c : Bool} (h : o ≠ .none) : WL (.ite z s o) c = [ws "if", par z] ++ (WL s true ++ (ws "else" :: WL o c)) := by
  cases o with
  | none => exact absurd rfl h
  | _ => rfl
theorem wl_if0 {z : Lt} {s : S} {c : Bool} : WL (.ite z s .none) c = [ws "if", par z] ++ (WL s c ++ (if c then [ws "else", ws ";"] else [])) := rfl

/-- at place i of the list stands x -/
def Word (l : List Str) (i : Int) (x : Str) : Prop := 0 ≤ i ∧ i < 2 ^ 62 ∧ l[i.toNat]? = some x
theorem word_of {l pre rest : List Str} {x : Str} {i : Int} (h : l = pre ++ x :: rest) (e : i = (pre.length : Int)) (z : l.length ≤ 1000000) : Word l i x := by
  subst e
  refine ⟨by omega, ?_, ?_⟩
  · have : pre.length < l.length := by rw [h]; simp
    omega
  · rw [h]
    simp
theorem strs_get : ∀ {vs : List Value} {l : List Str}, StrsAre vs l → ∀ {k : Nat} {x : Str}, l[k]? = some x → ∃ t, vs[k]? = some (.str x t)
  | _, _, .nil, k, x, h => by simp at h
  | _, _, .cons y t r, 0, x, h => by
    simp at h
    exact ⟨t, by simp [h]⟩
  | _, _, .cons y t r, k + 1, x, h => by
    obtain ⟨t', e⟩ := strs_get r (k := k) (by simpa using h)
    exact ⟨t', by simpa using e⟩
theorem strs_len : ∀ {vs : List Value} {l : List Str}, StrsAre vs l → vs.length = l.length
  | _, _, .nil => rfl
  | _, _, .cons _ _ r => by simp [strs_len r]
section
variable {prog : Program} {w : World} {A : Around} {E : Value → Shared → Prop} {s : Shared} {h₀ : Heap} {L W : Addr} {m : Str → Option Value}
theorem item_word {value slice : PySem.Expr} {vs : List Value} {l : List Str} {k : Int} {u : Tok} {x : Str} {Q : Value → Shared → Prop}
    (F : Fr h₀ L s.heap m) (hl : h₀.IsList W vs.toArray) (hs : StrsAre vs l) (hw : Word l k x) (h : ∀ t, Q (.str x t) s)
    (hq : subscripted slice false (.ref W) (.int k u) = operate [.ref W, .int k u] (getItem (.ref W) (.int k u)) := by with_unfolding_all rfl) :
    wpAny (model prog w) A (subscriptTail value slice (.ref W) (.int k u)) Q E s := by
  obtain ⟨h0, h1, h2⟩ := hw
  obtain ⟨t, e⟩ := strs_get hs h2
  have hL := stays_list F.keep hl
  exact tail_any hL.typeIs slot_list_getitem.lookup (wpAny_getItem_list hL h0 (by omega) (by simpa using e) (h t)) hq
theorem eq_lt {z : Lt} {y : Str} {t u : Tok} {Q : Value → Shared → Prop} (hz : ∀ z : Lt, (z.str == y) = false) (h : Q (.bool false) s) : wpAny (model prog w) A (compareOp .Eq (.str z.str t) (.str y u)) Q E s :=
  PyProof.Rows.eq_str (by rw [hz z]; exact h)
end

/-- what a reading hands back: the pair r of v and of the place a, and what it has made -/
def Got (L : Addr) (led tl : List (Addr × Obj)) (r : Addr) (v : Value) (a : Int) : Prop :=
  (∃ t n, (r, tupO #[v, .int a t] n) ∈ tl) ∧ Above L tl ∧ Over tl led
theorem over_off {tl led : List (Addr × Obj)} {D : Addr} {o : Obj} (h : Over tl led) (hD : (D, o) ∈ led) : ∀ q ∈ tl, q.1 ≠ D := fun q hq => Nat.ne_of_gt (h q hq _ hD)
theorem read_end {h₀ h : Heap} {L B r : Addr} {a : Int} {t : Tok} {n : Nat} {led led' : List (Addr × Obj)} {v : Value} {σ : S} (hL : L < B) (hB : ∀ p ∈ led, p.1 < B) (N : News h₀ L h led') (hn : ∀ p ∈ led, p ∈ led')
    (hr : InG B led' r (tupO #[v, .int a t] n)) (st : StIn (InG B led') v σ) :
    ∃ tl, News h₀ L h (led ++ tl) ∧ StIn (InL tl) v σ ∧ (r, tupO #[v, .int a t] n) ∈ tl ∧ Above L tl ∧ Over tl led := by
  obtain ⟨tl, ⟨u1, u2, u3⟩, k⟩ := st.used
  have ab : Above B ((r, tupO #[v, .int a t] n) :: tl) := fun q hq => by
    rcases List.mem_cons.mp hq with rfl | hq
    · exact hr.2
    · exact u3 q hq
  refine ⟨(r, tupO #[v, .int a t] n) :: tl, fun p hp => ?_, k.mono fun _ _ h => .tail _ h, .head _, fun q hq => Nat.lt_trans hL (ab q hq), Over.of ab hB⟩
  rcases List.mem_append.mp hp with hp | hp
  · exact N p (hn p hp)
  · rcases List.mem_cons.mp hp with rfl | hp
    · exact N _ hr.1
    · exact N p (u1 p hp)
theorem slice_par (z : Lt) : Txt.slice (par z) (some 1) (some (-1)) = z.str := by cases z <;> decide +kernel
theorem slice_semi (z : Lt) : Txt.slice (semi z) none (some (-1)) = z.str := by cases z <;> decide +kernel
/-- at place b of the list l stand the words of σ; behind them stands post, and no else that σ could take -/
def At (l : List Str) (b : Int) (σ : S) (c : Bool) (post : List Str) : Prop :=
  (∃ pre, l = pre ++ (WL σ c ++ post) ∧ b = (pre.length : Int)) ∧ (c = true ∨ post.head? ≠ some (ws "else"))
/-- the first word -/
noncomputable def hdw : S → Str
  | .none => Str.ofString ";"
  | .set x _ => x.str
  | .ite .. => Str.ofString "if"
  | .whl .. => Str.ofString "while"
  | .fev _ => Str.ofString "forever"
  | .blk0 => Str.ofString "begin"
  | .blk1 _ => Str.ofString "begin"
  | .blk2 .. => Str.ofString "begin"
theorem wl_head (σ : S) (c : Bool) : ∃ r, WL σ c = hdw σ :: r := by
  cases σ with
  | ite z s o => cases o <;> exact ⟨_, rfl⟩
  | _ => exact ⟨_, rfl⟩
theorem hdw_ne (σ : S) : (hdw σ == Str.ofString "end") = false ∧ (hdw σ == Str.ofString "else") = false := by
  cases σ with
  | set x y => cases x <;> exact ⟨by simp only [hdw, Lt.str]; decide +kernel, by simp only [hdw, Lt.str]; decide +kernel⟩
  | _ => exact ⟨by simp only [hdw]; decide +kernel, by simp only [hdw]; decide +kernel⟩
theorem hdw_head {σ : S} {c : Bool} {r : List Str} : (WL σ c ++ r).head? ≠ some (ws "else") := by
  obtain ⟨t, e⟩ := wl_head σ c
  rw [e]
  intro h
  have h' : hdw σ = ws "else" := by simpa using h
  have := (hdw_ne σ).2
  rw [h'] at this
  exact absurd this (by decide +kernel)
theorem At.word0 {l : List Str} {b : Int} {σ : S} {c : Bool} {post : List Str} (h : At l b σ c post) (z : l.length ≤ 1000000) : Word l b (hdw σ) := by
  obtain ⟨⟨pre, e, hb⟩, _⟩ := h
  obtain ⟨r, hr⟩ := wl_head σ c
  rw [hr] at e
  exact word_of (rest := r ++ post) (by simpa using e) hb z
theorem at_if0 {l : List Str} {b : Int} {z : Lt} {s : S} {c : Bool} {post : List Str} (h : At l b (.ite z s .none) c post) (hz : l.length ≤ 1000000) :
    Word l (b + 1) (par z) ∧ At l (b + 1 + 1) s c ((if c then [ws "else", ws ";"] else []) ++ post) := by
  obtain ⟨⟨pre, e, hb⟩, hp⟩ := h
  rw [wl_if0] at e
  refine ⟨word_of (pre := pre ++ [ws "if"]) (rest := (WL s c ++ (if c then [ws "else", ws ";"] else [])) ++ post) (by simp [e]) (by simp [hb]) hz, ⟨pre ++ [ws "if", par z], by simp [e], by simp [hb]; omega⟩, ?_⟩
  cases c with
  | true => exact .inl rfl
  | false => exact .inr (by simpa using hp)
theorem at_if0c {l : List Str} {b : Int} {z : Lt} {s : S} {post : List Str} (h : At l b (.ite z s .none) true post) (hz : l.length ≤ 1000000) :
    Word l (b + 1 + 1 + ((WL s true).length : Int)) (Str.ofString "else") ∧ At l (b + 1 + 1 + ((WL s true).length : Int) + 1) .none true post ∧ b + 1 + 1 + ((WL s true).length : Int) < (l.length : Int) := by
  obtain ⟨⟨pre, e, hb⟩, hp⟩ := h
  rw [wl_if0] at e
  refine ⟨word_of (pre := pre ++ [ws "if", par z] ++ WL s true) (rest := ws ";" :: post) (by simp [e]) (by simp [hb]; omega) hz, ⟨⟨pre ++ [ws "if", par z] ++ WL s true ++ [ws "else"], by simp [e, WL], by simp [hb]; omega⟩, .inl rfl⟩, ?_⟩
  rw [e, hb]
  simp
  omega
theorem at_if0o {l : List Str} {b : Int} {z : Lt} {s : S} {post : List Str} (h : At l b (.ite z s .none) false post) (hz : l.length ≤ 1000000) :
    (post = [] ∧ (l.length : Int) = b + 1 + 1 + ((WL s false).length : Int)) ∨ ∃ x, Word l (b + 1 + 1 + ((WL s false).length : Int)) x ∧ (x == Str.ofString "else") = false ∧ b + 1 + 1 + ((WL s false).length : Int) < (l.length : Int) := by
  obtain ⟨⟨pre, e, hb⟩, hp⟩ := h
  rw [wl_if0] at e
  cases post with
  | nil =>
    refine .inl ⟨rfl, ?_⟩
    rw [e, hb]
    simp
    omega
  | cons x r =>
    refine .inr ⟨x, word_of (pre := pre ++ [ws "if", par z] ++ WL s false) (rest := r) (by simp [e]) (by simp [hb]; omega) hz, ?_, by rw [e, hb]; simp; omega⟩
    rcases hp with hp | hp
    · cases hp
    · rw [beq_eq_false_iff_ne]
      intro q
      exact hp (by simp [q])
theorem at_ite {l : List Str} {b : Int} {z : Lt} {s o : S} {c : Bool} {post : List Str} (ho : o ≠ .none) (h : At l b (.ite z s o) c post) (hz : l.length ≤ 1000000) :
    Word l (b + 1) (par z) ∧ At l (b + 1 + 1) s true (ws "else" :: (WL o c ++ post)) ∧ Word l (b + 1 + 1 + ((WL s true).length : Int)) (Str.ofString "else") ∧ At l (b + 1 + 1 + ((WL s true).length : Int) + 1) o c post ∧ b + 1 + 1 + ((WL s true).length : Int) < (l.length : Int) := by
  obtain ⟨⟨pre, e, hb⟩, hp⟩ := h
  rw [wl_ite ho] at e
  refine ⟨word_of (pre := pre ++ [ws "if"]) (rest := (WL s true ++ ws "else" :: WL o c) ++ post) (by simp [e]) (by simp [hb]) hz, ⟨⟨pre ++ [ws "if", par z], by simp [e], by simp [hb]; omega⟩, .inl rfl⟩,
    word_of (pre := pre ++ [ws "if", par z] ++ WL s true) (rest := WL o c ++ post) (by simp [e]) (by simp [hb]; omega) hz, ⟨⟨pre ++ [ws "if", par z] ++ WL s true ++ [ws "else"], by simp [e], by simp [hb]; omega⟩, hp⟩, ?_⟩
  rw [e, hb]
  simp
  omega
theorem at_whl {l : List Str} {b : Int} {z : Lt} {s : S} {c : Bool} {post : List Str} (h : At l b (.whl z s) c post) (hz : l.length ≤ 1000000) :
    Word l (b + 1) (par z) ∧ At l (b + 1 + 1) s c post := by
  obtain ⟨⟨pre, e, hb⟩, hp⟩ := h
  exact ⟨word_of (pre := pre ++ [ws "while"]) (rest := WL s c ++ post) (by simp [e, WL]) (by simp [hb]) hz, ⟨pre ++ [ws "while", par z], by simp [e, WL], by simp [hb]; omega⟩, hp⟩
theorem at_fev {l : List Str} {b : Int} {s : S} {c : Bool} {post : List Str} (h : At l b (.fev s) c post) : At l (b + 1) s c post := by
  obtain ⟨⟨pre, e, hb⟩, hp⟩ := h
  exact ⟨⟨pre ++ [ws "forever"], by simp [e, WL], by simp [hb]⟩, hp⟩
theorem at_set {l : List Str} {b : Int} {x y : Lt} {c : Bool} {post : List Str} (h : At l b (.set x y) c post) (hz : l.length ≤ 1000000) : Word l (b + 2) (semi y) := by
  obtain ⟨⟨pre, e, hb⟩, hp⟩ := h
  exact word_of (pre := pre ++ [x.str, ws "="]) (rest := post) (by simp [e, WL]) (by simp [hb]) hz
theorem not_end {r : List Str} : (ws "end" :: r).head? ≠ some (ws "else") := by
  intro h
  have h' : ws "end" = ws "else" := by simpa using h
  exact absurd h' (by decide +kernel)
theorem at_blk0 {l : List Str} {b : Int} {c : Bool} {post : List Str} (h : At l b .blk0 c post) (hz : l.length ≤ 1000000) : Word l (b + 1) (Str.ofString "end") := by
  obtain ⟨⟨pre, e, hb⟩, hp⟩ := h
  exact word_of (pre := pre ++ [ws "begin"]) (rest := post) (by simp [e, WL]) (by simp [hb]) hz
theorem at_blk1 {l : List Str} {b : Int} {s : S} {c : Bool} {post : List Str} (h : At l b (.blk1 s) c post) (hz : l.length ≤ 1000000) :
    At l (b + 1) s false (ws "end" :: post) ∧ Word l (b + 1 + ((WL s false).length : Int)) (Str.ofString "end") := by
  obtain ⟨⟨pre, e, hb⟩, hp⟩ := h
  exact ⟨⟨⟨pre ++ [ws "begin"], by simp [e, WL], by simp [hb]⟩, .inr not_end⟩, word_of (pre := pre ++ [ws "begin"] ++ WL s false) (rest := post) (by simp [e, WL]) (by simp [hb]; omega) hz⟩
theorem at_blk2 {l : List Str} {b : Int} {s r : S} {c : Bool} {post : List Str} (h : At l b (.blk2 s r) c post) (hz : l.length ≤ 1000000) :
    At l (b + 1) s false (WL r false ++ ws "end" :: post) ∧ At l (b + 1 + ((WL s false).length : Int)) r false (ws "end" :: post) ∧ Word l (b + 1 + ((WL s false).length : Int) + ((WL r false).length : Int)) (Str.ofString "end") := by
  obtain ⟨⟨pre, e, hb⟩, hp⟩ := h
  exact ⟨⟨⟨pre ++ [ws "begin"], by simp [e, WL], by simp [hb]⟩, .inr hdw_head⟩, ⟨⟨pre ++ [ws "begin"] ++ WL s false, by simp [e, WL], by simp [hb]; omega⟩, .inr not_end⟩,
    word_of (pre := pre ++ [ws "begin"] ++ WL s false ++ WL r false) (rest := post) (by simp [e, WL]) (by simp [hb]; omega) hz⟩
section
variable {prog : Program} {w : World} {A : Around} {E : Value → Shared → Prop} {s : Shared}
theorem ne_end {σ : S} {t u : Tok} {Q : Value → Shared → Prop} (h : Q (.bool true) s) : wpAny (model prog w) A (compareOp .NotEq (.str (hdw σ) t) (.str (Str.ofString "end") u)) Q E s :=
  PyProof.Rows.ne_str (by
    have e : (hdw σ != Str.ofString "end") = true := by simp [bne, (hdw_ne σ).1]
    rw [e]
    exact h)
end
theorem lt_off {l : List (Addr × Obj)} {D : Addr} (h : ∀ p ∈ l, p.1 < D) : ∀ p ∈ l, p.1 ≠ D := fun p hp => Nat.ne_of_lt (h p hp)

-- C0f
section
variable {prog : Program} {w : World} {A A₀ : Around} {E : Value → Shared → Prop} {s : Shared} {K : Frag} {L l : Addr} {h₀ base : Heap} {m mg mb : Str → Option Value} {news : List (Addr × Obj)} {p : Program} {loose : List Str} {mean : ExcName → Option Value}
/-- entering a def: what does not stand in the ledger stands in the new ground -/
theorem code_defR {env : Env} {outer : List Env} {R : Result → Shared → Prop} {name qual : Str} {params : Arguments} {body : List Stmt} {scope : Scope} {dV kV doc pm cdv ct oc : Value} {an od : Option Addr} {osl : Array (Option Value)} {f : Addr} {args : Args} {binds : List (Str × Value)}
    (B : Below A₀ base outer h₀) (F : Fr h₀ L s.heap m) (X₀ : K.In h₀) (N : News h₀ L s.heap news) (T : Top p loose mean mg mb h₀) (hA : A.frames = some (env :: outer)) (hf : env.frame = some L) (hke : env.scope.kind = .function)
    (ho : K.lookup f = some ⟨oc, od, .func (fnOf name qual params body scope dV kV doc pm an cdv ct), osl⟩) (hcd : codeIn K cdv qual = true) (hroom : A.depth < recursionLimit)
    (hbind : BindsTo s (fnOf name qual params body scope dV kV doc pm an cdv ct) args binds) (hloc : ∀ y ∈ binds, scope.names.lookup y.1 = some .local)
    (h : ∀ g L' h₁, Fr h₀ L g m → Fr g L' h₁ (fun y => binds.reverse.lookup y) → News g L' h₁ news → Below A base (env :: outer) g → K.In g → Top p loose mean mg mb g → (∀ p ∈ news, p.1 < L') → L < L' →
      (∀ b o, s.heap.get? b = some o → (∀ p ∈ news, p.1 ≠ b) → g.get? b = some o) →
      wpAny (model prog w) (A.deeper (envOf qual scope L' f cdv)) (execs body (envOf qual scope L' f cdv))
        (fun fl s' => LeaveK h₀ L m g R (match fl with | .ret v => v | _ => .none) s')
        (fun e s' => wpAny (model prog w) (A.deeper (envOf qual scope L' f cdv)) (leaving (envOf qual scope L' f cdv) e) (fun _ s'' => R (.error e) s'') (fun e' s'' => R (.error e') s'') s')
        { s with heap := h₁, toks := s.toks + binds.length })
    (hco : scope.isCoroutine = false) (hgen : scope.isGenerator = false) (hk : scope.kind = .function)
    (hcell : ∀ x ∈ scope.names, x.2 ≠ .cell) : codeAny (model prog w) A (.call (.ref f) args) R s := by
  obtain ⟨FG, BG, st, lv⟩ := groundX (R := R) B F N hA hf hke
  refine codeAny_call_def (fd := fnOf name qual params body scope dV kV doc pm an cdv ct) (body := body) (binds := binds) hroom ((X₀.keeps F.keep) _ _ ho) rfl (T.nolimit.keeps F.keep) (codeRec_of (X₀.keeps F.keep) hcd) rfl hbind hcell hloc ?_ hco hgen hk
  intro h₁ ns kp
  have below : ∀ p ∈ news, p.1 < s.heap.objs.size := fun p hp => Heap.lt_size (N p hp).1
  have F' : Fr (hideAll s.heap (news.map (·.1))) s.heap.objs.size h₁ (fun y => binds.reverse.lookup y) := ⟨ns, fun b o e => kp b o (of_hideAll _ e), Nat.le_of_eq (hideAll_size _ _)⟩
  have N' : News (hideAll s.heap (news.map (·.1))) s.heap.objs.size h₁ news := fun p hp => ⟨kp _ _ (N p hp).1, Nat.ne_of_lt (below p hp), hideAll_none _ (List.mem_map_of_mem hp)⟩
  refine wpAny_mono (h _ _ h₁ FG F' N' BG (X₀.keeps st) (T.keeps st) below (frame_lt FG F') fun b o e off => hideAll_get _ e fun q => ?_) (fun fl s' hl => lv _ _ hl) fun _ _ y => y
  obtain ⟨p, hp, e⟩ := List.mem_map.mp q
  exact off p hp e
end
theorem list_off {h h' : Heap} {W : Addr} {vs : Array Value} {news : List (Addr × Obj)} (k : ∀ b o, h.get? b = some o → (∀ p ∈ news, p.1 ≠ b) → h'.get? b = some o) (x : h.IsList W vs) (hn : ∀ p ∈ news, p.1 ≠ W) : h'.IsList W vs := by
  obtain ⟨o, ho, r⟩ := x
  exact ⟨o, k _ _ ho hn, r⟩
theorem news_off {g h : Heap} {L W : Addr} {vs : Array Value} {news : List (Addr × Obj)} (N : News g L h news) (x : g.IsList W vs) : ∀ p ∈ news, p.1 ≠ W := by
  obtain ⟨o, ho, r⟩ := x
  intro p hp e
  have := (N p hp).2.2
  rw [e, ho] at this
  cases this
theorem Rest.sub {j : Addr} {o o' : Obj} {l k : List (Addr × Obj)} (R : Rest j o l k) : ∀ p ∈ (j, o') :: k, ∃ q ∈ l, q.1 = p.1 := by
  induction R with
  | head _ =>
    intro p hp
    rcases List.mem_cons.mp hp with rfl | hp
    · exact ⟨_, .head _, rfl⟩
    · exact ⟨p, .tail _ hp, rfl⟩
  | tail _ _ ih =>
    intro p hp
    rcases List.mem_cons.mp hp with rfl | hp
    · obtain ⟨q, hq, e⟩ := ih (j, o') (.head _)
      exact ⟨q, .tail _ hq, e⟩
    · rcases List.mem_cons.mp hp with rfl | hp
      · exact ⟨_, .head _, rfl⟩
      · obtain ⟨q, hq, e⟩ := ih p (.tail _ hp)
        exact ⟨q, .tail _ hq, e⟩
theorem rest_off {j l : Addr} {o : Obj} {led news : List (Addr × Obj)} (R : Rest j o led news) (h : ∀ p ∈ led, p.1 ≠ l) : ∀ p ∈ (j, o) :: news, p.1 ≠ l := by
  intro p hp
  obtain ⟨q, hq, e⟩ := R.sub p hp
  rw [← e]
  exact h q hq

-- C1
theorem fmodB (a c : Int) (h : 1 ≤ c) : 0 ≤ a.fmod c ∧ a.fmod c < c := ⟨Int.fmod_nonneg_of_pos a (by omega), Int.fmod_lt_of_pos a (by omega)⟩
theorem fdivB {a c M : Int} (h : 1 ≤ c) (ha : 0 ≤ a) (hM : a < M) : 0 ≤ a.fdiv c ∧ a.fdiv c < M := by
  rw [Int.fdiv_eq_ediv_of_nonneg a (by omega)]
  refine ⟨Int.ediv_nonneg ha (by omega), Int.lt_of_le_of_lt (Int.ediv_le_self c ha) hM⟩
theorem lowB {z y : Int} (h : 0 ≤ z.fmod 1000000007 ∧ z.fmod 1000000007 < 1000000007) (hy1 : 0 ≤ y) (hy2 : y < 2 ^ 40) :
    0 ≤ (z.fmod 1000000007 + 7919 * (y + 1) + 3) * (z.fmod 1000000007 + 7919 * (y + 1) + 3) * 69069 + (y + 1) ∧
    (z.fmod 1000000007 + 7919 * (y + 1) + 3) * (z.fmod 1000000007 + 7919 * (y + 1) + 3) * 69069 + (y + 1) < 10 ^ 60 := by
  generalize z.fmod 1000000007 = q at *
  have h1 : 0 ≤ q + 7919 * (y + 1) + 3 := by omega
  have h2 : q + 7919 * (y + 1) + 3 ≤ 2 ^ 56 := by omega
  generalize q + 7919 * (y + 1) + 3 = r at *
  have h3 : r * r ≤ 2 ^ 56 * 2 ^ 56 := Int.mul_le_mul h2 h2 h1 (by decide)
  have h4 : 0 ≤ r * r := Int.mul_nonneg h1 h1
  generalize r * r = t at *
  omega
local macro_rules | `(tactic| k_all) => `(tactic| with_reducible assumption)
local macro_rules | `(tactic| walk_at "own enter 0") => `(tactic| (refine' code_defR ?k1 ?k2 ?k3 ?k4 ?k5 ?kA ?kF ?kK ?k6 ?k7 ?k8 ?k9 ?kB ?_ ?c2 ?c3 ?c4 ?c5; (case kA => exact rfl); (case kF => exact rfl); (case kK => assumption); (case k1 => k_asm); (case k2 => k_asm); (case k3 => k_asm); (case k4 => k_asm); (case k5 => k_asm); (case k6 => k_is); (case k7 => k_is); (case k8 => ktr_room); (case k9 => exact BindsTo.of_eq rfl); (case c5 => decide); (case kB => exact locs rfl); (case c2 => exact rfl); (case c3 => exact rfl); (case c4 => exact rfl); k_whole; intro g' L' h' FG' F' N' B' X' T' l1 lL hG; (try dsimp only); (try k_fold)))
local macro_rules | `(tactic| ktr_enter) => `(tactic| walk_at "own enter 0")
theorem draw_okS {w : World} {p : Program} {loose : List Str} {mean : ExcName → Option Value} {mg mb : Str → Option Value}
  {dp un : Nat} {gd : Option (List Code)} {cn : Str} {cs : Scope} {L a : Addr} {ccd : Value} {cl : List (Str × Addr)} {outer : List Env}
  {A₀ : Around} {base h₀ : Heap} {m : Str → Option Value} {led : List (Addr × Obj)} {s : Shared} {Q E : Value → Shared → Prop}
  {j l : Addr} {vs : List Value} {ns : List Int} {x y c : Int} {tx ty tc : Tok} {n : Nat} {news : List (Addr × Obj)}
  (B : Below A₀ base outer h₀) (F : Fr h₀ L s.heap m) (X : (topK w.params).In h₀) (N : News h₀ L s.heap led) (T : Top p loose mean mg mb h₀) (hk : cs.kind = .function)
  (R : Rest j (jarO x y tx ty l n) led news)
  (hL : s.heap.IsList l vs.toArray) (hLo : ∀ p ∈ (j, jarO x y tx ty l n) :: news, p.1 ≠ l) (hI : IntsAre vs ns) (hn1 : 0 < ns.length) (hn2 : ns.length ≤ 40)
  (hx1 : 0 ≤ x) (hx2 : x < 10^60) (hy1 : 0 ≤ y) (hy2 : y < 2^40) (hc1 : 1 ≤ c) (hc2 : c ≤ 9) 
  (hdp : dp + 1 < recursionLimit) (hu : un + 8 < cLine)
  (hret : ∀ r x' y' t tx' ty' n' h' tk', 0 ≤ r → r < c → 0 ≤ x' → x' < 10^60 → y ≤ y' → y' ≤ y + 1 → Fr h₀ L h' m → 
     News h₀ L h' ((j, jarO x' y' tx' ty' l n') :: news) → (∀ p ∈ news, p.1 ≠ j) → (∀ b o, s.heap.get? b = some o → (∀ p ∈ (j, jarO x y tx ty l n) :: news, p.1 ≠ b) → h'.get? b = some o) → Q (.int r t) { s with heap := h', toks := tk' }) :
  wpAny (model PySem.Challenge.rw_on0123_01.row.prog w) (ktrTop dp un gd cn cs L a ccd cl outer) (PySem.call (.ref 291) [.ref j, .int c tc]) Q E s := by
  replace N := R.news N
  have hj := R.off
  revert X; k_fill; intro X
  refine wpAny_call ?_
  k_dflt ktr_enter
  rename_i g1 L1 h1 FG F1 N1 B1 X1 T1 l1 lL hG
  have hL' := list_off hG hL hLo
  clear hL hLo l1 lL
  k_steps
  all_goals refine hret _ _ _ _ _ _ _ _ _ ?_ ?_ ?_ ?_ ?_ ?_ (by with_reducible assumption) (by with_reducible assumption) hj (fun b o e hb => Fr.keep (by assumption) b o (hG b o e hb))
  all_goals first | omega | exact (fmodB _ _ hc1).1 | exact (fmodB _ _ hc1).2 | exact (fdivB hc1 hx1 hx2).1 | exact (fdivB hc1 hx1 hx2).2 | exact (fdivB hc1 (fmodB _ _ (by decide)).1 (fmodB _ _ (by decide)).2).1 | exact (fdivB hc1 (fmodB _ _ (by decide)).1 (fmodB _ _ (by decide)).2).2 | exact (fdivB hc1 (lowB (fmodB _ _ (by decide)) hy1 hy2).1 (lowB (fmodB _ _ (by decide)) hy1 hy2).2).1 | exact (fdivB hc1 (lowB (fmodB _ _ (by decide)) hy1 hy2).1 (lowB (fmodB _ _ (by decide)) hy1 hy2).2).2
theorem draw_ok {w : World} {p : Program} {loose : List Str} {mean : ExcName → Option Value} {mg mb : Str → Option Value}
  {dp un : Nat} {gd : Option (List Code)} {cn : Str} {cs : Scope} {L a : Addr} {ccd : Value} {cl : List (Str × Addr)} {outer : List Env}
  {A₀ : Around} {base h₀ : Heap} {m : Str → Option Value} {led : List (Addr × Obj)} {s : Shared} {Q E : Value → Shared → Prop}
  {j l : Addr} {vs : List Value} {ns : List Int} {x y c : Int} {tx ty tc : Tok} {n : Nat} {news : List (Addr × Obj)}
  (B : Below A₀ base outer h₀) (F : Fr h₀ L s.heap m) (X : (topK w.params).In h₀) (N : News h₀ L s.heap led) (T : Top p loose mean mg mb h₀) (hk : cs.kind = .function)
  (R : Rest j (jarO x y tx ty l n) led news)
  (hL : h₀.IsList l vs.toArray) (hI : IntsAre vs ns) (hn1 : 0 < ns.length) (hn2 : ns.length ≤ 40)
  (hx1 : 0 ≤ x) (hx2 : x < 10^60) (hy1 : 0 ≤ y) (hy2 : y < 2^40) (hc1 : 1 ≤ c) (hc2 : c ≤ 9) 
  (hdp : dp + 1 < recursionLimit) (hu : un + 8 < cLine)
  (hret : ∀ r x' y' t tx' ty' n' h' tk', 0 ≤ r → r < c → 0 ≤ x' → x' < 10^60 → y ≤ y' → y' ≤ y + 1 → Fr h₀ L h' m → 
     News h₀ L h' ((j, jarO x' y' tx' ty' l n') :: news) → (∀ p ∈ news, p.1 ≠ j) → Q (.int r t) { s with heap := h', toks := tk' }) :
  wpAny (model PySem.Challenge.rw_on0123_01.row.prog w) (ktrTop dp un gd cn cs L a ccd cl outer) (PySem.call (.ref 291) [.ref j, .int c tc]) Q E s :=
  draw_okS B F X N T hk R (stays_list F.keep hL) (rest_off R (news_off N hL)) hI hn1 hn2 hx1 hx2 hy1 hy2 hc1 hc2 hdp hu (fun r x' y' t tx' ty' n' h' tk' a1 a2 a3 a4 a5 a6 a7 a8 a9 _ => hret r x' y' t tx' ty' n' h' tk' a1 a2 a3 a4 a5 a6 a7 a8 a9)

-- C2
local macro_rules | `(tactic| k_mem) => `(tactic| first | exact List.Mem.head _ | (refine' List.Mem.tail _ ?_; k_mem) | (refine' List.mem_append.mpr (Or.inr ?_); k_mem) | (refine' List.mem_append.mpr (Or.inl ?_); k_mem) | assumption)
local macro_rules | `(tactic| k_all) => `(tactic| first | with_reducible assumption | (refine' List.forall_mem_append.mpr ⟨?a, ?b⟩; (case a => k_all); (case b => k_all)))
local macro_rules | `(tactic| k_upd) => `(tactic| first | (refine' Rest.head ?a; (case a => k_all)) | (refine' Rest.tail ?a ?b; (case a => first | with_reducible assumption | k_ne); (case b => k_upd)))
local macro_rules | `(tactic| ktr_room) => `(tactic| ((try dsimp only [ktrTop, Around.deeper, Option.map]); omega))
local macro_rules | `(tactic| k_room) => `(tactic| ktr_room)
local macro_rules | `(tactic| ktr_units) => `(tactic| ((try dsimp only [ktrTop, Around.deeper, Option.map]); omega))
local macro_rules | `(tactic| walk_at "newTuple") => `(tactic| (k_here; k_dflt (refine' newTuple_L ?F ?N ?_ ?z; (case F => k_asm); (case N => k_asm); (case z => kmk_size)); intro D' h' F' N' l1 lD; (try k_lt l1); (try k_sweep)))
local macro_rules | `(tactic| walk_at "call type:tuple") => `(tactic| (k_here; (with_reducible show wpAny _ _ (PySem.call (Value.type _) [Value.ref _]) _ _ _); k_dflt (refine' tupleOf_L ?k1 ?k2 ?k3 ?k4 ?k5 ?_; (case k1 => k_asm); (case k2 => k_asm); (case k3 => exact News.isList (by k_asm) (by k_mem)); (case k4 => exact Nat.le_of_ble_eq_true rfl); (case k5 => kun_lit); k_whole); intro D' h' F' N' l1 lD; (try k_lt l1); (try k_sweep)))
local macro_rules | `(tactic| walk_at "own enter 1") => `(tactic| (refine' code_defL ?k1 ?k2 ?k3 ?k4 ?k5 ?kA ?kF ?kK ?k6 ?k7 ?k8 ?k9 ?kB ?_ ?c2 ?c3 ?c4 ?c5; (case kA => exact rfl); (case kF => exact rfl); (case kK => assumption); (case k1 => k_asm); (case k2 => k_asm); (case k3 => k_asm); (case k4 => k_asm); (case k5 => k_asm); (case k6 => k_is); (case k7 => k_is); (case k8 => ktr_room); (case k9 => exact BindsTo.of_eq rfl); (case c5 => decide); (case kB => exact locs rfl); (case c2 => exact rfl); (case c3 => exact rfl); (case c4 => exact rfl); k_whole; intro g' L' h' FG' F' N' B' X' T' l1 lL; (try dsimp only); (try k_fold)))
local macro_rules | `(tactic| ktr_enter) => `(tactic| walk_at "own enter 1")
local macro_rules | `(tactic| walk_at "call ref") => `(tactic| (k_here; (with_reducible show wpAny _ _ (PySem.call (Value.ref 291) _) _ _ _); k_dflt (refine' draw_ok ?B ?F ?X ?N ?T ?hk ?R ?hL ?hI ?n1 ?n2 ?x1 ?x2 ?y1 ?y2 ?c1 ?c2 ?d ?u ?_; (case B => k_asm); (case F => k_asm); (case X => k_asm); (case N => k_asm); (case T => k_asm); (case hk => first | exact rfl | assumption); (case R => k_upd); (case hL => assumption); (case hI => assumption); (case n1 => assumption); (case n2 => assumption); (case x1 => assumption); (case x2 => assumption); (case y1 => omega); (case y2 => omega); (case c1 => decide); (case c2 => decide); (case d => ktr_room); (case u => ktr_units)); intro r' x' y' t' tx' ty' n' h' tk' hr0 hr1 hx0 hx1 hy0 hy1 F' N' hj'; (try simp only [List.append_assoc, List.cons_append, List.nil_append] at N'); (try k_sweep)))

theorem letter_item {r : Int} (h0 : 0 ≤ r) (h1 : r < 6) : ∃ z : Lt, Txt.item (Str.ofString "abcdef") r = z.str := by
  have h : r = 0 ∨ r = 1 ∨ r = 2 ∨ r = 3 ∨ r = 4 ∨ r = 5 := by omega
  rcases h with rfl | rfl | rfl | rfl | rfl | rfl
  · exact ⟨.a, by decide +kernel⟩
  · exact ⟨.b, by decide +kernel⟩
  · exact ⟨.c, by decide +kernel⟩
  · exact ⟨.d, by decide +kernel⟩
  · exact ⟨.e, by decide +kernel⟩
  · exact ⟨.f, by decide +kernel⟩
theorem letter_ok {w : World} {p : Program} {loose : List Str} {mean : ExcName → Option Value} {mg mb : Str → Option Value}
  {dp un : Nat} {gd : Option (List Code)} {cn : Str} {cs : Scope} {L a : Addr} {ccd : Value} {cl : List (Str × Addr)} {outer : List Env}
  {A₀ : Around} {base h₀ : Heap} {m : Str → Option Value} {led : List (Addr × Obj)} {s : Shared} {Q E : Value → Shared → Prop}
  {j l : Addr} {vs : List Value} {ns : List Int} {x y : Int} {tx ty : Tok} {n : Nat} {news : List (Addr × Obj)}
  (B : Below A₀ base outer h₀) (F : Fr h₀ L s.heap m) (X : (topK w.params).In h₀) (N : News h₀ L s.heap led) (T : Top p loose mean mg mb h₀) (hk : cs.kind = .function)
  (R : Rest j (jarO x y tx ty l n) led news)
  (hL : h₀.IsList l vs.toArray) (hI : IntsAre vs ns) (hn1 : 0 < ns.length) (hn2 : ns.length ≤ 40)
  (hx1 : 0 ≤ x) (hx2 : x < 10^60) (hy1 : 0 ≤ y)
  (hy2 : y + 1 < 2^40)
  (hdp : dp + 2 < recursionLimit) (hu : un + 16 < cLine)
  (hret : ∀ x' y' tx' ty' n' z d u t r n1 h' tk', 0 ≤ x' → x' < 10^60 → y ≤ y' → y' ≤ y + 1 → Fr h₀ L h' m → 
     News h₀ L h' ((j, jarO x' y' tx' ty' l n') :: (news ++ [(d, tupO #[.str (Str.ofString "id") t, .int 0 u, .str (Lt.str z) r] n1)])) → (∀ p ∈ news, p.1 ≠ j) → d ≠ j → L < d → (∀ p ∈ (j, jarO x y tx ty l n) :: news, p.1 < d) → Q (.ref d) { s with heap := h', toks := tk' }) :
  wpAny (model PySem.Challenge.rw_on0123_01.row.prog w) (ktrTop dp un gd cn cs L a ccd cl outer) (PySem.call (.ref 298) [.ref j]) Q E s := by
  replace N := R.news N
  have hj := R.off
  revert X; k_fill; intro X
  refine wpAny_call ?_
  k_dflt ktr_enter
  rename_i g1 L1 h1 FG F1 N1 B1 X1 T1 l1 lL
  have hL' := stays_list FG.keep hL
  k_steps
  rename_i r1 x1 y1 t1 tx1 ty1 n1 h1 tk1 hr0 hr1 hx0 hx1' hy0 hy1' hj' kxiE D h2 F2 N2 lD l2 kF kN Tc kX
  obtain ⟨z, hz⟩ := letter_item hr0 hr1
  rw [hz] at kN
  refine' hret _ _ _ _ _ z _ _ _ _ _ _ _ hx0 hx1' hy0 hy1' kF (cb_drop kN ?sub) hj (Nat.ne_of_gt l2.1) (Nat.lt_trans lL lD) (fun p hp => Nat.lt_trans (l1 p hp) lD)
  case sub => kqd_sub

-- C3
local macro_rules | `(tactic| walk_at "call ref") => `(tactic| (k_here; (with_reducible show wpAny _ _ (PySem.call (Value.ref 298) _) _ _ _); k_dflt (refine' letter_ok ?B ?F ?X ?N ?T ?hk ?R ?hL ?hI ?n1 ?n2 ?x1 ?x2 ?y1 ?y2 ?d ?u ?_; (case B => k_asm); (case F => k_asm); (case X => k_asm); (case N => k_asm); (case T => k_asm); (case hk => first | exact rfl | assumption); (case R => k_upd); (case hL => assumption); (case hI => assumption); (case n1 => assumption); (case n2 => assumption); (case x1 => assumption); (case x2 => assumption); (case y1 => omega); (case y2 => omega); (case d => ktr_room); (case u => ktr_units)); intro x' y' tx' ty' n' z' d' u' t' r' n1' h' tk' hx0 hx1 hy0 hy1 F' N' hj' hdj' hdL' hdo'; (try simp only [List.append_assoc, List.cons_append, List.nil_append] at N'); (try k_sweep)))
def MadeOK (d : Nat) : Prop := ∀ {w : World} {p : Program} {loose : List Str} {mean : ExcName → Option Value} {mg mb : Str → Option Value}
  {dp un : Nat} {gd : Option (List Code)} {cn : Str} {cs : Scope} {L a : Addr} {ccd : Value} {cl : List (Str × Addr)} {outer : List Env}
  {A₀ : Around} {base h₀ : Heap} {m : Str → Option Value} {led : List (Addr × Obj)} {s : Shared} {Q E : Value → Shared → Prop}
  {j l : Addr} {vs : List Value} {ns : List Int} {x y : Int} {tx ty : Tok} {n : Nat} {news : List (Addr × Obj)}
  {deep : Int} {tdp : Tok}
  (B : Below A₀ base outer h₀) (F : Fr h₀ L s.heap m) (X : (topK w.params).In h₀) (N : News h₀ L s.heap led) (T : Top p loose mean mg mb h₀) (hk : cs.kind = .function)
  (R : Rest j (jarO x y tx ty l n) led news)
  (hL : h₀.IsList l vs.toArray) (hI : IntsAre vs ns) (hn1 : 0 < ns.length) (hn2 : ns.length ≤ 40)
  (hx1 : 0 ≤ x) (hx2 : x < 10^60) (hy1 : 0 ≤ y)
  (hy2 : y + cost d < 2^40) (hdeep : deep = (d : Int))
  (hdp : dp + (4 * d + 4) < recursionLimit) (hu : un + 8 * (4 * d + 6) < cLine)
  (hret : ∀ x' y' tx' ty' n' v σ tl h' tk', 0 ≤ x' → x' < 10^60 → y ≤ y' → y' ≤ y + cost d → Fr h₀ L h' m → 
     News h₀ L h' ((j, jarO x' y' tx' ty' l n') :: (news ++ tl)) → StIn (InL tl) v σ → AllTup tl → S.ht σ ≤ d → (∀ p ∈ news, p.1 ≠ j) → (∀ p ∈ tl, p.1 ≠ j) → Above L tl → Over tl ((j, jarO x y tx ty l n) :: news) → Q v { s with heap := h', toks := tk' }),
  wpAny (model PySem.Challenge.rw_on0123_01.row.prog w) (ktrTop dp un gd cn cs L a ccd cl outer) (PySem.call (.ref 303) [.ref j, .int deep tdp]) Q E s
def IfOK (d : Nat) : Prop := ∀ {w : World} {p : Program} {loose : List Str} {mean : ExcName → Option Value} {mg mb : Str → Option Value}
  {dp un : Nat} {gd : Option (List Code)} {cn : Str} {cs : Scope} {L a : Addr} {ccd : Value} {cl : List (Str × Addr)} {outer : List Env}
  {A₀ : Around} {base h₀ : Heap} {m : Str → Option Value} {led : List (Addr × Obj)} {s : Shared} {Q E : Value → Shared → Prop}
  {j l : Addr} {vs : List Value} {ns : List Int} {x y : Int} {tx ty : Tok} {n : Nat} {news : List (Addr × Obj)}
  {deep : Int} {tdp : Tok}
  (B : Below A₀ base outer h₀) (F : Fr h₀ L s.heap m) (X : (topK w.params).In h₀) (N : News h₀ L s.heap led) (T : Top p loose mean mg mb h₀) (hk : cs.kind = .function)
  (R : Rest j (jarO x y tx ty l n) led news)
  (hL : h₀.IsList l vs.toArray) (hI : IntsAre vs ns) (hn1 : 0 < ns.length) (hn2 : ns.length ≤ 40)
  (hx1 : 0 ≤ x) (hx2 : x < 10^60) (hy1 : 0 ≤ y)
  (hy2 : y + (2 + 2 * cost d) < 2^40) (hdeep : deep = (d : Int) + 1)
  (hdp : dp + (4 * d + 7) < recursionLimit) (hu : un + 8 * (4 * d + 8) < cLine)
  (hret : ∀ x' y' tx' ty' n' v σ tl h' tk', 0 ≤ x' → x' < 10^60 → y ≤ y' → y' ≤ y + (2 + 2 * cost d) → Fr h₀ L h' m → 
     News h₀ L h' ((j, jarO x' y' tx' ty' l n') :: (news ++ tl)) → StIn (InL tl) v σ → AllTup tl → S.ht σ ≤ d + 1 ∧ (∃ c s o, σ = S.ite c s o) → (∀ p ∈ news, p.1 ≠ j) → (∀ p ∈ tl, p.1 ≠ j) → Above L tl → Over tl ((j, jarO x y tx ty l n) :: news) → Q v { s with heap := h', toks := tk' }),
  wpAny (model PySem.Challenge.rw_on0123_01.row.prog w) (ktrTop dp un gd cn cs L a ccd cl outer) (PySem.call (.ref 310) [.ref j, .int deep tdp]) Q E s
def IfOKS (d : Nat) : Prop := ∀ {w : World} {p : Program} {loose : List Str} {mean : ExcName → Option Value} {mg mb : Str → Option Value}
  {dp un : Nat} {gd : Option (List Code)} {cn : Str} {cs : Scope} {L a : Addr} {ccd : Value} {cl : List (Str × Addr)} {outer : List Env}
  {A₀ : Around} {base h₀ : Heap} {m : Str → Option Value} {led : List (Addr × Obj)} {s : Shared} {Q E : Value → Shared → Prop}
  {j l : Addr} {vs : List Value} {ns : List Int} {x y : Int} {tx ty : Tok} {n : Nat} {news : List (Addr × Obj)}
  {deep : Int} {tdp : Tok}
  (B : Below A₀ base outer h₀) (F : Fr h₀ L s.heap m) (X : (topK w.params).In h₀) (N : News h₀ L s.heap led) (T : Top p loose mean mg mb h₀) (hk : cs.kind = .function)
  (R : Rest j (jarO x y tx ty l n) led news)
  (hL : s.heap.IsList l vs.toArray) (hLo : ∀ p ∈ (j, jarO x y tx ty l n) :: news, p.1 ≠ l) (hI : IntsAre vs ns) (hn1 : 0 < ns.length) (hn2 : ns.length ≤ 40)
  (hx1 : 0 ≤ x) (hx2 : x < 10^60) (hy1 : 0 ≤ y)
  (hy2 : y + (2 + 2 * cost d) < 2^40) (hdeep : deep = (d : Int) + 1)
  (hdp : dp + (4 * d + 7) < recursionLimit) (hu : un + 8 * (4 * d + 8) < cLine)
  (hret : ∀ x' y' tx' ty' n' v σ tl h' tk', 0 ≤ x' → x' < 10^60 → y ≤ y' → y' ≤ y + (2 + 2 * cost d) → Fr h₀ L h' m → 
     News h₀ L h' ((j, jarO x' y' tx' ty' l n') :: (news ++ tl)) → StIn (InL tl) v σ → AllTup tl → S.ht σ ≤ d + 1 ∧ (∃ c s o, σ = S.ite c s o) → (∀ p ∈ news, p.1 ≠ j) → (∀ p ∈ tl, p.1 ≠ j) → Above L tl → Over tl ((j, jarO x y tx ty l n) :: news) → (∀ b o, s.heap.get? b = some o → (∀ p ∈ (j, jarO x y tx ty l n) :: news, p.1 ≠ b) → h'.get? b = some o) → Q v { s with heap := h', toks := tk' }),
  wpAny (model PySem.Challenge.rw_on0123_01.row.prog w) (ktrTop dp un gd cn cs L a ccd cl outer) (PySem.call (.ref 310) [.ref j, .int deep tdp]) Q E s
theorem if_of (d : Nat) (h : IfOKS d) : IfOK d := by
  unfold IfOK
  intro w p loose mean mg mb dp un gd cn cs L a ccd cl outer A₀ base h₀ m led s Q E j l vs ns x y tx ty n news deep tdp B F X N T hk R hL hI hn1 hn2 hx1 hx2 hy1 hy2 hdeep hdp hu hret
  exact h B F X N T hk R (stays_list F.keep hL) (rest_off R (news_off N hL)) hI hn1 hn2 hx1 hx2 hy1 hy2 hdeep hdp hu (fun x' y' tx' ty' n' v σ tl h' tk' a1 a2 a3 a4 a5 a6 a7 a8 a9 b1 b2 b3 b4 _ => hret x' y' tx' ty' n' v σ tl h' tk' a1 a2 a3 a4 a5 a6 a7 a8 a9 b1 b2 b3 b4)
local macro_rules | `(tactic| walk_at "call ref") => `(tactic| (k_here; (with_reducible show wpAny _ _ (PySem.call (Value.ref 303) _) _ _ _); (rename MadeOK _ => hH'); k_dflt (refine' hH' ?B ?F ?X ?N ?T ?hk ?R ?hL ?hI ?n1 ?n2 ?x1 ?x2 ?y1 ?y2 ?dd ?d ?u ?_; (case B => k_asm); (case F => k_asm); (case X => k_asm); (case N => k_asm); (case T => k_asm); (case hk => first | exact rfl | assumption); (case R => k_upd); (case hL => assumption); (case hI => assumption); (case n1 => assumption); (case n2 => assumption); (case x1 => assumption); (case x2 => assumption); (case y1 => omega); (case y2 => omega); (case dd => omega); (case d => ktr_room); (case u => ktr_units)); intro x' y' tx' ty' n' v' σ' tl' h' tk' hx0 hx1 hy0 hy1 F' N' hst' htup' hht' hj' htj' hab' hov'; (try simp only [List.append_assoc, List.cons_append, List.nil_append] at N'); (try k_sweep)))
local macro_rules | `(tactic| walk_at "call ref") => `(tactic| (k_here; (with_reducible show wpAny _ _ (PySem.call (Value.ref 310) _) _ _ _); (rename IfOK _ => hH'); k_dflt (refine' hH' ?B ?F ?X ?N ?T ?hk ?R ?hL ?hI ?n1 ?n2 ?x1 ?x2 ?y1 ?y2 ?dd ?d ?u ?_; (case B => k_asm); (case F => k_asm); (case X => k_asm); (case N => k_asm); (case T => k_asm); (case hk => first | exact rfl | assumption); (case R => k_upd); (case hL => assumption); (case hI => assumption); (case n1 => assumption); (case n2 => assumption); (case x1 => assumption); (case x2 => assumption); (case y1 => omega); (case y2 => omega); (case dd => omega); (case d => ktr_room); (case u => ktr_units)); intro x' y' tx' ty' n' v' σ' tl' h' tk' hx0 hx1 hy0 hy1 F' N' hst' htup' hht' hj' htj' hab' hov'; (try simp only [List.append_assoc, List.cons_append, List.nil_append] at N'); (try k_sweep)))
local macro_rules | `(tactic| walk_at "own enter 2") => `(tactic| (refine' code_defC ?k1 ?k2 ?k3 ?k4 ?k5 ?kA ?kF ?kK ?k6 ?k7 ?k8 ?k9 ?kB ?kD ?_ ?c2 ?c3 ?c4; (case kA => exact rfl); (case kF => exact rfl); (case kK => assumption); (case k1 => k_asm); (case k2 => k_asm); (case k3 => k_asm); (case k4 => k_asm); (case k5 => k_asm); (case k6 => k_is); (case k7 => k_is); (case k8 => ktr_room); (case k9 => exact BindsTo.of_eq rfl); (case kB => exact rfl); (case kD => decide +kernel); (case c2 => exact rfl); (case c3 => exact rfl); (case c4 => exact rfl); k_whole; intro g' L' h' tk' cells' FG' F' N' Y' B' X' T' l1; k_cells Y'; (try simp only [List.cons_append, List.nil_append] at N'); (try dsimp only); (try k_fold)))
section
local macro_rules | `(tactic| ktr_enter) => `(tactic| walk_at "own enter 2")
theorem made_zero : MadeOK 0 := by
  unfold MadeOK
  intro w p loose mean mg mb dp un gd cn cs L a ccd cl outer A₀ base h₀ m led s Q E j l vs ns x y tx ty n news deep tdp B F X N T hk R hL hI hn1 hn2 hx1 hx2 hy1 hy2 hdeep hdp hu hret
  replace N := R.news N
  have hj := R.off
  have hfin : ∀ B₁ led v σ x' y' tx' ty' n' h' tk', L < B₁ → (∀ p ∈ (j, jarO x y tx ty l n) :: news, p.1 < B₁) → News h₀ L h' led → Fr h₀ L h' m → (j, jarO x' y' tx' ty' l n') ∈ led → (∀ p ∈ news, p ∈ led) → StIn (InG B₁ led) v σ →
      0 ≤ x' → x' < 10^60 → y ≤ y' → y' ≤ y + cost 0 → S.ht σ ≤ 0 → Q v { s with heap := h', toks := tk' } := by
    intro B₁ led v σ x' y' tx' ty' n' h' tk' b1 b2 N' F' q1 q2 q3 a1 a2 a3 a4 a5
    obtain ⟨tl, e1, e2, e3, e5, e4⟩ := made_end N' q1 q2 q3
    exact hret x' y' tx' ty' n' v σ tl h' tk' a1 a2 a3 a4 F' e1 e2 e3 a5 hj e4 (fun q hq => Nat.lt_trans b1 (e5 q hq)) (Over.of e5 b2)
  clear hret
  have hc : cost 0 = 3 := rfl
  rw [hc] at hy2 hfin
  subst hdeep
  revert X; k_fill; intro X
  refine wpAny_call ?_
  k_dflt ktr_enter
  rename_i g1 L1 h1 tk1 FG F1 B1 X1 T1 l1 o1 o2 d1 d2 N1
  have hL' := stays_list FG.keep hL
  have lL := frame_lt FG F1
  have hl1 := l1
  k_lt l1
  k_steps
  · refine' hfin L1 _ _ _ _ _ _ _ _ _ _ lL hl1 (by with_reducible assumption) (by with_reducible assumption) ?j1 ?n1 ?st1 ?x1a ?x1b ?y1a ?y1b ?ht1
    case j1 => k_mem
    case n1 => (intro q hq; k_mem)
    case st1 => (refine' .set ?q11 (.mk ?q12) (.mk ?q13); (case q11 => exact ⟨by k_mem, by assumption⟩); (case q12 => exact ⟨by k_mem, by assumption⟩); (case q13 => exact ⟨by k_mem, by assumption⟩))
    case ht1 => exact Nat.le_refl 0
    all_goals first | with_reducible assumption | omega
  · refine' hfin L1 _ _ _ _ _ _ _ _ _ _ lL hl1 (by with_reducible assumption) (by with_reducible assumption) ?j2 ?n2 ?st2 ?x2a ?x2b ?y2a ?y2b ?ht2
    case j2 => k_mem
    case n2 => (intro q hq; k_mem)
    case st2 => exact .none
    case ht2 => exact Nat.le_refl 0
    all_goals first | with_reducible assumption | omega
  · exfalso; omega
end
section
local macro_rules | `(tactic| ktr_enter) => `(tactic| walk_at "own enter 0")
theorem if_succS (d : Nat) (IH : MadeOK d) : IfOKS d := by
  unfold IfOKS
  intro w p loose mean mg mb dp un gd cn cs L a ccd cl outer A₀ base h₀ m led s Q E j l vs ns x y tx ty n news deep tdp B F X N T hk R hL hLo hI hn1 hn2 hx1 hx2 hy1 hy2 hdeep hdp hu hret
  replace N := R.news N
  have hj := R.off
  have hfin : ∀ B₁ led v σ x' y' tx' ty' n' h' tk', L < B₁ → (∀ p ∈ (j, jarO x y tx ty l n) :: news, p.1 < B₁) → News h₀ L h' led → Fr h₀ L h' m → (j, jarO x' y' tx' ty' l n') ∈ led → (∀ p ∈ news, p ∈ led) → StIn (InG B₁ led) v σ →
      0 ≤ x' → x' < 10^60 → y ≤ y' → y' ≤ y + (2 + 2 * cost d) → (S.ht σ ≤ d + 1 ∧ (∃ c s o, σ = S.ite c s o)) → (∀ b o, s.heap.get? b = some o → (∀ p ∈ (j, jarO x y tx ty l n) :: news, p.1 ≠ b) → h'.get? b = some o) → Q v { s with heap := h', toks := tk' } := by
    intro B₁ led v σ x' y' tx' ty' n' h' tk' b1 b2 N' F' q1 q2 q3 a1 a2 a3 a4 a5 ko
    obtain ⟨tl, e1, e2, e3, e5, e4⟩ := made_end N' q1 q2 q3
    exact hret x' y' tx' ty' n' v σ tl h' tk' a1 a2 a3 a4 F' e1 e2 e3 a5 hj e4 (fun q hq => Nat.lt_trans b1 (e5 q hq)) (Over.of e5 b2) ko
  clear hret
  have hcp := cost_pos d
  subst hdeep
  revert X; k_fill; intro X
  refine wpAny_call ?_
  k_dflt ktr_enter
  rename_i g1 L1 h1 FG F1 N1 B1 X1 T1 l1 lL hG
  have hL' := list_off hG hL hLo
  clear hL hLo
  have hl1 := l1
  k_lt l1
  k_steps
  · refine' hfin L1 _ _ _ _ _ _ _ _ _ _ lL hl1 (by with_reducible assumption) (by with_reducible assumption) ?j3 ?n3 ?st3 ?x3a ?x3b ?y3a ?y3b ?ht3 (fun b o e hb => Fr.keep (by assumption) b o (hG b o e hb))
    case j3 => k_mem
    case n3 => (intro q hq; k_mem)
    case st3 => (refine' .ite ?q31 (.mk ?q32) ?q33 ?q34; (case q31 => exact ⟨by k_mem, by assumption⟩); (case q32 => exact ⟨by k_mem, by assumption⟩); (case q33 => (refine' StIn.lift (by assumption) (by assumption) ?m31; (case m31 => (intro q hq; k_mem)))); (case q34 => (refine' StIn.lift (by assumption) (by assumption) ?m32; (case m32 => (intro q hq; k_mem)))))
    case ht3 => exact ⟨by (simp only [S.ht]; omega), _, _, _, rfl⟩
    all_goals first | with_reducible assumption | omega
  · refine' hfin L1 _ _ _ _ _ _ _ _ _ _ lL hl1 (by with_reducible assumption) (by with_reducible assumption) ?j4 ?n4 ?st4 ?x4a ?x4b ?y4a ?y4b ?ht4 (fun b o e hb => Fr.keep (by assumption) b o (hG b o e hb))
    case j4 => k_mem
    case n4 => (intro q hq; k_mem)
    case st4 => (refine' .ite ?q41 (.mk ?q42) ?q43 .none; (case q41 => exact ⟨by k_mem, by assumption⟩); (case q42 => exact ⟨by k_mem, by assumption⟩); (case q43 => (refine' StIn.lift (by assumption) (by assumption) ?m41; (case m41 => (intro q hq; k_mem)))))
    case ht4 => exact ⟨by (simp only [S.ht]; omega), _, _, _, rfl⟩
    all_goals first | with_reducible assumption | omega
end
theorem if_succ (d : Nat) (IH : MadeOK d) : IfOK d := if_of d (if_succS d IH)

-- C4
local macro_rules | `(tactic| walk_at "call type:range") => `(tactic| (k_here; (with_reducible show wpAny _ _ (PySem.call (Value.type "range") [Value.int _ _]) _ _ _); refine range_split (by with_reducible assumption) (by with_reducible assumption) ?_ ?_ ?_))
local macro_rules | `(tactic| walk_at "CompSrc") => `(tactic| (k_here; k_dflt (refine LCg.CompSrc.range (by rfl) (by k_asm) (by k_asm) (by assumption) (by first | decide | rfl) (by first | rfl | decide) (by first | size_fits | exact Nat.le_of_ble_eq_true rfl) ?_; intro g'; lcg_lit)))
local macro_rules | `(tactic| walk_at "CompRest") => `(tactic| (with_unfolding_all first
  | (refine LCg.CompRest.succ ?_; intro v' I' oI' C' oC' D' m' h' tk' E' hv' hC' hx' F' N' off' ne'; (obtain ⟨t9', hv9'⟩ := hv'; subst hv9'); (try simp only [List.append_assoc, List.cons_append, List.nil_append] at N' off'); (have off2' := off'); (try simp only [LCg.Off3, and_true] at off2'))
  | refine LCg.CompRest.zero ?_))
local macro_rules | `(tactic| walk_at "CompEnd") => `(tactic| (k_here; k_dflt (refine' turn_end ?F ?N ?off ?ov ?hj ?hs ?ht ?_; (case off => k_asm); (case ov => k_asm); (case F => k_asm); (case N => k_asm); (case hj => k_mem); (case hs => kqd_sub); (case ht => (intro q hq; k_mem)))))
section
local macro_rules | `(tactic| ktr_enter) => `(tactic| walk_at "own enter 2")
theorem made_succ (d : Nat) (IH : MadeOK d) (IHi : IfOK d) : MadeOK (d + 1) := by
  unfold MadeOK
  intro w p loose mean mg mb dp un gd cn cs L a ccd cl outer A₀ base h₀ m led s Q E j l vs ns x y tx ty n news deep tdp B F X N T hk R hL hI hn1 hn2 hx1 hx2 hy1 hy2 hdeep hdp hu hret
  replace N := R.news N
  have hj := R.off
  have hfin : ∀ B₁ led v σ x' y' tx' ty' n' h' tk', L < B₁ → (∀ p ∈ (j, jarO x y tx ty l n) :: news, p.1 < B₁) → News h₀ L h' led → Fr h₀ L h' m → (j, jarO x' y' tx' ty' l n') ∈ led → (∀ p ∈ news, p ∈ led) → StIn (InG B₁ led) v σ →
      0 ≤ x' → x' < 10^60 → y ≤ y' → y' ≤ y + (3 + 2 * cost d) → S.ht σ ≤ d + 1 → Q v { s with heap := h', toks := tk' } := by
    intro B₁ led v σ x' y' tx' ty' n' h' tk' b1 b2 N' F' q1 q2 q3 a1 a2 a3 a4 a5
    obtain ⟨tl, e1, e2, e3, e5, e4⟩ := made_end N' q1 q2 q3
    exact hret x' y' tx' ty' n' v σ tl h' tk' a1 a2 a3 a4 F' e1 e2 e3 a5 hj e4 (fun q hq => Nat.lt_trans b1 (e5 q hq)) (Over.of e5 b2)
  clear hret
  have hc : cost (d + 1) = 3 + 2 * cost d := rfl
  rw [hc] at hy2
  have hcp := cost_pos d
  subst hdeep
  revert X; k_fill; intro X
  refine wpAny_call ?_
  k_dflt ktr_enter
  rename_i g1 L1 h1 tk1 FG F1 B1 X1 T1 l1 o1 o2 d1 d2 N1
  have hL' := stays_list FG.keep hL
  have lL := frame_lt FG F1
  have hl1 := l1
  k_lt l1
  k_steps
  · refine' hfin L1 _ _ _ _ _ _ _ _ _ _ lL hl1 (by with_reducible assumption) (by with_reducible assumption) ?j1 ?n1 ?st1 ?x1a ?x1b ?y1a ?y1b ?ht1
    case j1 => k_mem
    case n1 => (intro q hq; k_mem)
    case st1 => (refine' .set ?q11 (.mk ?q12) (.mk ?q13); (case q11 => exact ⟨by k_mem, by assumption⟩); (case q12 => exact ⟨by k_mem, by assumption⟩); (case q13 => exact ⟨by k_mem, by assumption⟩))
    case ht1 => (simp only [S.ht] at *; omega)
    all_goals first | with_reducible assumption | omega
  · refine' hfin L1 _ _ _ _ _ _ _ _ _ _ lL hl1 (by with_reducible assumption) (by with_reducible assumption) ?j2 ?n2 ?st2 ?x2a ?x2b ?y2a ?y2b ?ht2
    case j2 => k_mem
    case n2 => (intro q hq; k_mem)
    case st2 => exact .none
    case ht2 => (simp only [S.ht] at *; omega)
    all_goals first | with_reducible assumption | omega
  · refine' hfin L1 _ _ _ _ _ _ _ _ _ _ lL hl1 (by with_reducible assumption) (by with_reducible assumption) ?j3 ?n3 ?st3 ?x3a ?x3b ?y3a ?y3b ?ht3
    case j3 => k_mem
    case n3 => (intro q hq; k_mem)
    case st3 => (refine' StIn.lift (by assumption) (by assumption) ?m31; (case m31 => (intro q hq; k_mem)))
    case ht3 => omega
    all_goals first | with_reducible assumption | omega
  · refine' hfin L1 _ _ _ _ _ _ _ _ _ _ lL hl1 (by with_reducible assumption) (by with_reducible assumption) ?j4 ?n4 ?st4 ?x4a ?x4b ?y4a ?y4b ?ht4
    case j4 => k_mem
    case n4 => (intro q hq; k_mem)
    case st4 => (refine' .whl ?q41 (.mk ?q42) ?q43; (case q41 => exact ⟨by k_mem, by assumption⟩); (case q42 => exact ⟨by k_mem, by assumption⟩); (case q43 => (refine' StIn.lift (by assumption) (by assumption) ?m41; (case m41 => (intro q hq; k_mem)))))
    case ht4 => (simp only [S.ht] at *; omega)
    all_goals first | with_reducible assumption | omega
  · refine' hfin L1 _ _ _ _ _ _ _ _ _ _ lL hl1 (by with_reducible assumption) (by with_reducible assumption) ?j5 ?n5 ?st5 ?x5a ?x5b ?y5a ?y5b ?ht5
    case j5 => k_mem
    case n5 => (intro q hq; k_mem)
    case st5 => (refine' .fev ?q51 ?q53; (case q51 => exact ⟨by k_mem, by assumption⟩); (case q53 => (refine' StIn.lift (by assumption) (by assumption) ?m51; (case m51 => (intro q hq; k_mem)))))
    case ht5 => (simp only [S.ht] at *; omega)
    all_goals first | with_reducible assumption | omega
  · refine' hfin L1 _ _ _ _ _ _ _ _ _ _ lL hl1 (by with_reducible assumption) (by with_reducible assumption) ?j6 ?n6 ?st6 ?x6a ?x6b ?y6a ?y6b ?ht6
    case j6 => k_mem
    case n6 => (intro q hq; k_mem)
    case st6 => (first | (refine' .blk0 ?q61 ?q62 ?q63; (case q61 => exact ⟨by k_mem, by assumption⟩); (case q62 => exact ⟨by k_mem, by assumption⟩); (case q63 => exact ⟨by k_mem, by assumption⟩)) | (refine' .blk1 ?r61 ?r62 ?r63 ?r64; (case r61 => exact ⟨by k_mem, by assumption⟩); (case r62 => exact ⟨by k_mem, by assumption⟩); (case r63 => exact ⟨by k_mem, by assumption⟩); (case r64 => (refine' StIn.lift (by assumption) (by assumption) ?m61; (case m61 => (intro q hq; k_mem))))) | (refine' .blk2 ?s61 ?s62 ?s63 ?s64 ?s65; (case s61 => exact ⟨by k_mem, by assumption⟩); (case s62 => exact ⟨by k_mem, by assumption⟩); (case s63 => exact ⟨by k_mem, by assumption⟩); (case s64 => (refine' StIn.lift (by assumption) (by assumption) ?m62; (case m62 => (intro q hq; k_mem)))); (case s65 => (refine' StIn.lift (by assumption) (by assumption) ?m63; (case m63 => (intro q hq; k_mem))))))
    case ht6 => (simp only [S.ht] at *; omega)
    all_goals first | with_reducible assumption | omega
  · refine' hfin L1 _ _ _ _ _ _ _ _ _ _ lL hl1 (by with_reducible assumption) (by with_reducible assumption) ?j7 ?n7 ?st7 ?x7a ?x7b ?y7a ?y7b ?ht7
    case j7 => k_mem
    case n7 => (intro q hq; k_mem)
    case st7 => (first | (refine' .blk0 ?q71 ?q72 ?q73; (case q71 => exact ⟨by k_mem, by assumption⟩); (case q72 => exact ⟨by k_mem, by assumption⟩); (case q73 => exact ⟨by k_mem, by assumption⟩)) | (refine' .blk1 ?r71 ?r72 ?r73 ?r74; (case r71 => exact ⟨by k_mem, by assumption⟩); (case r72 => exact ⟨by k_mem, by assumption⟩); (case r73 => exact ⟨by k_mem, by assumption⟩); (case r74 => (refine' StIn.lift (by assumption) (by assumption) ?m71; (case m71 => (intro q hq; k_mem))))) | (refine' .blk2 ?s71 ?s72 ?s73 ?s74 ?s75; (case s71 => exact ⟨by k_mem, by assumption⟩); (case s72 => exact ⟨by k_mem, by assumption⟩); (case s73 => exact ⟨by k_mem, by assumption⟩); (case s74 => (refine' StIn.lift (by assumption) (by assumption) ?m72; (case m72 => (intro q hq; k_mem)))); (case s75 => (refine' StIn.lift (by assumption) (by assumption) ?m73; (case m73 => (intro q hq; k_mem))))))
    case ht7 => (simp only [S.ht] at *; omega)
    all_goals first | with_reducible assumption | omega
  · refine' hfin L1 _ _ _ _ _ _ _ _ _ _ lL hl1 (by with_reducible assumption) (by with_reducible assumption) ?j8 ?n8 ?st8 ?x8a ?x8b ?y8a ?y8b ?ht8
    case j8 => k_mem
    case n8 => (intro q hq; k_mem)
    case st8 => (first | (refine' .blk0 ?q81 ?q82 ?q83; (case q81 => exact ⟨by k_mem, by assumption⟩); (case q82 => exact ⟨by k_mem, by assumption⟩); (case q83 => exact ⟨by k_mem, by assumption⟩)) | (refine' .blk1 ?r81 ?r82 ?r83 ?r84; (case r81 => exact ⟨by k_mem, by assumption⟩); (case r82 => exact ⟨by k_mem, by assumption⟩); (case r83 => exact ⟨by k_mem, by assumption⟩); (case r84 => (refine' StIn.lift (by assumption) (by assumption) ?m81; (case m81 => (intro q hq; k_mem))))) | (refine' .blk2 ?s81 ?s82 ?s83 ?s84 ?s85; (case s81 => exact ⟨by k_mem, by assumption⟩); (case s82 => exact ⟨by k_mem, by assumption⟩); (case s83 => exact ⟨by k_mem, by assumption⟩); (case s84 => (refine' StIn.lift (by assumption) (by assumption) ?m82; (case m82 => (intro q hq; k_mem)))); (case s85 => (refine' StIn.lift (by assumption) (by assumption) ?m83; (case m83 => (intro q hq; k_mem))))))
    case ht8 => (simp only [S.ht] at *; omega)
    all_goals first | with_reducible assumption | omega
end
theorem made_all (d : Nat) : MadeOK d := Nat.rec (motive := MadeOK) made_zero (fun d ih => made_succ d ih (if_succ d ih)) d
theorem if_all (d : Nat) : IfOK d := if_succ d (made_all d)
theorem if_allS (d : Nat) : IfOKS d := if_succS d (made_all d)

-- C5
local macro_rules | `(tactic| walk_at "own enter 3") => `(tactic| (refine' code_defP ?k1 ?k2 ?k3 ?k5 ?kA ?kF ?kK ?k6 ?k7 ?k8 ?k9 ?kB ?_ ?c2 ?c3 ?c4 ?c5; (case kA => exact rfl); (case kF => exact rfl); (case kK => assumption); (case k1 => k_asm); (case k2 => k_asm); (case k3 => k_asm); (case k5 => k_asm); (case k6 => k_is); (case k7 => k_is); (case k8 => ktr_room); (case k9 => first | exact BindsTo.of_eq rfl | exact binds_K (by k_in) rfl (by k_is) rfl rfl rfl); (case c5 => decide); (case kB => exact locs rfl); (case c2 => exact rfl); (case c3 => exact rfl); (case c4 => exact rfl); k_whole; intro g' L' h' FG' F' N' B' X' T' hs' lL; (try dsimp only); (try k_fold)))
local macro_rules | `(tactic| ktr_enter) => `(tactic| walk_at "own enter 3")
theorem pad_ok {w : World} {p : Program} {loose : List Str} {mean : ExcName → Option Value} {mg mb : Str → Option Value}
  {dp un : Nat} {gd : Option (List Code)} {cn : Str} {cs : Scope} {L a : Addr} {ccd : Value} {cl : List (Str × Addr)} {outer : List Env}
  {A₀ : Around} {base h₀ : Heap} {m : Str → Option Value} {s : Shared} {Q E : Value → Shared → Prop}
  {i : Int} {ti : Tok}
  (B : Below A₀ base outer h₀) (F : Fr h₀ L s.heap m) (X : (topK w.params).In h₀) (T : Top p loose mean mg mb h₀) (hk : cs.kind = .function)
  (hi0 : 0 ≤ i) (hi1 : i ≤ 1000) (hdp : dp + 1 < recursionLimit)
  (hret : ∀ t h' tk', Fr h₀ L h' m → s.heap.StaysIn h' → (padS i).length ≤ 4000 → Q (.str (padS i) t) { s with heap := h', toks := tk' }) :
  wpAny (model PySem.Challenge.rw_on0123_01.row.prog w) (ktrTop dp un gd cn cs L a ccd cl outer) (PySem.call (.ref 119) [.int i ti]) Q E s := by
  revert X; k_fill; intro X
  refine wpAny_call ?_
  k_dflt ktr_enter
  rename_i g1 L1 h1 FG F1 N1 B1 X1 T1 hs1 lL
  k_steps
  all_goals exact hret _ _ _ (by assumption) (fun b o e => Fr.keep (by assumption) b o (hs1 b o e)) (pad_len hi0 hi1)
def KwTells (KW : Str) : Prop := ∀ {w : World} {p : Program} {loose : List Str} {mean : ExcName → Option Value} {mg mb : Str → Option Value}
  {dp un : Nat} {gd : Option (List Code)} {cn : Str} {cs : Scope} {L a : Addr} {ccd : Value} {cl : List (Str × Addr)} {outer : List Env}
  {A₀ : Around} {base h₀ : Heap} {m : Str → Option Value} {s : Shared} {Q E : Value → Shared → Prop}
  (B : Below A₀ base outer h₀) (F : Fr h₀ L s.heap m) (X : (topK w.params).In h₀) (T : Top p loose mean mg mb h₀) (hk : cs.kind = .function)
  (hdp : dp + 1 < recursionLimit)
  (hret : ∀ t h' tk', Fr h₀ L h' m → s.heap.StaysIn h' → Q (.str KW t) { s with heap := h', toks := tk' }),
  wpAny (model PySem.Challenge.rw_on0123_01.row.prog w) (ktrTop dp un gd cn cs L a ccd cl outer) (PySem.call (.ref 49) []) Q E s
theorem kw_ok : ∃ KW : Str, KwOK KW ∧ KwTells KW := by
  refine' Exists.intro ?KW (And.intro ?ok ?tells)
  case tells =>
    unfold KwTells
    intro w p loose mean mg mb dp un gd cn cs L a ccd cl outer A₀ base h₀ m s Q E B F X T hk hdp hret
    revert X; k_fill; intro X
    refine wpAny_call ?_
    k_dflt ktr_enter
    rename_i g1 L1 h1 FG F1 N1 B1 X1 T1 hs1 lL
    k_steps
    all_goals exact hret _ _ _ (by assumption) (fun b o e => Fr.keep (by assumption) b o (hs1 b o e))
  case ok => exact KwOK.lit rfl (by decide +kernel) (by decide +kernel)
section
local macro_rules | `(tactic| walk_at "call ref") => `(tactic| (k_here; (with_reducible show wpAny _ _ (PySem.call (Value.ref 49) _) _ _ _); (with_reducible rename News _ _ _ _ => kNo); (rename KwTells _ => kW9); k_dflt (refine' kW9 ?B ?F ?X ?T ?hk ?d ?_; (case B => k_asm); (case F => k_asm); (case X => k_asm); (case T => k_asm); (case hk => first | exact rfl | assumption); (case d => ktr_room)); intro t' h' tk' F' hs'; k_dflt (have N' := news_stays kNo hs'); (try k_sweep)))
theorem simple_ok (z : Lt) {w : World} {p : Program} {loose : List Str} {mean : ExcName → Option Value} {mg mb : Str → Option Value}
  {dp un : Nat} {gd : Option (List Code)} {cn : Str} {cs : Scope} {L a : Addr} {ccd : Value} {cl : List (Str × Addr)} {outer : List Env}
  {A₀ : Around} {base h₀ : Heap} {m : Str → Option Value} {s : Shared} {Q E : Value → Shared → Prop}
  {r : Tok}
  (B : Below A₀ base outer h₀) (F : Fr h₀ L s.heap m) (X : (topK w.params).In h₀) (T : Top p loose mean mg mb h₀) (hk : cs.kind = .function)
  (hdp : dp + 6 < recursionLimit) (hu : un + 48 < cLine)
  (hret : ∀ h' tk', Fr h₀ L h' m → s.heap.StaysIn h' → Q (.bool true) { s with heap := h', toks := tk' }) :
  wpAny (model PySem.Challenge.rw_on0123_01.row.prog w) (ktrTop dp un gd cn cs L a ccd cl outer) (PySem.call (.ref 56) [.str z.str r]) Q E s := by
  obtain ⟨KW, hKW, hKT⟩ := kw_ok
  have hK1 := hKW.1
  revert X; k_fill; intro X
  refine wpAny_call ?_
  k_dflt ktr_enter
  rename_i g1 L1 h1 FG F1 N1 B1 X1 T1 hs1 lL
  cases z
  all_goals
    dsimp only [Lt.str] at F1 ⊢
    k_steps
    · exfalso
      (rename (_ ∨ _) => h9)
      revert h9
      decide
    · exact retB (hret _ _ (by assumption) (fun b o e => Fr.keep (by assumption) b o (hs1 b o e))) (by first | exact lone_end .a KW hKW.2 | exact lone_end .b KW hKW.2 | exact lone_end .c KW hKW.2 | exact lone_end .d KW hKW.2 | exact lone_end .e KW hKW.2 | exact lone_end .f KW hKW.2 | exact lone_end .q KW hKW.2 | exact lone_end .x KW hKW.2 | exact lone_end .y KW hKW.2)
end
local macro_rules | `(tactic| walk_at "no such key") => `(tactic| fail)
local macro_rules | `(tactic| walk_at "no such key") => `(tactic| fail)

-- C6
local macro_rules | `(tactic| walk_at "call ref") => `(tactic| (k_here; (with_reducible show wpAny _ _ (PySem.call (Value.ref 56) _) _ _ _); (with_reducible rename News _ _ _ _ => kNo); k_dflt (refine' simple_ok _ ?B ?F ?X ?T ?hk ?d ?u ?_; (case B => k_asm); (case F => k_asm); (case X => k_asm); (case T => k_asm); (case hk => first | exact rfl | assumption); (case d => ktr_room); (case u => ktr_units)); intro  h' tk' F' hs'; k_dflt (have N' := news_stays kNo hs'); (try k_sweep)))

theorem expr_ok (z : Lt) {w : World} {p : Program} {loose : List Str} {mean : ExcName → Option Value} {mg mb : Str → Option Value}
  {dp un : Nat} {gd : Option (List Code)} {cn : Str} {cs : Scope} {L a : Addr} {ccd : Value} {cl : List (Str × Addr)} {outer : List Env}
  {A₀ : Around} {base h₀ : Heap} {m : Str → Option Value} {s : Shared} {Q E : Value → Shared → Prop}
  {v : Value}
  (B : Below A₀ base outer h₀) (F : Fr h₀ L s.heap m) (X : (topK w.params).In h₀) (T : Top p loose mean mg mb h₀) (hk : cs.kind = .function)
  (hv : IdIn (InH h₀) v z) (hdp : dp + 10 < recursionLimit) (hu : un + 80 < cLine)
  (hret : ∀ t h' tk', Fr h₀ L h' m → s.heap.StaysIn h' → z.str.length ≤ 1 → Q (.str z.str t) { s with heap := h', toks := tk' }) :
  wpAny (model PySem.Challenge.rw_on0123_01.row.prog w) (ktrTop dp un gd cn cs L a ccd cl outer) (PySem.call (.ref 112) [v]) Q E s := by
  revert X; k_fill; intro X
  refine wpAny_call ?_
  k_dflt ktr_enter
  rename_i g1 L1 h1 FG F1 N1 B1 X1 T1 hs1 lL
  cases hv with
  | mk hm =>
    rename_i l t u r n
    have hT : IsTup g1 l #[.str (Str.ofString "id") t, .int 0 u, .str z.str r] := ⟨_, FG.keep _ _ hm, rfl, _, rfl⟩
    k_steps
    all_goals exact hret _ _ _ (by assumption) (fun b o e => Fr.keep (by assumption) b o (hs1 b o e)) (by rw [z.str_eq]; exact Nat.le_refl 1)

-- C7
section
local macro_rules | `(tactic| ktr_enter) => `(tactic| walk_at "own enter 3")
local macro_rules | `(tactic| walk_at "call ref") => `(tactic| (k_here; (with_reducible show wpAny _ _ (PySem.call (Value.ref 119) _) _ _ _); (with_reducible rename News _ _ _ _ => kNo); k_dflt (refine' pad_ok ?B ?F ?X ?T ?hk ?i0 ?i1 ?d ?_; (case B => k_asm); (case F => k_asm); (case X => k_asm); (case T => k_asm); (case hk => first | exact rfl | assumption); (case i0 => omega); (case i1 => omega); (case d => ktr_room)); intro t' h' tk' F' hs' hl'; k_dflt (have N' := news_stays kNo hs'); (try k_sweep)))
local macro_rules | `(tactic| walk_at "call ref") => `(tactic| (k_here; (with_reducible show wpAny _ _ (PySem.call (Value.ref 112) _) _ _ _); (with_reducible rename News _ _ _ _ => kNo); k_dflt (refine' expr_ok _ ?B ?F ?X ?T ?hk ?v ?d ?u ?_; (case B => k_asm); (case F => k_asm); (case X => k_asm); (case T => k_asm); (case hk => first | exact rfl | assumption); (case v => (first | (with_reducible assumption) | exact IdIn.mono (fun _ _ q => Fr.keep (by assumption) _ _ q) (by assumption))); (case d => ktr_room); (case u => ktr_units)); intro t' h' tk' F' hs' hl'; k_dflt (have N' := news_stays kNo hs'); (try k_sweep)))
theorem simp_ok (x y : Lt) {w : World} {p : Program} {loose : List Str} {mean : ExcName → Option Value} {mg mb : Str → Option Value}
  {dp un : Nat} {gd : Option (List Code)} {cn : Str} {cs : Scope} {L a : Addr} {ccd : Value} {cl : List (Str × Addr)} {outer : List Env}
  {A₀ : Around} {base h₀ : Heap} {m : Str → Option Value} {s : Shared} {Q E : Value → Shared → Prop}
  {v : Value}
  (B : Below A₀ base outer h₀) (F : Fr h₀ L s.heap m) (X : (topK w.params).In h₀) (T : Top p loose mean mg mb h₀) (hk : cs.kind = .function)
  (hv : StIn (InH h₀) v (.set x y)) (hdp : dp + 12 < recursionLimit) (hu : un + 100 < cLine)
  (hret : ∀ t h' tk', Fr h₀ L h' m → s.heap.StaysIn h' → (Sx x y).length ≤ 10 → Q (.str (Sx x y) t) { s with heap := h', toks := tk' }) :
  wpAny (model PySem.Challenge.rw_on0123_01.row.prog w) (ktrTop dp un gd cn cs L a ccd cl outer) (PySem.call (.ref 182) [v]) Q E s := by
  revert X; k_fill; intro X
  refine wpAny_call ?_
  k_dflt ktr_enter
  rename_i g1 L1 h1 FG F1 N1 B1 X1 T1 hs1 lL
  cases hv with
  | set hm hx hy =>
    rename_i l v1 v2 t u n
    have hT : IsTup g1 l _ := ⟨_, FG.keep _ _ hm, rfl, _, rfl⟩
    have hx1 : IdIn (InH g1) v1 x := hx.mono fun _ _ q => FG.keep _ _ q
    have hy1 : IdIn (InH g1) v2 y := hy.mono fun _ _ q => FG.keep _ _ q
    k_steps
    all_goals exact retS (hret _ _ _ (by assumption) (fun b o e => Fr.keep (by assumption) b o (hs1 b o e)) (sx_len x y)) (str_of (by simp only [q_append, q_empty, q_lit, lit_nil, SL, List.append_assoc, List.nil_append, List.append_nil]))
theorem headw_ok (z : Lt) (b : S) {w : World} {p : Program} {loose : List Str} {mean : ExcName → Option Value} {mg mb : Str → Option Value}
  {dp un : Nat} {gd : Option (List Code)} {cn : Str} {cs : Scope} {L a : Addr} {ccd : Value} {cl : List (Str × Addr)} {outer : List Env}
  {A₀ : Around} {base h₀ : Heap} {m : Str → Option Value} {s : Shared} {Q E : Value → Shared → Prop}
  {v : Value}
  (B : Below A₀ base outer h₀) (F : Fr h₀ L s.heap m) (X : (topK w.params).In h₀) (T : Top p loose mean mg mb h₀) (hk : cs.kind = .function)
  (hv : StIn (InH h₀) v (.whl z b)) (hdp : dp + 12 < recursionLimit) (hu : un + 100 < cLine)
  (hret : ∀ t h' tk', Fr h₀ L h' m → s.heap.StaysIn h' → (HwS z).length ≤ 100 → Q (.str (HwS z) t) { s with heap := h', toks := tk' }) :
  wpAny (model PySem.Challenge.rw_on0123_01.row.prog w) (ktrTop dp un gd cn cs L a ccd cl outer) (PySem.call (.ref 168) [v]) Q E s := by
  revert X; k_fill; intro X
  refine wpAny_call ?_
  k_dflt ktr_enter
  rename_i g1 L1 h1 FG F1 N1 B1 X1 T1 hs1 lL
  cases hv with
  | whl hm hx hs =>
    rename_i l v1 v2 t u n
    have hT : IsTup g1 l _ := ⟨_, FG.keep _ _ hm, rfl, _, rfl⟩
    have hx1 : IdIn (InH g1) v1 z := hx.mono fun _ _ q => FG.keep _ _ q
    have hzl : (HwS z).length ≤ 100 := by cases z <;> decide +kernel
    k_steps
    all_goals exact retS (hret _ _ _ (by assumption) (fun b o e => Fr.keep (by assumption) b o (hs1 b o e)) hzl) (str_of (by simp only [q_append, q_empty, q_lit, lit_nil, List.append_assoc, List.nil_append, List.append_nil]))
theorem headf_ok {b : S} {w : World} {p : Program} {loose : List Str} {mean : ExcName → Option Value} {mg mb : Str → Option Value}
  {dp un : Nat} {gd : Option (List Code)} {cn : Str} {cs : Scope} {L a : Addr} {ccd : Value} {cl : List (Str × Addr)} {outer : List Env}
  {A₀ : Around} {base h₀ : Heap} {m : Str → Option Value} {s : Shared} {Q E : Value → Shared → Prop}
  {v : Value}
  (B : Below A₀ base outer h₀) (F : Fr h₀ L s.heap m) (X : (topK w.params).In h₀) (T : Top p loose mean mg mb h₀) (hk : cs.kind = .function)
  (hv : StIn (InH h₀) v (.fev b)) (hdp : dp + 12 < recursionLimit) (hu : un + 100 < cLine)
  (hret : ∀ t h' tk', Fr h₀ L h' m → s.heap.StaysIn h' → (Str.ofString "forever").length ≤ 100 → Q (.str (Str.ofString "forever") t) { s with heap := h', toks := tk' }) :
  wpAny (model PySem.Challenge.rw_on0123_01.row.prog w) (ktrTop dp un gd cn cs L a ccd cl outer) (PySem.call (.ref 168) [v]) Q E s := by
  revert X; k_fill; intro X
  refine wpAny_call ?_
  k_dflt ktr_enter
  rename_i g1 L1 h1 FG F1 N1 B1 X1 T1 hs1 lL
  cases hv with
  | fev hm hs =>
    rename_i l v1 t u n
    have hT : IsTup g1 l _ := ⟨_, FG.keep _ _ hm, rfl, _, rfl⟩
    k_steps
    all_goals exact hret _ _ _ (by assumption) (fun b o e => Fr.keep (by assumption) b o (hs1 b o e)) (by decide +kernel)
theorem innw_ok {w : World} {p : Program} {loose : List Str} {mean : ExcName → Option Value} {mg mb : Str → Option Value}
  {dp un : Nat} {gd : Option (List Code)} {cn : Str} {cs : Scope} {L a : Addr} {ccd : Value} {cl : List (Str × Addr)} {outer : List Env}
  {A₀ : Around} {base h₀ : Heap} {m : Str → Option Value} {s : Shared} {Q E : Value → Shared → Prop}
  {l : Addr} {v1 v2 : Value} {t u : Tok} {n : Nat}
  (B : Below A₀ base outer h₀) (F : Fr h₀ L s.heap m) (X : (topK w.params).In h₀) (T : Top p loose mean mg mb h₀) (hk : cs.kind = .function)
  (hv : InH h₀ l (tupO #[.str (Str.ofString "while") t, .int 0 u, v1, v2] n)) (hdp : dp + 12 < recursionLimit) (hu : un + 100 < cLine)
  (hret : ∀ h' tk', Fr h₀ L h' m → s.heap.StaysIn h' → Q v2 { s with heap := h', toks := tk' }) :
  wpAny (model PySem.Challenge.rw_on0123_01.row.prog w) (ktrTop dp un gd cn cs L a ccd cl outer) (PySem.call (.ref 175) [.ref l]) Q E s := by
  revert X; k_fill; intro X
  refine wpAny_call ?_
  k_dflt ktr_enter
  rename_i g1 L1 h1 FG F1 N1 B1 X1 T1 hs1 lL
  have hT : IsTup g1 l _ := ⟨_, FG.keep _ _ hv, rfl, _, rfl⟩
  k_steps
  all_goals exact hret _ _ (by assumption) (fun b o e => Fr.keep (by assumption) b o (hs1 b o e))
theorem innf_ok {w : World} {p : Program} {loose : List Str} {mean : ExcName → Option Value} {mg mb : Str → Option Value}
  {dp un : Nat} {gd : Option (List Code)} {cn : Str} {cs : Scope} {L a : Addr} {ccd : Value} {cl : List (Str × Addr)} {outer : List Env}
  {A₀ : Around} {base h₀ : Heap} {m : Str → Option Value} {s : Shared} {Q E : Value → Shared → Prop}
  {l : Addr} {v2 : Value} {t u : Tok} {n : Nat}
  (B : Below A₀ base outer h₀) (F : Fr h₀ L s.heap m) (X : (topK w.params).In h₀) (T : Top p loose mean mg mb h₀) (hk : cs.kind = .function)
  (hv : InH h₀ l (tupO #[.str (Str.ofString "forever") t, .int 0 u, v2] n)) (hdp : dp + 12 < recursionLimit) (hu : un + 100 < cLine)
  (hret : ∀ h' tk', Fr h₀ L h' m → s.heap.StaysIn h' → Q v2 { s with heap := h', toks := tk' }) :
  wpAny (model PySem.Challenge.rw_on0123_01.row.prog w) (ktrTop dp un gd cn cs L a ccd cl outer) (PySem.call (.ref 175) [.ref l]) Q E s := by
  revert X; k_fill; intro X
  refine wpAny_call ?_
  k_dflt ktr_enter
  rename_i g1 L1 h1 FG F1 N1 B1 X1 T1 hs1 lL
  have hT : IsTup g1 l _ := ⟨_, FG.keep _ _ hv, rfl, _, rfl⟩
  k_steps
  all_goals exact hret _ _ (by assumption) (fun b o e => Fr.keep (by assumption) b o (hs1 b o e))
end
local macro_rules | `(tactic| walk_at "no such key") => `(tactic| fail)
local macro_rules | `(tactic| walk_at "no such key") => `(tactic| fail)
local macro_rules | `(tactic| walk_at "no such key") => `(tactic| fail)

-- C8
local macro_rules | `(tactic| walk_at "call ref") => `(tactic| (k_here; (with_reducible show wpAny _ _ (PySem.call (Value.ref 119) _) _ _ _); (with_reducible rename News _ _ _ _ => kNo); k_dflt (refine' pad_ok ?B ?F ?X ?T ?hk ?i0 ?i1 ?d ?_; (case B => k_asm); (case F => k_asm); (case X => k_asm); (case T => k_asm); (case hk => first | exact rfl | assumption); (case i0 => omega); (case i1 => omega); (case d => ktr_room)); intro t' h' tk' F' hs' hl'; k_dflt (have N' := news_stays kNo hs'); (try k_sweep)))
local macro_rules | `(tactic| walk_at "call ref") => `(tactic| (k_here; (with_reducible show wpAny _ _ (PySem.call (Value.ref 112) _) _ _ _); (with_reducible rename News _ _ _ _ => kNo); k_dflt (refine' expr_ok _ ?B ?F ?X ?T ?hk ?v ?d ?u ?_; (case B => k_asm); (case F => k_asm); (case X => k_asm); (case T => k_asm); (case hk => first | exact rfl | assumption); (case v => (first | (with_reducible assumption) | exact IdIn.mono (fun _ _ q => Fr.keep (by assumption) _ _ q) (by assumption))); (case d => ktr_room); (case u => ktr_units)); intro t' h' tk' F' hs' hl'; k_dflt (have N' := news_stays kNo hs'); (try k_sweep)))
local macro_rules | `(tactic| walk_at "call ref") => `(tactic| (k_here; (with_reducible show wpAny _ _ (PySem.call (Value.ref 182) _) _ _ _); (with_reducible rename News _ _ _ _ => kNo); k_dflt (refine' simp_ok _ _ ?B ?F ?X ?T ?hk ?v ?d ?u ?_; (case B => k_asm); (case F => k_asm); (case X => k_asm); (case T => k_asm); (case hk => first | exact rfl | assumption); (case v => assumption); (case d => ktr_room); (case u => ktr_units)); intro t' h' tk' F' hs' hl'; k_dflt (have N' := news_stays kNo hs'); (try k_sweep)))
local macro_rules | `(tactic| walk_at "call ref") => `(tactic| (k_here; (with_reducible show wpAny _ _ (PySem.call (Value.ref 168) _) _ _ _); (with_reducible rename News _ _ _ _ => kNo); k_dflt (refine' headw_ok _ _ ?B ?F ?X ?T ?hk ?v ?d ?u ?_; (case B => k_asm); (case F => k_asm); (case X => k_asm); (case T => k_asm); (case hk => first | exact rfl | assumption); (case v => assumption); (case d => ktr_room); (case u => ktr_units)); intro t' h' tk' F' hs' hl'; k_dflt (have N' := news_stays kNo hs'); (try k_sweep)))
local macro_rules | `(tactic| walk_at "call ref") => `(tactic| (k_here; (with_reducible show wpAny _ _ (PySem.call (Value.ref 168) _) _ _ _); (with_reducible rename News _ _ _ _ => kNo); k_dflt (refine' headf_ok ?B ?F ?X ?T ?hk ?v ?d ?u ?_; (case B => k_asm); (case F => k_asm); (case X => k_asm); (case T => k_asm); (case hk => first | exact rfl | assumption); (case v => assumption); (case d => ktr_room); (case u => ktr_units)); intro t' h' tk' F' hs' hl'; k_dflt (have N' := news_stays kNo hs'); (try k_sweep)))
local macro_rules | `(tactic| walk_at "call ref") => `(tactic| (k_here; (with_reducible show wpAny _ _ (PySem.call (Value.ref 175) _) _ _ _); (with_reducible rename News _ _ _ _ => kNo); k_dflt (refine' innw_ok ?B ?F ?X ?T ?hk ?v ?d ?u ?_; (case B => k_asm); (case F => k_asm); (case X => k_asm); (case T => k_asm); (case hk => first | exact rfl | assumption); (case v => assumption); (case d => ktr_room); (case u => ktr_units)); intro  h' tk' F' hs'; k_dflt (have N' := news_stays kNo hs'); (try k_sweep)))
local macro_rules | `(tactic| walk_at "call ref") => `(tactic| (k_here; (with_reducible show wpAny _ _ (PySem.call (Value.ref 175) _) _ _ _); (with_reducible rename News _ _ _ _ => kNo); k_dflt (refine' innf_ok ?B ?F ?X ?T ?hk ?v ?d ?u ?_; (case B => k_asm); (case F => k_asm); (case X => k_asm); (case T => k_asm); (case hk => first | exact rfl | assumption); (case v => assumption); (case d => ktr_room); (case u => ktr_units)); intro  h' tk' F' hs'; k_dflt (have N' := news_stays kNo hs'); (try k_sweep)))
def TextOK (σ : S) : Prop := ∀ {w : World} {p : Program} {loose : List Str} {mean : ExcName → Option Value} {mg mb : Str → Option Value}
  {dp un : Nat} {gd : Option (List Code)} {cn : Str} {cs : Scope} {L a : Addr} {ccd : Value} {cl : List (Str × Addr)} {outer : List Env}
  {A₀ : Around} {base h₀ : Heap} {m : Str → Option Value} {s : Shared} {Q E : Value → Shared → Prop}
  {v : Value} {i : Int} {ti : Tok} {c : Bool} {k : Nat} {args : List Value} (ha : args = [v, .int i ti, .bool c] ∨ (args = [v, .int i ti] ∧ c = false))
  (B : Below A₀ base outer h₀) (F : Fr h₀ L s.heap m) (X : (topK w.params).In h₀) (T : Top p loose mean mg mb h₀) (hk : cs.kind = .function)
  (hv : StIn (InH h₀) v σ) (hi0 : 0 ≤ i) (hi1 : i + (k : Int) ≤ 12) (hht : S.ht σ ≤ k) (hk6 : k ≤ 6)
  (hdp : dp + (4 * k + 14) < recursionLimit) (hu : un + 8 * (4 * k + 16) < cLine)
  (hret : ∀ t h' tk', Fr h₀ L h' m → s.heap.StaysIn h' → (Tx σ i c).length ≤ 30000 → Q (.str (Tx σ i c) t) { s with heap := h', toks := tk' }),
  wpAny (model PySem.Challenge.rw_on0123_01.row.prog w) (ktrTop dp un gd cn cs L a ccd cl outer) (PySem.call (.ref 190) args) Q E s
theorem TextOK.use {σ : S} {w : World} {p : Program} {loose : List Str} {mean : ExcName → Option Value} {mg mb : Str → Option Value}
  {dp un : Nat} {gd : Option (List Code)} {cn : Str} {cs : Scope} {L a : Addr} {ccd : Value} {cl : List (Str × Addr)} {outer : List Env}
  {A₀ : Around} {base h₀ : Heap} {m : Str → Option Value} {s : Shared} {Q E : Value → Shared → Prop}
  {v : Value} {i : Int} {ti : Tok} {c : Bool} {k : Nat} {args : List Value}
  (B : Below A₀ base outer h₀) (F : Fr h₀ L s.heap m) (X : (topK w.params).In h₀) (T : Top p loose mean mg mb h₀) (hk : cs.kind = .function)
  (hv : StIn (InH h₀) v σ) (ih : TextOK σ) (hht : S.ht σ ≤ k) (ha : args = [v, .int i ti, .bool c] ∨ (args = [v, .int i ti] ∧ c = false)) (hi0 : 0 ≤ i) (hi1 : i + (k : Int) ≤ 12) (hk6 : k ≤ 6)
  (hdp : dp + (4 * k + 14) < recursionLimit) (hu : un + 8 * (4 * k + 16) < cLine)
  (hret : ∀ t h' tk', Fr h₀ L h' m → s.heap.StaysIn h' → (Tx σ i c).length ≤ 30000 → Q (.str (Tx σ i c) t) { s with heap := h', toks := tk' }) :
  wpAny (model PySem.Challenge.rw_on0123_01.row.prog w) (ktrTop dp un gd cn cs L a ccd cl outer) (PySem.call (.ref 190) args) Q E s := ih (ti := ti) ha B F X T hk hv hi0 hi1 hht hk6 hdp hu hret
def IfT (σ : S) : Prop := ∀ {w : World} {p : Program} {loose : List Str} {mean : ExcName → Option Value} {mg mb : Str → Option Value}
  {dp un : Nat} {gd : Option (List Code)} {cn : Str} {cs : Scope} {L a : Addr} {ccd : Value} {cl : List (Str × Addr)} {outer : List Env}
  {A₀ : Around} {base h₀ : Heap} {m : Str → Option Value} {s : Shared} {Q E : Value → Shared → Prop}
  {v : Value} {i : Int} {ti : Tok} {c : Bool} {k : Nat} {args : List Value} (ha : args = [v, .int i ti, .bool c])
  (B : Below A₀ base outer h₀) (F : Fr h₀ L s.heap m) (X : (topK w.params).In h₀) (T : Top p loose mean mg mb h₀) (hk : cs.kind = .function)
  (hv : StIn (InH h₀) v σ) (hi0 : 0 ≤ i) (hi1 : i + (k : Int) ≤ 12) (hht : S.ht σ ≤ k) (hk6 : k ≤ 6)
  (hdp : dp + (4 * k + 13) < recursionLimit) (hu : un + 8 * (4 * k + 15) < cLine)
  (hret : ∀ t h' tk', Fr h₀ L h' m → s.heap.StaysIn h' → (Tx σ i c).length ≤ 30000 → Q (.str (Tx σ i c) t) { s with heap := h', toks := tk' }),
  wpAny (model PySem.Challenge.rw_on0123_01.row.prog w) (ktrTop dp un gd cn cs L a ccd cl outer) (PySem.call (.ref 154) args) Q E s
theorem IfT.use {σ : S} {w : World} {p : Program} {loose : List Str} {mean : ExcName → Option Value} {mg mb : Str → Option Value}
  {dp un : Nat} {gd : Option (List Code)} {cn : Str} {cs : Scope} {L a : Addr} {ccd : Value} {cl : List (Str × Addr)} {outer : List Env}
  {A₀ : Around} {base h₀ : Heap} {m : Str → Option Value} {s : Shared} {Q E : Value → Shared → Prop}
  {v : Value} {i : Int} {ti : Tok} {c : Bool} {k : Nat} {args : List Value}
  (B : Below A₀ base outer h₀) (F : Fr h₀ L s.heap m) (X : (topK w.params).In h₀) (T : Top p loose mean mg mb h₀) (hk : cs.kind = .function)
  (hv : StIn (InH h₀) v σ) (ih : IfT σ) (hht : S.ht σ ≤ k) (ha : args = [v, .int i ti, .bool c]) (hi0 : 0 ≤ i) (hi1 : i + (k : Int) ≤ 12) (hk6 : k ≤ 6)
  (hdp : dp + (4 * k + 13) < recursionLimit) (hu : un + 8 * (4 * k + 15) < cLine)
  (hret : ∀ t h' tk', Fr h₀ L h' m → s.heap.StaysIn h' → (Tx σ i c).length ≤ 30000 → Q (.str (Tx σ i c) t) { s with heap := h', toks := tk' }) :
  wpAny (model PySem.Challenge.rw_on0123_01.row.prog w) (ktrTop dp un gd cn cs L a ccd cl outer) (PySem.call (.ref 154) args) Q E s := ih (ti := ti) ha B F X T hk hv hi0 hi1 hht hk6 hdp hu hret
def BlkT (σ : S) : Prop := ∀ {w : World} {p : Program} {loose : List Str} {mean : ExcName → Option Value} {mg mb : Str → Option Value}
  {dp un : Nat} {gd : Option (List Code)} {cn : Str} {cs : Scope} {L a : Addr} {ccd : Value} {cl : List (Str × Addr)} {outer : List Env}
  {A₀ : Around} {base h₀ : Heap} {m : Str → Option Value} {s : Shared} {Q E : Value → Shared → Prop}
  {v : Value} {i : Int} {ti : Tok} {c : Bool} {k : Nat} {args : List Value} (ha : args = [v, .int i ti] ∧ c = false)
  (B : Below A₀ base outer h₀) (F : Fr h₀ L s.heap m) (X : (topK w.params).In h₀) (T : Top p loose mean mg mb h₀) (hk : cs.kind = .function)
  (hv : StIn (InH h₀) v σ) (hi0 : 0 ≤ i) (hi1 : i + (k : Int) ≤ 12) (hht : S.ht σ ≤ k) (hk6 : k ≤ 6)
  (hdp : dp + (4 * k + 13) < recursionLimit) (hu : un + 8 * (4 * k + 15) < cLine)
  (hret : ∀ t h' tk', Fr h₀ L h' m → s.heap.StaysIn h' → (Tx σ i c).length ≤ 30000 → Q (.str (Tx σ i c) t) { s with heap := h', toks := tk' }),
  wpAny (model PySem.Challenge.rw_on0123_01.row.prog w) (ktrTop dp un gd cn cs L a ccd cl outer) (PySem.call (.ref 147) args) Q E s
theorem BlkT.use {σ : S} {w : World} {p : Program} {loose : List Str} {mean : ExcName → Option Value} {mg mb : Str → Option Value}
  {dp un : Nat} {gd : Option (List Code)} {cn : Str} {cs : Scope} {L a : Addr} {ccd : Value} {cl : List (Str × Addr)} {outer : List Env}
  {A₀ : Around} {base h₀ : Heap} {m : Str → Option Value} {s : Shared} {Q E : Value → Shared → Prop}
  {v : Value} {i : Int} {ti : Tok} {c : Bool} {k : Nat} {args : List Value}
  (B : Below A₀ base outer h₀) (F : Fr h₀ L s.heap m) (X : (topK w.params).In h₀) (T : Top p loose mean mg mb h₀) (hk : cs.kind = .function)
  (hv : StIn (InH h₀) v σ) (ih : BlkT σ) (hht : S.ht σ ≤ k) (ha : args = [v, .int i ti] ∧ c = false) (hi0 : 0 ≤ i) (hi1 : i + (k : Int) ≤ 12) (hk6 : k ≤ 6)
  (hdp : dp + (4 * k + 13) < recursionLimit) (hu : un + 8 * (4 * k + 15) < cLine)
  (hret : ∀ t h' tk', Fr h₀ L h' m → s.heap.StaysIn h' → (Tx σ i c).length ≤ 30000 → Q (.str (Tx σ i c) t) { s with heap := h', toks := tk' }) :
  wpAny (model PySem.Challenge.rw_on0123_01.row.prog w) (ktrTop dp un gd cn cs L a ccd cl outer) (PySem.call (.ref 147) args) Q E s := ih (ti := ti) ha B F X T hk hv hi0 hi1 hht hk6 hdp hu hret
local macro_rules | `(tactic| walk_at "call ref") => `(tactic| (k_here; (with_reducible show wpAny _ _ (PySem.call (Value.ref 190) _) _ _ _); (with_reducible rename News _ _ _ _ => kNo); k_dflt (refine' TextOK.use ?B ?F ?X ?T ?hk ?v ?ih ?ht ?ar ?i0 ?i1 ?k6 ?d ?u ?_; (case ar => first | exact Or.inl rfl | exact Or.inr ⟨rfl, rfl⟩); (case v => with_reducible assumption); (case ih => with_reducible assumption); (case ht => with_reducible assumption); (case B => k_asm); (case F => k_asm); (case X => k_asm); (case T => k_asm); (case hk => first | exact rfl | assumption); (case i0 => omega); (case i1 => omega); (case k6 => omega); (case d => ktr_room); (case u => ktr_units)); intro t' h' tk' F' hs' hl'; k_dflt (have N' := news_stays kNo hs'); (try k_sweep)))
local macro_rules | `(tactic| walk_at "call ref") => `(tactic| (k_here; (with_reducible show wpAny _ _ (PySem.call (Value.ref 154) _) _ _ _); (with_reducible rename News _ _ _ _ => kNo); k_dflt (refine' IfT.use ?B ?F ?X ?T ?hk ?v ?ih ?ht ?ar ?i0 ?i1 ?k6 ?d ?u ?_; (case ar => exact rfl); (case v => with_reducible assumption); (case ih => with_reducible assumption); (case ht => with_reducible assumption); (case B => k_asm); (case F => k_asm); (case X => k_asm); (case T => k_asm); (case hk => first | exact rfl | assumption); (case i0 => omega); (case i1 => omega); (case k6 => omega); (case d => ktr_room); (case u => ktr_units)); intro t' h' tk' F' hs' hl'; k_dflt (have N' := news_stays kNo hs'); (try k_sweep)))
local macro_rules | `(tactic| walk_at "call ref") => `(tactic| (k_here; (with_reducible show wpAny _ _ (PySem.call (Value.ref 147) _) _ _ _); (with_reducible rename News _ _ _ _ => kNo); k_dflt (refine' BlkT.use ?B ?F ?X ?T ?hk ?v ?ih ?ht ?ar ?i0 ?i1 ?k6 ?d ?u ?_; (case ar => exact ⟨rfl, rfl⟩); (case v => with_reducible assumption); (case ih => with_reducible assumption); (case ht => with_reducible assumption); (case B => k_asm); (case F => k_asm); (case X => k_asm); (case T => k_asm); (case hk => first | exact rfl | assumption); (case i0 => omega); (case i1 => omega); (case k6 => omega); (case d => ktr_room); (case u => ktr_units)); intro t' h' tk' F' hs' hl'; k_dflt (have N' := news_stays kNo hs'); (try k_sweep)))
theorem text_none   : TextOK (.none) := by
  unfold TextOK
  intro w p loose mean mg mb dp un gd cn cs L a ccd cl outer A₀ base h₀ m s Q E v i ti c k args ha B F X T hk hv hi0 hi1 hht hk6 hdp hu hret
  have hTl := tx_len _ i c hi0 hht hk6 hi1
  revert X; k_fill; intro X
  refine wpAny_call ?_
  k_dflt (refine' code_defP (binds := [(Str.ofString "s", v), (Str.ofString "indent", .int i ti), (Str.ofString "closed", .bool c)]) ?k1 ?k2 ?k3 ?k5 ?kA ?kF ?kK ?k6 ?k7 ?k8 ?k9 ?kB ?_ ?c2 ?c3 ?c4 ?c5; (case kA => exact rfl); (case kF => exact rfl); (case kK => assumption); (case k1 => k_asm); (case k2 => k_asm); (case k3 => k_asm); (case k5 => k_asm); (case k6 => k_is); (case k7 => k_is); (case k8 => ktr_room); (case k9 => (rcases ha with rfl | ⟨rfl, rfl⟩ <;> exact binds_K (by k_in) rfl (by k_is) rfl rfl rfl)); (case c5 => decide); (case kB => exact locs rfl); (case c2 => exact rfl); (case c3 => exact rfl); (case c4 => exact rfl); k_whole; intro g1 L1 h1 FG F1 N1 B1 X1 T1 hs1 lL; (try dsimp only); (try k_fold))
  clear hht
  cases hv
  k_steps
  all_goals exact retS (hret _ _ _ (by assumption) (fun b o e => Fr.keep (by assumption) b o (hs1 b o e)) hTl) (str_of (by simp only [q_append, q_empty, q_lit, lit_nil, q_tx, q_sx, q_hw, TL, List.append_assoc, List.nil_append, List.append_nil, if_true, if_false, Bool.false_eq_true]))
theorem text_set (x y : Lt)  : TextOK (.set x y) := by
  unfold TextOK
  intro w p loose mean mg mb dp un gd cn cs L a ccd cl outer A₀ base h₀ m s Q E v i ti c k args ha B F X T hk hv hi0 hi1 hht hk6 hdp hu hret
  have hTl := tx_len _ i c hi0 hht hk6 hi1
  revert X; k_fill; intro X
  refine wpAny_call ?_
  k_dflt (refine' code_defP (binds := [(Str.ofString "s", v), (Str.ofString "indent", .int i ti), (Str.ofString "closed", .bool c)]) ?k1 ?k2 ?k3 ?k5 ?kA ?kF ?kK ?k6 ?k7 ?k8 ?k9 ?kB ?_ ?c2 ?c3 ?c4 ?c5; (case kA => exact rfl); (case kF => exact rfl); (case kK => assumption); (case k1 => k_asm); (case k2 => k_asm); (case k3 => k_asm); (case k5 => k_asm); (case k6 => k_is); (case k7 => k_is); (case k8 => ktr_room); (case k9 => (rcases ha with rfl | ⟨rfl, rfl⟩ <;> exact binds_K (by k_in) rfl (by k_is) rfl rfl rfl)); (case c5 => decide); (case kB => exact locs rfl); (case c2 => exact rfl); (case c3 => exact rfl); (case c4 => exact rfl); k_whole; intro g1 L1 h1 FG F1 N1 B1 X1 T1 hs1 lL; (try dsimp only); (try k_fold))
  clear hht
  have hv1 := hv.mono (P' := InH g1) fun _ _ q => FG.keep _ _ q
  cases hv with
  | set hm hx hy =>
    rename_i l v1 v2 t u n
    have hT : IsTup g1 l _ := ⟨_, FG.keep _ _ hm, rfl, _, rfl⟩
    k_steps
    all_goals exact retS (hret _ _ _ (by assumption) (fun b o e => Fr.keep (by assumption) b o (hs1 b o e)) hTl) (str_of (by simp only [q_append, q_empty, q_lit, lit_nil, q_tx, q_sx, q_hw, TL, List.append_assoc, List.nil_append, List.append_nil, if_true, if_false, Bool.false_eq_true]))
theorem text_whl (z : Lt) (b : S) (ih : TextOK b) : TextOK (.whl z b) := by
  unfold TextOK
  intro w p loose mean mg mb dp un gd cn cs L a ccd cl outer A₀ base h₀ m s Q E v i ti c k args ha B F X T hk hv hi0 hi1 hht hk6 hdp hu hret
  have hTl := tx_len _ i c hi0 hht hk6 hi1
  revert X; k_fill; intro X
  refine wpAny_call ?_
  k_dflt (refine' code_defP (binds := [(Str.ofString "s", v), (Str.ofString "indent", .int i ti), (Str.ofString "closed", .bool c)]) ?k1 ?k2 ?k3 ?k5 ?kA ?kF ?kK ?k6 ?k7 ?k8 ?k9 ?kB ?_ ?c2 ?c3 ?c4 ?c5; (case kA => exact rfl); (case kF => exact rfl); (case kK => assumption); (case k1 => k_asm); (case k2 => k_asm); (case k3 => k_asm); (case k5 => k_asm); (case k6 => k_is); (case k7 => k_is); (case k8 => ktr_room); (case k9 => (rcases ha with rfl | ⟨rfl, rfl⟩ <;> exact binds_K (by k_in) rfl (by k_is) rfl rfl rfl)); (case c5 => decide); (case kB => exact locs rfl); (case c2 => exact rfl); (case c3 => exact rfl); (case c4 => exact rfl); k_whole; intro g1 L1 h1 FG F1 N1 B1 X1 T1 hs1 lL; (try dsimp only); (try k_fold))
  have hv1 := hv.mono (P' := InH g1) fun _ _ q => FG.keep _ _ q
  simp only [S.ht] at hht
  obtain ⟨k, rfl⟩ : ∃ k', k = k' + 1 := ⟨k - 1, by omega⟩
  have hb : S.ht b ≤ k := by omega
  clear hht
  cases hv with
  | whl hm hx hs =>
    rename_i l v1 v2 t u n
    have hs2 := hs.mono (P' := InH g1) fun _ _ q => FG.keep _ _ q
    have hm1 : InH g1 l _ := FG.keep _ _ hm
    have hT : IsTup g1 l _ := ⟨_, FG.keep _ _ hm, rfl, _, rfl⟩
    k_steps
    all_goals exact retS (hret _ _ _ (by assumption) (fun b o e => Fr.keep (by assumption) b o (hs1 b o e)) hTl) (str_of (by simp only [q_append, q_empty, q_lit, lit_nil, q_tx, q_sx, q_hw, TL, List.append_assoc, List.nil_append, List.append_nil, if_true, if_false, Bool.false_eq_true]))
theorem text_fev (b : S) (ih : TextOK b) : TextOK (.fev b) := by
  unfold TextOK
  intro w p loose mean mg mb dp un gd cn cs L a ccd cl outer A₀ base h₀ m s Q E v i ti c k args ha B F X T hk hv hi0 hi1 hht hk6 hdp hu hret
  have hTl := tx_len _ i c hi0 hht hk6 hi1
  revert X; k_fill; intro X
  refine wpAny_call ?_
  k_dflt (refine' code_defP (binds := [(Str.ofString "s", v), (Str.ofString "indent", .int i ti), (Str.ofString "closed", .bool c)]) ?k1 ?k2 ?k3 ?k5 ?kA ?kF ?kK ?k6 ?k7 ?k8 ?k9 ?kB ?_ ?c2 ?c3 ?c4 ?c5; (case kA => exact rfl); (case kF => exact rfl); (case kK => assumption); (case k1 => k_asm); (case k2 => k_asm); (case k3 => k_asm); (case k5 => k_asm); (case k6 => k_is); (case k7 => k_is); (case k8 => ktr_room); (case k9 => (rcases ha with rfl | ⟨rfl, rfl⟩ <;> exact binds_K (by k_in) rfl (by k_is) rfl rfl rfl)); (case c5 => decide); (case kB => exact locs rfl); (case c2 => exact rfl); (case c3 => exact rfl); (case c4 => exact rfl); k_whole; intro g1 L1 h1 FG F1 N1 B1 X1 T1 hs1 lL; (try dsimp only); (try k_fold))
  have hv1 := hv.mono (P' := InH g1) fun _ _ q => FG.keep _ _ q
  simp only [S.ht] at hht
  obtain ⟨k, rfl⟩ : ∃ k', k = k' + 1 := ⟨k - 1, by omega⟩
  have hb : S.ht b ≤ k := by omega
  clear hht
  cases hv with
  | fev hm hs =>
    rename_i l v2 t u n
    have hs2 := hs.mono (P' := InH g1) fun _ _ q => FG.keep _ _ q
    have hm1 : InH g1 l _ := FG.keep _ _ hm
    have hT : IsTup g1 l _ := ⟨_, FG.keep _ _ hm, rfl, _, rfl⟩
    k_steps
    all_goals exact retS (hret _ _ _ (by assumption) (fun b o e => Fr.keep (by assumption) b o (hs1 b o e)) hTl) (str_of (by simp only [q_append, q_empty, q_lit, lit_nil, q_tx, q_sx, q_hw, TL, List.append_assoc, List.nil_append, List.append_nil, if_true, if_false, Bool.false_eq_true]))

-- C9
local macro_rules | `(tactic| walk_at "exec For Name Subscript") => `(tactic| (k_here; (rename Fr _ _ _ _ => lF'); (with_unfolding_all refine' For_turns lF' ?_; k_whole)))
local macro_rules | `(tactic| walk_at "pyIter ref") => `(tactic| (k_here; (with_reducible show wpAny _ _ (pyIter (Value.ref _)) (fun it s₂ => TurnsAt _ _ _ _ _ _ _ _ _ it s₂) _ _); (with_unfolding_all refine' iter_tupB ?h ?F ?N ?g ?z ?_; (case h => with_unfolding_all rfl); (case F => k_asm); (case N => k_asm); (case g => assumption); (case z => exact Nat.le_of_ble_eq_true rfl); k_whole); intro i' l1; (try k_lt l1)))
local macro_rules | `(tactic| walk_at "call builtin:str.join") => `(tactic| (k_here; (with_reducible show wpAny _ _ (PySem.call (Value.builtin "str.join") [Value.str _ _, Value.ref _]) _ _ _); k_dflt (refine' join_listW ?l ?i ?s ?w ?_; (case l => exact News.isList (by k_asm) (by k_mem)); (case i => first | exact .cons _ _ (.cons _ _ (.cons _ _ .nil)) | exact .cons _ _ (.cons _ _ (.cons _ _ (.cons _ _ .nil))) | exact .cons _ _ (.cons _ _ (.cons _ _ (.cons _ _ (.cons _ _ .nil))))); (case s => decide +kernel); (case w => (simp only [List.map_cons, List.map_nil, List.sum_cons, List.sum_nil, List.length_cons, List.length_nil, Str.length_append, len_begin, len_end, len_nl]; omega))); intro _ _))
theorem blk0_ok   : BlkT (.blk0) := by
  unfold BlkT
  intro w p loose mean mg mb dp un gd cn cs L a ccd cl outer A₀ base h₀ m s Q E v i ti c k args ha B F X T hk hv hi0 hi1 hht hk6 hdp hu hret
  obtain ⟨ha, hcf⟩ := ha
  subst hcf
  have hTl := tx_len _ i false hi0 hht hk6 hi1
  subst ha
  revert X; k_fill; intro X
  refine wpAny_call ?_
  k_dflt ktr_enter
  rename_i g1 L1 h1 FG F1 N1 B1 X1 T1 hs1 lL
  clear hht
  cases hv with
  | blk0 hm he hb =>
    rename_i l e b t u n n1 n2
    have hT : IsTup g1 l _ := ⟨_, FG.keep _ _ hm, rfl, _, rfl⟩
    have hTe : g1.get? e = _ := FG.keep _ _ he
    have hTb : g1.get? b = _ := FG.keep _ _ hb
    k_steps
    all_goals exact retS (hret _ _ _ (by assumption) (fun b o e => Fr.keep (by assumption) b o (hs1 b o e)) hTl) (str_of (by simp only [q_join0, List.map_cons, List.map_nil, List.flatten_cons, List.flatten_nil, q_append, q_empty, q_lit, lit_nil, q_tx, q_sx, q_hw, TL, List.append_assoc, List.nil_append, List.append_nil, if_true, if_false, Bool.false_eq_true]))
theorem ift_ok (z : Lt) (b o : S) (ih : TextOK b) (io : TextOK o) : IfT (.ite z b o) := by
  unfold IfT
  intro w p loose mean mg mb dp un gd cn cs L a ccd cl outer A₀ base h₀ m s Q E v i ti c k args ha B F X T hk hv hi0 hi1 hht hk6 hdp hu hret
  have hTl := tx_len _ i c hi0 hht hk6 hi1
  subst ha
  revert X; k_fill; intro X
  refine wpAny_call ?_
  k_dflt ktr_enter
  rename_i g1 L1 h1 FG F1 N1 B1 X1 T1 hs1 lL
  simp only [S.ht] at hht
  obtain ⟨k, rfl⟩ : ∃ k', k = k' + 1 := ⟨k - 1, by omega⟩
  have hb : S.ht b ≤ k := by omega
  have ho : S.ht o ≤ k := by omega
  clear hht
  cases hv with
  | ite hm hx hsA hsB =>
    rename_i l v v1 v2 t u n
    have hx1 : IdIn (InH g1) v z := hx.mono fun _ _ q => FG.keep _ _ q
    have hv1 := hsA.mono (P' := InH g1) fun _ _ q => FG.keep _ _ q
    have hv2 := hsB.mono (P' := InH g1) fun _ _ q => FG.keep _ _ q
    have hv0 : StIn (InH g1) (.ref l) (.ite z b o) := .ite (FG.keep _ _ hm) hx1 hv1 hv2
    have hT : IsTup g1 l _ := ⟨_, FG.keep _ _ hm, rfl, _, rfl⟩
    clear hv0
    by_cases hO : o = .none
    · subst hO
      cases hsB
      clear ho io hv2
      k_steps
      · exact retS (hret _ _ _ (by assumption) (fun b o e => Fr.keep (by assumption) b o (hs1 b o e)) hTl) (str_of (by (first | (rename (c = true) => hc9; subst hc9) | (rename (c = false) => hc9; subst hc9) | (rename (¬ c = true) => hc9; (have hc8 := Bool.eq_false_of_not_eq_true hc9); subst hc8)); rw [tl_if0]; simp only [q_append, q_empty, q_lit, lit_nil, q_tx, q_sx, q_hw, List.append_assoc, List.nil_append, List.append_nil, if_true, if_false, Bool.false_eq_true]))
      · exact retS (hret _ _ _ (by assumption) (fun b o e => Fr.keep (by assumption) b o (hs1 b o e)) hTl) (str_of (by (first | (rename (c = true) => hc9; subst hc9) | (rename (c = false) => hc9; subst hc9) | (rename (¬ c = true) => hc9; (have hc8 := Bool.eq_false_of_not_eq_true hc9); subst hc8)); rw [tl_if0]; simp only [q_append, q_empty, q_lit, lit_nil, q_tx, q_sx, q_hw, List.append_assoc, List.nil_append, List.append_nil, if_true, if_false, Bool.false_eq_true]))
    · obtain ⟨a2, rfl⟩ := st_ref hsB hO
      k_steps
      all_goals exact retS (hret _ _ _ (by assumption) (fun b o e => Fr.keep (by assumption) b o (hs1 b o e)) hTl) (str_of (by rw [tl_ite hO]; simp only [q_append, q_empty, q_lit, lit_nil, q_tx, q_sx, q_hw, List.append_assoc, List.nil_append, List.append_nil, if_true, if_false, Bool.false_eq_true]))
theorem blk1_ok (σ : S) (ih : TextOK σ) : BlkT (.blk1 σ) := by
  unfold BlkT
  intro w p loose mean mg mb dp un gd cn cs L a ccd cl outer A₀ base h₀ m s Q E v i ti c k args ha B F X T hk hv hi0 hi1 hht hk6 hdp hu hret
  obtain ⟨ha, hcf⟩ := ha
  subst hcf
  have hTl := tx_len _ i false hi0 hht hk6 hi1
  subst ha
  revert X; k_fill; intro X
  refine wpAny_call ?_
  k_dflt ktr_enter
  rename_i g1 L1 h1 FG F1 N1 B1 X1 T1 hs1 lL
  simp only [S.ht] at hht
  obtain ⟨k, rfl⟩ : ∃ k', k = k' + 1 := ⟨k - 1, by omega⟩
  have hs1' : S.ht σ ≤ k := by omega
  clear hht
  cases hv with
  | blk1 hm he hb hs =>
    rename_i l e b v1 t u n n1 n2
    have hT : IsTup g1 l _ := ⟨_, FG.keep _ _ hm, rfl, _, rfl⟩
    have hTe : g1.get? e = _ := FG.keep _ _ he
    have hTb : g1.get? b = _ := FG.keep _ _ hb
    have hv1 := hs.mono (P' := InH g1) fun _ _ q => FG.keep _ _ q
    k_steps
    all_goals exact retS (hret _ _ _ (by assumption) (fun b o e => Fr.keep (by assumption) b o (hs1 b o e)) hTl) (str_of (by simp only [q_join0, List.map_cons, List.map_nil, List.flatten_cons, List.flatten_nil, q_append, q_empty, q_lit, lit_nil, q_tx, q_sx, q_hw, TL, List.append_assoc, List.nil_append, List.append_nil, if_true, if_false, Bool.false_eq_true]))
theorem blk2_ok (σ τ : S) (ih : TextOK σ) (ih' : TextOK τ) : BlkT (.blk2 σ τ) := by
  unfold BlkT
  intro w p loose mean mg mb dp un gd cn cs L a ccd cl outer A₀ base h₀ m s Q E v i ti c k args ha B F X T hk hv hi0 hi1 hht hk6 hdp hu hret
  obtain ⟨ha, hcf⟩ := ha
  subst hcf
  have hTl := tx_len _ i false hi0 hht hk6 hi1
  subst ha
  revert X; k_fill; intro X
  refine wpAny_call ?_
  k_dflt ktr_enter
  rename_i g1 L1 h1 FG F1 N1 B1 X1 T1 hs1 lL
  simp only [S.ht] at hht
  obtain ⟨k, rfl⟩ : ∃ k', k = k' + 1 := ⟨k - 1, by omega⟩
  have hs1' : S.ht σ ≤ k := by omega
  have hs2' : S.ht τ ≤ k := by omega
  clear hht
  cases hv with
  | blk2 hm he hb hs hs' =>
    rename_i l e b v1 v2 t u n n1 n2
    have hT : IsTup g1 l _ := ⟨_, FG.keep _ _ hm, rfl, _, rfl⟩
    have hTe : g1.get? e = _ := FG.keep _ _ he
    have hTb : g1.get? b = _ := FG.keep _ _ hb
    have hv1 := hs.mono (P' := InH g1) fun _ _ q => FG.keep _ _ q
    have hv2 := hs'.mono (P' := InH g1) fun _ _ q => FG.keep _ _ q
    k_steps
    all_goals exact retS (hret _ _ _ (by assumption) (fun b o e => Fr.keep (by assumption) b o (hs1 b o e)) hTl) (str_of (by simp only [q_join0, List.map_cons, List.map_nil, List.flatten_cons, List.flatten_nil, q_append, q_empty, q_lit, lit_nil, q_tx, q_sx, q_hw, TL, List.append_assoc, List.nil_append, List.append_nil, if_true, if_false, Bool.false_eq_true]))

-- C10
theorem text_ite (z : Lt) (b o : S) (ih : IfT (.ite z b o)) : TextOK (.ite z b o) := by
  unfold TextOK
  intro w p loose mean mg mb dp un gd cn cs L a ccd cl outer A₀ base h₀ m s Q E v i ti c k args ha B F X T hk hv hi0 hi1 hht hk6 hdp hu hret
  have hTl := tx_len _ i c hi0 hht hk6 hi1
  revert X; k_fill; intro X
  refine wpAny_call ?_
  k_dflt (refine' code_defP (binds := [(Str.ofString "s", v), (Str.ofString "indent", .int i ti), (Str.ofString "closed", .bool c)]) ?k1 ?k2 ?k3 ?k5 ?kA ?kF ?kK ?k6 ?k7 ?k8 ?k9 ?kB ?_ ?c2 ?c3 ?c4 ?c5; (case kA => exact rfl); (case kF => exact rfl); (case kK => assumption); (case k1 => k_asm); (case k2 => k_asm); (case k3 => k_asm); (case k5 => k_asm); (case k6 => k_is); (case k7 => k_is); (case k8 => ktr_room); (case k9 => (rcases ha with rfl | ⟨rfl, rfl⟩ <;> exact binds_K (by k_in) rfl (by k_is) rfl rfl rfl)); (case c5 => decide); (case kB => exact locs rfl); (case c2 => exact rfl); (case c3 => exact rfl); (case c4 => exact rfl); k_whole; intro g1 L1 h1 FG F1 N1 B1 X1 T1 hs1 lL; (try dsimp only); (try k_fold))
  have hv1 := hv.mono (P' := InH g1) fun _ _ q => FG.keep _ _ q
  cases hv with
  | ite hm hx hsA hsB =>
    rename_i l v v1 v2 t u n
    have hT : IsTup g1 l _ := ⟨_, FG.keep _ _ hm, rfl, _, rfl⟩
    k_steps
    all_goals exact hret _ _ _ (by assumption) (fun b o e => Fr.keep (by assumption) b o (hs1 b o e)) hTl
theorem text_blk0  (ih : BlkT (.blk0)) : TextOK (.blk0) := by
  unfold TextOK
  intro w p loose mean mg mb dp un gd cn cs L a ccd cl outer A₀ base h₀ m s Q E v i ti c k args ha B F X T hk hv hi0 hi1 hht hk6 hdp hu hret
  have hTl := tx_len _ i c hi0 hht hk6 hi1
  revert X; k_fill; intro X
  refine wpAny_call ?_
  k_dflt (refine' code_defP (binds := [(Str.ofString "s", v), (Str.ofString "indent", .int i ti), (Str.ofString "closed", .bool c)]) ?k1 ?k2 ?k3 ?k5 ?kA ?kF ?kK ?k6 ?k7 ?k8 ?k9 ?kB ?_ ?c2 ?c3 ?c4 ?c5; (case kA => exact rfl); (case kF => exact rfl); (case kK => assumption); (case k1 => k_asm); (case k2 => k_asm); (case k3 => k_asm); (case k5 => k_asm); (case k6 => k_is); (case k7 => k_is); (case k8 => ktr_room); (case k9 => (rcases ha with rfl | ⟨rfl, rfl⟩ <;> exact binds_K (by k_in) rfl (by k_is) rfl rfl rfl)); (case c5 => decide); (case kB => exact locs rfl); (case c2 => exact rfl); (case c3 => exact rfl); (case c4 => exact rfl); k_whole; intro g1 L1 h1 FG F1 N1 B1 X1 T1 hs1 lL; (try dsimp only); (try k_fold))
  have hv1 := hv.mono (P' := InH g1) fun _ _ q => FG.keep _ _ q
  cases hv with
  | blk0 hm he hb =>
    rename_i l e b t u n n1 n2
    have hT : IsTup g1 l _ := ⟨_, FG.keep _ _ hm, rfl, _, rfl⟩
    k_steps
    all_goals exact hret _ _ _ (by assumption) (fun b o e => Fr.keep (by assumption) b o (hs1 b o e)) hTl
theorem text_blk1 (σ : S) (ih : BlkT (.blk1 σ)) : TextOK (.blk1 σ) := by
  unfold TextOK
  intro w p loose mean mg mb dp un gd cn cs L a ccd cl outer A₀ base h₀ m s Q E v i ti c k args ha B F X T hk hv hi0 hi1 hht hk6 hdp hu hret
  have hTl := tx_len _ i c hi0 hht hk6 hi1
  revert X; k_fill; intro X
  refine wpAny_call ?_
  k_dflt (refine' code_defP (binds := [(Str.ofString "s", v), (Str.ofString "indent", .int i ti), (Str.ofString "closed", .bool c)]) ?k1 ?k2 ?k3 ?k5 ?kA ?kF ?kK ?k6 ?k7 ?k8 ?k9 ?kB ?_ ?c2 ?c3 ?c4 ?c5; (case kA => exact rfl); (case kF => exact rfl); (case kK => assumption); (case k1 => k_asm); (case k2 => k_asm); (case k3 => k_asm); (case k5 => k_asm); (case k6 => k_is); (case k7 => k_is); (case k8 => ktr_room); (case k9 => (rcases ha with rfl | ⟨rfl, rfl⟩ <;> exact binds_K (by k_in) rfl (by k_is) rfl rfl rfl)); (case c5 => decide); (case kB => exact locs rfl); (case c2 => exact rfl); (case c3 => exact rfl); (case c4 => exact rfl); k_whole; intro g1 L1 h1 FG F1 N1 B1 X1 T1 hs1 lL; (try dsimp only); (try k_fold))
  have hv1 := hv.mono (P' := InH g1) fun _ _ q => FG.keep _ _ q
  cases hv with
  | blk1 hm he hb hs =>
    rename_i l e b v1 t u n n1 n2
    have hT : IsTup g1 l _ := ⟨_, FG.keep _ _ hm, rfl, _, rfl⟩
    k_steps
    all_goals exact hret _ _ _ (by assumption) (fun b o e => Fr.keep (by assumption) b o (hs1 b o e)) hTl
theorem text_blk2 (σ τ : S) (ih : BlkT (.blk2 σ τ)) : TextOK (.blk2 σ τ) := by
  unfold TextOK
  intro w p loose mean mg mb dp un gd cn cs L a ccd cl outer A₀ base h₀ m s Q E v i ti c k args ha B F X T hk hv hi0 hi1 hht hk6 hdp hu hret
  have hTl := tx_len _ i c hi0 hht hk6 hi1
  revert X; k_fill; intro X
  refine wpAny_call ?_
  k_dflt (refine' code_defP (binds := [(Str.ofString "s", v), (Str.ofString "indent", .int i ti), (Str.ofString "closed", .bool c)]) ?k1 ?k2 ?k3 ?k5 ?kA ?kF ?kK ?k6 ?k7 ?k8 ?k9 ?kB ?_ ?c2 ?c3 ?c4 ?c5; (case kA => exact rfl); (case kF => exact rfl); (case kK => assumption); (case k1 => k_asm); (case k2 => k_asm); (case k3 => k_asm); (case k5 => k_asm); (case k6 => k_is); (case k7 => k_is); (case k8 => ktr_room); (case k9 => (rcases ha with rfl | ⟨rfl, rfl⟩ <;> exact binds_K (by k_in) rfl (by k_is) rfl rfl rfl)); (case c5 => decide); (case kB => exact locs rfl); (case c2 => exact rfl); (case c3 => exact rfl); (case c4 => exact rfl); k_whole; intro g1 L1 h1 FG F1 N1 B1 X1 T1 hs1 lL; (try dsimp only); (try k_fold))
  have hv1 := hv.mono (P' := InH g1) fun _ _ q => FG.keep _ _ q
  cases hv with
  | blk2 hm he hb hs hs' =>
    rename_i l e b v1 v2 t u n n1 n2
    have hT : IsTup g1 l _ := ⟨_, FG.keep _ _ hm, rfl, _, rfl⟩
    k_steps
    all_goals exact hret _ _ _ (by assumption) (fun b o e => Fr.keep (by assumption) b o (hs1 b o e)) hTl
theorem text_all : ∀ σ : S, TextOK σ
  | .none => text_none
  | .set x y => text_set x y
  | .ite z b o => text_ite z b o (ift_ok z b o (text_all b) (text_all o))
  | .whl z b => text_whl z b (text_all b)
  | .fev b => text_fev b (text_all b)
  | .blk0 => text_blk0 blk0_ok
  | .blk1 b => text_blk1 b (blk1_ok b (text_all b))
  | .blk2 b r => text_blk2 b r (blk2_ok b r (text_all b) (text_all r))
theorem if_text_all (z : Lt) (b o : S) : IfT (.ite z b o) := ift_ok z b o (text_all b) (text_all o)

-- C11
local macro_rules | `(tactic| ktr_enter) => `(tactic| walk_at "own enter 1")
local macro_rules | `(tactic| walk_at "subscriptTail") => `(tactic| (k_here; (with_reducible show wpAny _ _ (subscriptTail _ _ (Value.ref _) (Value.int _ _)) _ _ _); k_dflt (refine' item_word ?F ?l ?s ?w ?_; (case F => k_asm); (case l => with_reducible assumption); (case s => with_reducible assumption); (case w => assumption); k_whole); intro _))
local macro_rules | `(tactic| walk_at "compareOp Eq str str") => `(tactic| (k_here; (with_reducible show wpAny _ _ (compareOp CmpOp.Eq (Value.str (Lt.str _) _) (Value.str _ _)) _ _ _); refine eq_lt (by intro z; cases z <;> decide +kernel) ?_))
theorem br_ok (z : Lt) {w : World} {p : Program} {loose : List Str} {mean : ExcName → Option Value} {mg mb : Str → Option Value}
  {dp un : Nat} {gd : Option (List Code)} {cn : Str} {cs : Scope} {L a : Addr} {ccd : Value} {cl : List (Str × Addr)} {outer : List Env}
  {A₀ : Around} {base h₀ : Heap} {m : Str → Option Value} {led : List (Addr × Obj)} {s : Shared} {Q E : Value → Shared → Prop}
  {W : Addr} {vs : List Value} {l : List Str} {b : Int} {ta : Tok}
  (B : Below A₀ base outer h₀) (F : Fr h₀ L s.heap m) (X : (topK w.params).In h₀) (N : News h₀ L s.heap led) (T : Top p loose mean mg mb h₀) (hk : cs.kind = .function)
(hW : h₀.IsList W vs.toArray) (hWs : StrsAre vs l) (hz : l.length ≤ 1000000) (hw : Word l b (par z)) (hdp : dp + 2 < recursionLimit) (hu : un + 16 < cLine)
  (hret : ∀ r d t n u t' r' n1 h' tk', Fr h₀ L h' m → News h₀ L h' (led ++ [(r, tupO #[.ref d, .int (b + 1) t] n), (d, tupO #[.str (Str.ofString "id") u, .int 0 t', .str z.str r'] n1)]) → L < r → L < d → (∀ p ∈ led, p.1 < r) → (∀ p ∈ led, p.1 < d) → Q (.ref r) { s with heap := h', toks := tk' }) :
  wpAny (model PySem.Challenge.rw_on0123_01.row.prog w) (ktrTop dp un gd cn cs L a ccd cl outer) (PySem.call (.ref 317) [.ref W, .int b ta]) Q E s := by
  revert X; k_fill; intro X
  refine wpAny_call ?_
  k_dflt ktr_enter
  rename_i g1 L1 h1 FG F1 N1 B1 X1 T1 l1 lL
  have hW' := stays_list FG.keep hW
  k_steps
  (rename News h₀ _ _ _ => kN); (rename Fr h₀ _ _ _ => kF)
  rw [slice_par] at kN
  refine' hret _ _ _ _ _ _ _ _ _ _ kF (cb_drop kN ?sub) ?a1 ?a2 ?a3 ?a4
  case sub => kqd_sub
  case a1 => exact Nat.lt_trans lL (by assumption)
  case a2 => exact Nat.lt_trans lL (by assumption)
  case a3 => exact fun p hp => Nat.lt_trans (l1 p hp) (by assumption)
  case a4 => exact fun p hp => Nat.lt_trans (l1 p hp) (by assumption)

-- C12
local macro_rules | `(tactic| ktr_enter) => `(tactic| walk_at "own enter 0")
local macro_rules | `(tactic| walk_at "compareOp NotEq str str") => `(tactic| (k_here; (with_reducible show wpAny _ _ (compareOp CmpOp.NotEq (Value.str (hdw _) _) (Value.str _ _)) _ _ _); refine ne_end ?_))
local macro_rules | `(tactic| walk_at "call ref") => `(tactic| (k_here; (with_reducible show wpAny _ _ (PySem.call (Value.ref 317) _) _ _ _); k_dflt (refine' br_ok _ ?B ?F ?X ?N ?T ?hk ?W ?Ws ?z ?w ?d ?u ?_; (case B => k_asm); (case F => k_asm); (case X => k_asm); (case N => k_asm); (case T => k_asm); (case hk => first | exact rfl | assumption); (case W => with_reducible assumption); (case Ws => with_reducible assumption); (case z => with_reducible assumption); (case w => with_reducible assumption); (case d => ktr_room); (case u => ktr_units)); intro r' d' t' n' u' t2' r2' n1' h' tk' F' N' hr' hd' hro' hdo'; (try simp only [List.append_assoc, List.cons_append, List.nil_append] at N'); (try k_sweep)))
def ReadOK (σ : S) (c : Bool) : Prop := ∀ {w : World} {p : Program} {loose : List Str} {mean : ExcName → Option Value} {mg mb : Str → Option Value}
  {dp un : Nat} {gd : Option (List Code)} {cn : Str} {cs : Scope} {L a : Addr} {ccd : Value} {cl : List (Str × Addr)} {outer : List Env}
  {A₀ : Around} {base h₀ : Heap} {m : Str → Option Value} {led : List (Addr × Obj)} {s : Shared} {Q E : Value → Shared → Prop}
  {W : Addr} {vs : List Value} {l post : List Str} {b : Int} {tb : Tok} {k : Nat}
  (B : Below A₀ base outer h₀) (F : Fr h₀ L s.heap m) (X : (topK w.params).In h₀) (N : News h₀ L s.heap led) (T : Top p loose mean mg mb h₀) (hk : cs.kind = .function)
  (hW : s.heap.IsList W vs.toArray) (hWn : ∀ p ∈ led, p.1 ≠ W) (hWs : StrsAre vs l) (hz : l.length ≤ 1000000) (hA : At l b σ c post) (hht : S.ht σ ≤ k)
  (hdp : dp + (2 * k + 6) < recursionLimit) (hu : un + 8 * (2 * k + 8) < cLine)
  (hret : ∀ r v t n tl h' tk', Fr h₀ L h' m → News h₀ L h' (led ++ tl) → (r, tupO #[v, .int (b + ((WL σ c).length : Int)) t] n) ∈ tl → StIn (InL tl) v σ → Above L tl → Over tl led → (∀ b o, s.heap.get? b = some o → (∀ p ∈ led, p.1 ≠ b) → h'.get? b = some o) → Q (.ref r) { s with heap := h', toks := tk' }),
  wpAny (model PySem.Challenge.rw_on0123_01.row.prog w) (ktrTop dp un gd cn cs L a ccd cl outer) (PySem.call (.ref 324) [.ref W, .int b tb]) Q E s
theorem ReadOK.use {σ : S} {c : Bool} {w : World} {p : Program} {loose : List Str} {mean : ExcName → Option Value} {mg mb : Str → Option Value}
  {dp un : Nat} {gd : Option (List Code)} {cn : Str} {cs : Scope} {L a : Addr} {ccd : Value} {cl : List (Str × Addr)} {outer : List Env}
  {A₀ : Around} {base h₀ : Heap} {m : Str → Option Value} {led : List (Addr × Obj)} {s : Shared} {Q E : Value → Shared → Prop}
  {W : Addr} {vs : List Value} {l post : List Str} {b : Int} {tb : Tok} {k : Nat}
  (B : Below A₀ base outer h₀) (F : Fr h₀ L s.heap m) (X : (topK w.params).In h₀) (N : News h₀ L s.heap led) (T : Top p loose mean mg mb h₀) (hk : cs.kind = .function)
  (hW : s.heap.IsList W vs.toArray) (hWn : ∀ p ∈ led, p.1 ≠ W) (hWs : StrsAre vs l) (hz : l.length ≤ 1000000) (hA : At l b σ c post) (ih : ReadOK σ c) (hht : S.ht σ ≤ k)
  (hdp : dp + (2 * k + 6) < recursionLimit) (hu : un + 8 * (2 * k + 8) < cLine)
  (hret : ∀ r v t n tl h' tk', Fr h₀ L h' m → News h₀ L h' (led ++ tl) → (r, tupO #[v, .int (b + ((WL σ c).length : Int)) t] n) ∈ tl → StIn (InL tl) v σ → Above L tl → Over tl led → (∀ b o, s.heap.get? b = some o → (∀ p ∈ led, p.1 ≠ b) → h'.get? b = some o) → Q (.ref r) { s with heap := h', toks := tk' }) :
  wpAny (model PySem.Challenge.rw_on0123_01.row.prog w) (ktrTop dp un gd cn cs L a ccd cl outer) (PySem.call (.ref 324) [.ref W, .int b tb]) Q E s := ih B F X N T hk hW hWn hWs hz hA hht hdp hu hret
local macro_rules | `(tactic| walk_at "call ref") => `(tactic| (k_here; (with_reducible show wpAny _ _ (PySem.call (Value.ref 324) _) _ _ _); k_dflt (refine' ReadOK.use ?B ?F ?X ?N ?T ?hk ?W ?Wn ?Ws ?z ?A ?ih ?ht ?d ?u ?_; (case B => k_asm); (case F => k_asm); (case X => k_asm); (case N => k_asm); (case T => k_asm); (case hk => first | exact rfl | assumption); (case W => exact stays_list (Fr.keep (by assumption)) (by with_reducible assumption)); (case Wn => exact news_off (by k_asm) (by with_reducible assumption)); (case Ws => with_reducible assumption); (case z => with_reducible assumption); (case A => with_reducible assumption); (case ih => with_reducible assumption); (case ht => with_reducible assumption); (case d => ktr_room); (case u => ktr_units)); intro r' v' t' n' tl' h' tk' F' N' hm' hst' hab' hov' hoff'; (try simp only [List.append_assoc, List.cons_append, List.nil_append] at N'); (try k_sweep)))
theorem read_none  (c : Bool)  : ReadOK (.none) c := by
  unfold ReadOK
  intro w p loose mean mg mb dp un gd cn cs L a ccd cl outer A₀ base h₀ m led s Q E W vs l post b tb k B F X N T hk hW hWn hWs hz hA hht hdp hu hret
  have hfin : ∀ B₁ r v a' t n led' h' tk', L < B₁ → (∀ p ∈ led, p.1 < B₁) → News h₀ L h' led' → Fr h₀ L h' m → (∀ p ∈ led, p ∈ led') → InG B₁ led' r (tupO #[v, .int a' t] n) → StIn (InG B₁ led') v (.none) → a' = b + ((WL (.none) c).length : Int) → (∀ b o, s.heap.get? b = some o → (∀ p ∈ led, p.1 ≠ b) → h'.get? b = some o) → Q (.ref r) { s with heap := h', toks := tk' } := by
    intro B₁ r v a' t n led' h' tk' b1 b2 N' F' q1 q2 q3 e ko
    subst e
    obtain ⟨tl, e1, e2, e3, e4, e5⟩ := read_end b1 b2 N' q1 q2 q3
    exact hret r v t n tl h' tk' F' e1 e3 e2 e4 e5 ko
  clear hret
  have hw0 : Word l b (Str.ofString ";") := hA.word0 hz
  clear hht
  revert X; k_fill; intro X
  refine wpAny_call ?_
  k_dflt ktr_enter
  rename_i g1 L1 h1 FG F1 N1 B1 X1 T1 l1 lL hG
  have hW' := list_off hG hW hWn
  have hl1 := l1
  k_steps
  · refine' hfin L1 _ _ _ _ _ _ _ _ lL hl1 (by with_reducible assumption) (by with_reducible assumption) ?n1 ?r1 ?st1 ?e1 (fun b o e hb => Fr.keep (by assumption) b o (hG b o e hb))
    case r1 => exact ⟨by k_mem, by assumption⟩
    case n1 => (intro q hq; k_mem)
    case st1 => exact .none
    case e1 => (simp [WL]; try omega)
theorem read_set (x y : Lt) (c : Bool)  : ReadOK (.set x y) c := by
  unfold ReadOK
  intro w p loose mean mg mb dp un gd cn cs L a ccd cl outer A₀ base h₀ m led s Q E W vs l post b tb k B F X N T hk hW hWn hWs hz hA hht hdp hu hret
  have hfin : ∀ B₁ r v a' t n led' h' tk', L < B₁ → (∀ p ∈ led, p.1 < B₁) → News h₀ L h' led' → Fr h₀ L h' m → (∀ p ∈ led, p ∈ led') → InG B₁ led' r (tupO #[v, .int a' t] n) → StIn (InG B₁ led') v (.set x y) → a' = b + ((WL (.set x y) c).length : Int) → (∀ b o, s.heap.get? b = some o → (∀ p ∈ led, p.1 ≠ b) → h'.get? b = some o) → Q (.ref r) { s with heap := h', toks := tk' } := by
    intro B₁ r v a' t n led' h' tk' b1 b2 N' F' q1 q2 q3 e ko
    subst e
    obtain ⟨tl, e1, e2, e3, e4, e5⟩ := read_end b1 b2 N' q1 q2 q3
    exact hret r v t n tl h' tk' F' e1 e3 e2 e4 e5 ko
  clear hret
  have hw0 : Word l b x.str := hA.word0 hz
  have hw2 := at_set hA hz
  clear hht
  revert X; k_fill; intro X
  refine wpAny_call ?_
  k_dflt ktr_enter
  rename_i g1 L1 h1 FG F1 N1 B1 X1 T1 l1 lL hG
  have hW' := list_off hG hW hWn
  have hl1 := l1
  k_steps
  · (rename News h₀ _ _ _ => kN); rw [slice_semi] at kN; refine' hfin L1 _ _ _ _ _ _ _ _ lL hl1 (by with_reducible assumption) (by with_reducible assumption) ?n2 ?r2 ?st2 ?e2 (fun b o e hb => Fr.keep (by assumption) b o (hG b o e hb))
    case r2 => exact ⟨by k_mem, by assumption⟩
    case n2 => (intro q hq; k_mem)
    case st2 => (refine' .set ?qr21 (.mk ?qr22) (.mk ?qr23); (case qr21 => exact ⟨by k_mem, by assumption⟩); (case qr22 => exact ⟨by k_mem, by assumption⟩); (case qr23 => exact ⟨by k_mem, by assumption⟩))
    case e2 => (simp [WL]; try omega)
theorem read_fev (σ : S) (c : Bool) (ih : ReadOK σ c) : ReadOK (.fev σ) c := by
  unfold ReadOK
  intro w p loose mean mg mb dp un gd cn cs L a ccd cl outer A₀ base h₀ m led s Q E W vs l post b tb k B F X N T hk hW hWn hWs hz hA hht hdp hu hret
  have hfin : ∀ B₁ r v a' t n led' h' tk', L < B₁ → (∀ p ∈ led, p.1 < B₁) → News h₀ L h' led' → Fr h₀ L h' m → (∀ p ∈ led, p ∈ led') → InG B₁ led' r (tupO #[v, .int a' t] n) → StIn (InG B₁ led') v (.fev σ) → a' = b + ((WL (.fev σ) c).length : Int) → (∀ b o, s.heap.get? b = some o → (∀ p ∈ led, p.1 ≠ b) → h'.get? b = some o) → Q (.ref r) { s with heap := h', toks := tk' } := by
    intro B₁ r v a' t n led' h' tk' b1 b2 N' F' q1 q2 q3 e ko
    subst e
    obtain ⟨tl, e1, e2, e3, e4, e5⟩ := read_end b1 b2 N' q1 q2 q3
    exact hret r v t n tl h' tk' F' e1 e3 e2 e4 e5 ko
  clear hret
  have hw0 : Word l b (Str.ofString "forever") := hA.word0 hz
  have hA1 := at_fev hA
  simp only [S.ht] at hht
  obtain ⟨k, rfl⟩ : ∃ k', k = k' + 1 := ⟨k - 1, by omega⟩
  have hb : S.ht σ ≤ k := by omega
  clear hht
  revert X; k_fill; intro X
  refine wpAny_call ?_
  k_dflt ktr_enter
  rename_i g1 L1 h1 FG F1 N1 B1 X1 T1 l1 lL hG
  have hW' := list_off hG hW hWn
  have hl1 := l1
  k_steps
  · refine' hfin L1 _ _ _ _ _ _ _ _ lL hl1 (by with_reducible assumption) (by with_reducible assumption) ?n3 ?r3 ?st3 ?e3 (fun b o e hb => Fr.keep (by assumption) b o (hG b o e hb))
    case r3 => exact ⟨by k_mem, by assumption⟩
    case n3 => (intro q hq; k_mem)
    case st3 => (refine' .fev ?qr31 ?qr33; (case qr31 => exact ⟨by k_mem, by assumption⟩); (case qr33 => (refine' StIn.lift (by assumption) (by assumption) ?mr31; (case mr31 => (intro q hq; k_mem)))))
    case e3 => (simp [WL]; try omega)
theorem read_whl (z : Lt) (σ : S) (c : Bool) (ih : ReadOK σ c) : ReadOK (.whl z σ) c := by
  unfold ReadOK
  intro w p loose mean mg mb dp un gd cn cs L a ccd cl outer A₀ base h₀ m led s Q E W vs l post b tb k B F X N T hk hW hWn hWs hz hA hht hdp hu hret
  have hfin : ∀ B₁ r v a' t n led' h' tk', L < B₁ → (∀ p ∈ led, p.1 < B₁) → News h₀ L h' led' → Fr h₀ L h' m → (∀ p ∈ led, p ∈ led') → InG B₁ led' r (tupO #[v, .int a' t] n) → StIn (InG B₁ led') v (.whl z σ) → a' = b + ((WL (.whl z σ) c).length : Int) → (∀ b o, s.heap.get? b = some o → (∀ p ∈ led, p.1 ≠ b) → h'.get? b = some o) → Q (.ref r) { s with heap := h', toks := tk' } := by
    intro B₁ r v a' t n led' h' tk' b1 b2 N' F' q1 q2 q3 e ko
    subst e
    obtain ⟨tl, e1, e2, e3, e4, e5⟩ := read_end b1 b2 N' q1 q2 q3
    exact hret r v t n tl h' tk' F' e1 e3 e2 e4 e5 ko
  clear hret
  have hw0 : Word l b (Str.ofString "while") := hA.word0 hz
  obtain ⟨hw1, hA1⟩ := at_whl hA hz
  simp only [S.ht] at hht
  obtain ⟨k, rfl⟩ : ∃ k', k = k' + 1 := ⟨k - 1, by omega⟩
  have hb : S.ht σ ≤ k := by omega
  clear hht
  revert X; k_fill; intro X
  refine wpAny_call ?_
  k_dflt ktr_enter
  rename_i g1 L1 h1 FG F1 N1 B1 X1 T1 l1 lL hG
  have hW' := list_off hG hW hWn
  have hl1 := l1
  k_steps
  · refine' hfin L1 _ _ _ _ _ _ _ _ lL hl1 (by with_reducible assumption) (by with_reducible assumption) ?n4 ?r4 ?st4 ?e4 (fun b o e hb => Fr.keep (by assumption) b o (hG b o e hb))
    case r4 => exact ⟨by k_mem, by assumption⟩
    case n4 => (intro q hq; k_mem)
    case st4 => (refine' .whl ?qr41 (.mk ?qr42) ?qr43; (case qr41 => exact ⟨by k_mem, by assumption⟩); (case qr42 => exact ⟨by k_mem, by assumption⟩); (case qr43 => (refine' StIn.lift (by assumption) (by assumption) ?mr41; (case mr41 => (intro q hq; k_mem)))))
    case e4 => (simp [WL]; try omega)

-- C13
theorem read_if1 (z : Lt) (σ : S)  (ih : ReadOK σ true) (io : ReadOK .none true) : ReadOK (.ite z σ .none) true := by
  unfold ReadOK
  intro w p loose mean mg mb dp un gd cn cs L a ccd cl outer A₀ base h₀ m led s Q E W vs l post b tb k B F X N T hk hW hWn hWs hz hA hht hdp hu hret
  have hfin : ∀ B₁ r v a' t n led' h' tk', L < B₁ → (∀ p ∈ led, p.1 < B₁) → News h₀ L h' led' → Fr h₀ L h' m → (∀ p ∈ led, p ∈ led') → InG B₁ led' r (tupO #[v, .int a' t] n) → StIn (InG B₁ led') v (.ite z σ .none) → a' = b + ((WL (.ite z σ .none) true).length : Int) → (∀ b o, s.heap.get? b = some o → (∀ p ∈ led, p.1 ≠ b) → h'.get? b = some o) → Q (.ref r) { s with heap := h', toks := tk' } := by
    intro B₁ r v a' t n led' h' tk' b1 b2 N' F' q1 q2 q3 e ko
    subst e
    obtain ⟨tl, e1, e2, e3, e4, e5⟩ := read_end b1 b2 N' q1 q2 q3
    exact hret r v t n tl h' tk' F' e1 e3 e2 e4 e5 ko
  clear hret
  have hw0 : Word l b (Str.ofString "if") := hA.word0 hz
  obtain ⟨hw1, hA1⟩ := at_if0 hA hz
  obtain ⟨hw2, hA2, hlen⟩ := at_if0c hA hz
  simp only [S.ht] at hht
  obtain ⟨k, rfl⟩ : ∃ k', k = k' + 1 := ⟨k - 1, by omega⟩
  have hb : S.ht σ ≤ k := by omega
  have hb2 : S.ht S.none ≤ k := Nat.zero_le _
  generalize hO : S.none = o at hb2 hA2 io
  clear hht
  revert X; k_fill; intro X
  refine wpAny_call ?_
  k_dflt ktr_enter
  rename_i g1 L1 h1 FG F1 N1 B1 X1 T1 l1 lL hG
  have hW' := list_off hG hW hWn
  have hl1 := l1
  k_steps
  · subst hO; refine' hfin L1 _ _ _ _ _ _ _ _ lL hl1 (by with_reducible assumption) (by with_reducible assumption) ?n5 ?r5 ?st5 ?e5 (fun b o e hb => Fr.keep (by assumption) b o (hG b o e hb))
    case r5 => exact ⟨by k_mem, by assumption⟩
    case n5 => (intro q hq; k_mem)
    case st5 => (refine' .ite ?qr51 (.mk ?qr52) ?qr53 ?qr54; (case qr51 => exact ⟨by k_mem, by assumption⟩); (case qr52 => exact ⟨by k_mem, by assumption⟩); (case qr53 => (refine' StIn.lift (by assumption) (by assumption) ?mr51; (case mr51 => (intro q hq; k_mem)))); (case qr54 => (refine' StIn.lift (by assumption) (by assumption) ?mr52; (case mr52 => (intro q hq; k_mem)))))
    case e5 => (simp [WL]; try omega)
theorem read_ite (z : Lt) (σ τ : S) (c : Bool) (hO : τ ≠ .none) (ih : ReadOK σ true) (io : ReadOK τ c) : ReadOK (.ite z σ τ) c := by
  unfold ReadOK
  intro w p loose mean mg mb dp un gd cn cs L a ccd cl outer A₀ base h₀ m led s Q E W vs l post b tb k B F X N T hk hW hWn hWs hz hA hht hdp hu hret
  have hfin : ∀ B₁ r v a' t n led' h' tk', L < B₁ → (∀ p ∈ led, p.1 < B₁) → News h₀ L h' led' → Fr h₀ L h' m → (∀ p ∈ led, p ∈ led') → InG B₁ led' r (tupO #[v, .int a' t] n) → StIn (InG B₁ led') v (.ite z σ τ) → a' = b + ((WL (.ite z σ τ) c).length : Int) → (∀ b o, s.heap.get? b = some o → (∀ p ∈ led, p.1 ≠ b) → h'.get? b = some o) → Q (.ref r) { s with heap := h', toks := tk' } := by
    intro B₁ r v a' t n led' h' tk' b1 b2 N' F' q1 q2 q3 e ko
    subst e
    obtain ⟨tl, e1, e2, e3, e4, e5⟩ := read_end b1 b2 N' q1 q2 q3
    exact hret r v t n tl h' tk' F' e1 e3 e2 e4 e5 ko
  clear hret
  have hw0 : Word l b (Str.ofString "if") := hA.word0 hz
  obtain ⟨hw1, hA1, hw2, hA2, hlen⟩ := at_ite hO hA hz
  simp only [S.ht] at hht
  obtain ⟨k, rfl⟩ : ∃ k', k = k' + 1 := ⟨k - 1, by omega⟩
  have hb : S.ht σ ≤ k := by omega
  have hb2 : S.ht τ ≤ k := by omega
  clear hht
  revert X; k_fill; intro X
  refine wpAny_call ?_
  k_dflt ktr_enter
  rename_i g1 L1 h1 FG F1 N1 B1 X1 T1 l1 lL hG
  have hW' := list_off hG hW hWn
  have hl1 := l1
  k_steps
  · refine' hfin L1 _ _ _ _ _ _ _ _ lL hl1 (by with_reducible assumption) (by with_reducible assumption) ?n6 ?r6 ?st6 ?e6 (fun b o e hb => Fr.keep (by assumption) b o (hG b o e hb))
    case r6 => exact ⟨by k_mem, by assumption⟩
    case n6 => (intro q hq; k_mem)
    case st6 => (refine' .ite ?qr61 (.mk ?qr62) ?qr63 ?qr64; (case qr61 => exact ⟨by k_mem, by assumption⟩); (case qr62 => exact ⟨by k_mem, by assumption⟩); (case qr63 => (refine' StIn.lift (by assumption) (by assumption) ?mr61; (case mr61 => (intro q hq; k_mem)))); (case qr64 => (refine' StIn.lift (by assumption) (by assumption) ?mr62; (case mr62 => (intro q hq; k_mem)))))
    case e6 => (simp [wl_ite hO]; try omega)
theorem read_if0 (z : Lt) (σ : S)  (ih : ReadOK σ false) : ReadOK (.ite z σ .none) false := by
  unfold ReadOK
  intro w p loose mean mg mb dp un gd cn cs L a ccd cl outer A₀ base h₀ m led s Q E W vs l post b tb k B F X N T hk hW hWn hWs hz hA hht hdp hu hret
  have hfin : ∀ B₁ r v a' t n led' h' tk', L < B₁ → (∀ p ∈ led, p.1 < B₁) → News h₀ L h' led' → Fr h₀ L h' m → (∀ p ∈ led, p ∈ led') → InG B₁ led' r (tupO #[v, .int a' t] n) → StIn (InG B₁ led') v (.ite z σ .none) → a' = b + ((WL (.ite z σ .none) false).length : Int) → (∀ b o, s.heap.get? b = some o → (∀ p ∈ led, p.1 ≠ b) → h'.get? b = some o) → Q (.ref r) { s with heap := h', toks := tk' } := by
    intro B₁ r v a' t n led' h' tk' b1 b2 N' F' q1 q2 q3 e ko
    subst e
    obtain ⟨tl, e1, e2, e3, e4, e5⟩ := read_end b1 b2 N' q1 q2 q3
    exact hret r v t n tl h' tk' F' e1 e3 e2 e4 e5 ko
  clear hret
  have hw0 : Word l b (Str.ofString "if") := hA.word0 hz
  obtain ⟨hw1, hA1⟩ := at_if0 hA hz
  have hA1 : At l (b + 1 + 1) σ false post := hA1
  have hcase := at_if0o hA hz
  have hsl := strs_len hWs
  simp only [S.ht] at hht
  obtain ⟨k, rfl⟩ : ∃ k', k = k' + 1 := ⟨k - 1, by omega⟩
  have hb : S.ht σ ≤ k := by omega
  clear hht
  revert X; k_fill; intro X
  refine wpAny_call ?_
  k_dflt ktr_enter
  rename_i g1 L1 h1 FG F1 N1 B1 X1 T1 l1 lL hG
  have hW' := list_off hG hW hWn
  have hl1 := l1
  rcases hcase with ⟨hpo, hlen⟩ | ⟨x, hwx, hxe, hlen⟩
  · k_steps
    · refine' hfin L1 _ _ _ _ _ _ _ _ lL hl1 (by with_reducible assumption) (by with_reducible assumption) ?n7 ?r7 ?st7 ?e7 (fun b o e hb => Fr.keep (by assumption) b o (hG b o e hb))
      case r7 => exact ⟨by k_mem, by assumption⟩
      case n7 => (intro q hq; k_mem)
      case st7 => (refine' .ite ?qr71 (.mk ?qr72) ?qr73 .none; (case qr71 => exact ⟨by k_mem, by assumption⟩); (case qr72 => exact ⟨by k_mem, by assumption⟩); (case qr73 => (refine' StIn.lift (by assumption) (by assumption) ?mr71; (case mr71 => (intro q hq; k_mem)))))
      case e7 => (simp [WL]; try omega)
  · k_steps
    · refine' hfin L1 _ _ _ _ _ _ _ _ lL hl1 (by with_reducible assumption) (by with_reducible assumption) ?n8 ?r8 ?st8 ?e8 (fun b o e hb => Fr.keep (by assumption) b o (hG b o e hb))
      case r8 => exact ⟨by k_mem, by assumption⟩
      case n8 => (intro q hq; k_mem)
      case st8 => (refine' .ite ?qr81 (.mk ?qr82) ?qr83 .none; (case qr81 => exact ⟨by k_mem, by assumption⟩); (case qr82 => exact ⟨by k_mem, by assumption⟩); (case qr83 => (refine' StIn.lift (by assumption) (by assumption) ?mr81; (case mr81 => (intro q hq; k_mem)))))
      case e8 => (simp [WL]; try omega)

-- C14
local macro_rules | `(tactic| k_all) => `(tactic| first | with_reducible assumption | exact lt_off (by with_reducible assumption) | exact over_off (by with_reducible assumption) (by k_mem) | (refine' List.forall_mem_append.mpr ⟨?a, ?b⟩; (case a => k_all); (case b => k_all)))
theorem read_blk0  (c : Bool)  : ReadOK (.blk0) c := by
  unfold ReadOK
  intro w p loose mean mg mb dp un gd cn cs L a ccd cl outer A₀ base h₀ m led s Q E W vs l post b tb k B F X N T hk hW hWn hWs hz hA hht hdp hu hret
  have hfin : ∀ B₁ r v a' t n led' h' tk', L < B₁ → (∀ p ∈ led, p.1 < B₁) → News h₀ L h' led' → Fr h₀ L h' m → (∀ p ∈ led, p ∈ led') → InG B₁ led' r (tupO #[v, .int a' t] n) → StIn (InG B₁ led') v (.blk0) → a' = b + ((WL (.blk0) c).length : Int) → (∀ b o, s.heap.get? b = some o → (∀ p ∈ led, p.1 ≠ b) → h'.get? b = some o) → Q (.ref r) { s with heap := h', toks := tk' } := by
    intro B₁ r v a' t n led' h' tk' b1 b2 N' F' q1 q2 q3 e ko
    subst e
    obtain ⟨tl, e1, e2, e3, e4, e5⟩ := read_end b1 b2 N' q1 q2 q3
    exact hret r v t n tl h' tk' F' e1 e3 e2 e4 e5 ko
  clear hret
  have hw0 : Word l b (Str.ofString "begin") := hA.word0 hz
  have hw1 := at_blk0 hA hz
  clear hht
  revert X; k_fill; intro X
  refine wpAny_call ?_
  k_dflt ktr_enter
  rename_i g1 L1 h1 FG F1 N1 B1 X1 T1 l1 lL hG
  have hW' := list_off hG hW hWn
  have hl1 := l1
  k_steps
  · refine' hfin L1 _ _ _ _ _ _ _ _ lL hl1 (by with_reducible assumption) (by with_reducible assumption) ?n9 ?r9 ?st9 ?e9 (fun b o e hb => Fr.keep (by assumption) b o (hG b o e hb))
    case r9 => exact ⟨by k_mem, by assumption⟩
    case n9 => (intro q hq; k_mem)
    case st9 => (refine' .blk0 ?qr91 ?qr92 ?qr93; (case qr91 => exact ⟨by k_mem, by assumption⟩); (case qr92 => exact ⟨by k_mem, by assumption⟩); (case qr93 => exact ⟨by k_mem, by assumption⟩))
    case e9 => (simp [WL]; try omega)
theorem read_blk1 (σ : S) (c : Bool) (ih : ReadOK σ false) : ReadOK (.blk1 σ) c := by
  unfold ReadOK
  intro w p loose mean mg mb dp un gd cn cs L a ccd cl outer A₀ base h₀ m led s Q E W vs l post b tb k B F X N T hk hW hWn hWs hz hA hht hdp hu hret
  have hfin : ∀ B₁ r v a' t n led' h' tk', L < B₁ → (∀ p ∈ led, p.1 < B₁) → News h₀ L h' led' → Fr h₀ L h' m → (∀ p ∈ led, p ∈ led') → InG B₁ led' r (tupO #[v, .int a' t] n) → StIn (InG B₁ led') v (.blk1 σ) → a' = b + ((WL (.blk1 σ) c).length : Int) → (∀ b o, s.heap.get? b = some o → (∀ p ∈ led, p.1 ≠ b) → h'.get? b = some o) → Q (.ref r) { s with heap := h', toks := tk' } := by
    intro B₁ r v a' t n led' h' tk' b1 b2 N' F' q1 q2 q3 e ko
    subst e
    obtain ⟨tl, e1, e2, e3, e4, e5⟩ := read_end b1 b2 N' q1 q2 q3
    exact hret r v t n tl h' tk' F' e1 e3 e2 e4 e5 ko
  clear hret
  have hw0 : Word l b (Str.ofString "begin") := hA.word0 hz
  obtain ⟨hA1, hw2⟩ := at_blk1 hA hz
  have hw1 := hA1.word0 hz
  simp only [S.ht] at hht
  obtain ⟨k, rfl⟩ : ∃ k', k = k' + 1 := ⟨k - 1, by omega⟩
  have hb : S.ht σ ≤ k := by omega
  clear hht
  revert X; k_fill; intro X
  refine wpAny_call ?_
  k_dflt ktr_enter
  rename_i g1 L1 h1 FG F1 N1 B1 X1 T1 l1 lL hG
  have hW' := list_off hG hW hWn
  have hl1 := l1
  k_steps
  · refine' hfin L1 _ _ _ _ _ _ _ _ lL hl1 (by with_reducible assumption) (by with_reducible assumption) ?n10 ?r10 ?st10 ?e10 (fun b o e hb => Fr.keep (by assumption) b o (hG b o e hb))
    case r10 => exact ⟨by k_mem, by assumption⟩
    case n10 => (intro q hq; k_mem)
    case st10 => (refine' .blk1 ?qr101 ?qr102 ?qr103 ?qr104; (case qr101 => exact ⟨by k_mem, by assumption⟩); (case qr102 => exact ⟨by k_mem, by assumption⟩); (case qr103 => exact ⟨by k_mem, by assumption⟩); (case qr104 => (refine' StIn.lift (by assumption) (by assumption) ?mr101; (case mr101 => (intro q hq; k_mem)))))
    case e10 => (simp [WL]; try omega)
theorem read_blk2 (σ τ : S) (c : Bool) (ih : ReadOK σ false) (ih2 : ReadOK τ false) : ReadOK (.blk2 σ τ) c := by
  unfold ReadOK
  intro w p loose mean mg mb dp un gd cn cs L a ccd cl outer A₀ base h₀ m led s Q E W vs l post b tb k B F X N T hk hW hWn hWs hz hA hht hdp hu hret
  have hfin : ∀ B₁ r v a' t n led' h' tk', L < B₁ → (∀ p ∈ led, p.1 < B₁) → News h₀ L h' led' → Fr h₀ L h' m → (∀ p ∈ led, p ∈ led') → InG B₁ led' r (tupO #[v, .int a' t] n) → StIn (InG B₁ led') v (.blk2 σ τ) → a' = b + ((WL (.blk2 σ τ) c).length : Int) → (∀ b o, s.heap.get? b = some o → (∀ p ∈ led, p.1 ≠ b) → h'.get? b = some o) → Q (.ref r) { s with heap := h', toks := tk' } := by
    intro B₁ r v a' t n led' h' tk' b1 b2 N' F' q1 q2 q3 e ko
    subst e
    obtain ⟨tl, e1, e2, e3, e4, e5⟩ := read_end b1 b2 N' q1 q2 q3
    exact hret r v t n tl h' tk' F' e1 e3 e2 e4 e5 ko
  clear hret
  have hw0 : Word l b (Str.ofString "begin") := hA.word0 hz
  obtain ⟨hA1, hA2, hw3⟩ := at_blk2 hA hz
  have hw1 := hA1.word0 hz
  have hw2 := hA2.word0 hz
  simp only [S.ht] at hht
  obtain ⟨k, rfl⟩ : ∃ k', k = k' + 1 := ⟨k - 1, by omega⟩
  have hb : S.ht σ ≤ k := by omega
  have hb2 : S.ht τ ≤ k := by omega
  clear hht
  revert X; k_fill; intro X
  refine wpAny_call ?_
  k_dflt ktr_enter
  rename_i g1 L1 h1 FG F1 N1 B1 X1 T1 l1 lL hG
  have hW' := list_off hG hW hWn
  have hl1 := l1
  k_steps
  · refine' hfin L1 _ _ _ _ _ _ _ _ lL hl1 (by with_reducible assumption) (by with_reducible assumption) ?n11 ?r11 ?st11 ?e11 (fun b o e hb => Fr.keep (by assumption) b o (hG b o e hb))
    case r11 => exact ⟨by k_mem, by assumption⟩
    case n11 => (intro q hq; k_mem)
    case st11 => (refine' .blk2 ?qr111 ?qr112 ?qr113 ?qr114 ?qr115; (case qr111 => exact ⟨by k_mem, by assumption⟩); (case qr112 => exact ⟨by k_mem, by assumption⟩); (case qr113 => exact ⟨by k_mem, by assumption⟩); (case qr114 => (refine' StIn.lift (by assumption) (by assumption) ?mr111; (case mr111 => (intro q hq; k_mem)))); (case qr115 => (refine' StIn.lift (by assumption) (by assumption) ?mr112; (case mr112 => (intro q hq; k_mem)))))
    case e11 => (simp [WL]; try omega)

-- C15
theorem read_all (σ : S) : ∀ c, ReadOK σ c := by
  induction σ with
  | none => exact read_none
  | set x y => exact read_set x y
  | ite z s o is io =>
    intro c
    by_cases h : o = .none
    · subst h
      cases c with
      | true => exact read_if1 z s (is true) (io true)
      | false => exact read_if0 z s (is false)
    · exact read_ite z s o c h (is true) (io c)
  | whl z s is => exact fun c => read_whl z s c (is c)
  | fev s is => exact fun c => read_fev s c (is c)
  | blk0 => exact read_blk0
  | blk1 s is => exact fun c => read_blk1 s c (is false)
  | blk2 s r is ir => exact fun c => read_blk2 s r c (is false) (ir false)

-- C17
open Builtin Builtin.Str StrLaws
/-- the words of a list of numbers; cur is the word under way -/
noncomputable def tk : List Nat → List Nat → List (List Nat)
  | cur, [] => if cur.isEmpty then [] else [cur]
  | cur, c :: r => if Unicode.isSpace c then (if cur.isEmpty then tk [] r else cur :: tk [] r) else tk (cur ++ [c]) r
noncomputable def sub2 (x : Str) (p : Nat × Nat) : List Nat := ((q x).drop p.1).take (p.2 - p.1)
theorem q_sub (x : Str) (i j : Nat) : q (strSub x i j) = sub2 x (i, j) := by
  show (x.cps.extract i j).toList = (x.cps.toList.drop i).take (j - i)
  rw [Array.toList_extract, List.extract_eq_take_drop]
noncomputable def stOf (x : Str) (cur : Nat) : Option Nat → List Nat
  | none => []
  | some b => sub2 x (b, cur)
theorem sub2_ne {x : Str} {b c : Nat} (h : b < c) (h2 : c ≤ x.length) : (sub2 x (b, c)).isEmpty = false := by
  have e : (sub2 x (b, c)).length = c - b := by
    simp only [sub2, List.length_take, List.length_drop, q_len]
    omega
  cases q : sub2 x (b, c) with
  | nil => rw [q] at e; simp at e; omega
  | cons _ _ => rfl
theorem sub2_snoc {x : Str} {b c : Nat} (h : b ≤ c) (h2 : c < x.length) : sub2 x (b, c) ++ [x.cps.getD c 0] = sub2 x (b, c + 1) := by
  have hc : c < (q x).length := by rw [q_len]; exact h2
  have e : c + 1 - b = (c - b) + 1 := by omega
  have hd : (c - b) < ((q x).drop b).length := by rw [List.length_drop]; omega
  show _ ++ _ = ((q x).drop b).take (c + 1 - b)
  rw [e, List.take_succ, List.getElem?_eq_getElem hd]
  congr 1
  rw [List.getElem_drop]
  have h3 : b + (c - b) = c := by omega
  simp only [h3, q]
  have h4 : c < x.cps.size := h2
  simp [Array.getD, h4]
theorem drop_cons {x : Str} {c : Nat} (h2 : c < x.length) : (q x).drop c = x.cps.getD c 0 :: (q x).drop (c + 1) := by
  have hc : c < (q x).length := by rw [q_len]; exact h2
  rw [List.drop_eq_getElem_cons hc]
  congr 1
  have h4 : c < x.cps.size := h2
  simp [q, Array.getD, h4]
theorem sw_tk (x : Str) (limit : Nat) (hl : x.length < limit) : ∀ (m cur : Nat) (words : Array (Nat × Nat)) (start : Option Nat), cur + m = x.length → SwOk x.length cur (none, words, start) → SwNe cur (none, words, start) →
    (swEnd x (forIn (List.range' cur m) ((none, words, start) : SwSt) (swBody x limit)).run).map (sub2 x) = words.toList.map (sub2 x) ++ tk (stOf x cur start) ((q x).drop cur)
  | 0, cur, words, start, hm, h, g => by
    have e : (q x).drop cur = [] := by rw [List.drop_eq_nil_iff, q_len]; omega
    rw [e]
    cases start with
    | none => simp [swEnd, stOf, tk]
    | some b =>
      obtain ⟨h1, h2, h3⟩ := h
      obtain ⟨g1, g2⟩ := g
      have hb : b < cur := g2
      have ne := sub2_ne (x := x) hb (by omega)
      have hc : cur = x.length := by omega
      subst hc
      simp [swEnd, stOf, tk, ne]
  | m + 1, cur, words, start, hm, h, g => by
    rw [List.range'_succ, List.forIn_cons, drop_cons (by omega)]
    obtain ⟨h1, h2, h3⟩ := h
    obtain ⟨g1, g2⟩ := g
    have hsz : ¬ ((words.size == limit) = true) := by
      have a := len_le_wsum words.toList
      have b : words.toList.length = words.size := by simp
      have c : wsum words.toList ≤ cur := by
        cases start with
        | none => exact h3
        | some b => exact Nat.le_trans h3.2 h3.1
      rw [beq_iff_eq]; omega
    unfold swBody
    simp only [hsz, if_false]
    unfold tk
    cases start with
    | none =>
      cases hsp : Unicode.isSpace (x.cps.getD cur 0)
      · have := sw_tk x limit hl m (cur + 1) words (some cur) (by omega) ⟨rfl, h2, Nat.le_succ cur, h3⟩ ⟨g1, Nat.lt_succ_self cur⟩
        refine Eq.trans this ?_
        rw [if_neg (by decide)]
        congr 2
        have := sub2_snoc (x := x) (Nat.le_refl cur) (by omega)
        show sub2 x (cur, cur + 1) = _
        rw [← this]
        simp [sub2, stOf]
      · have := sw_tk x limit hl m (cur + 1) words none (by omega) ⟨rfl, h2, Nat.le_succ_of_le h3⟩ ⟨g1, trivial⟩
        refine Eq.trans this ?_
        rw [if_pos rfl]
        rfl
    | some b =>
      have hb : b < cur := g2
      cases hsp : Unicode.isSpace (x.cps.getD cur 0)
      · have := sw_tk x limit hl m (cur + 1) words (some b) (by omega) ⟨rfl, h2, Nat.le_succ_of_le h3.1, h3.2⟩ ⟨g1, Nat.lt_succ_of_lt g2⟩
        refine Eq.trans this ?_
        rw [if_neg (by decide)]
        congr 2
        exact (sub2_snoc (x := x) (Nat.le_of_lt hb) (by omega)).symm
      · have := sw_tk x limit hl m (cur + 1) (words.push (b, cur)) none (by omega) (by
            refine ⟨rfl, ?_, ?_⟩
            · intro p hp
              rw [Array.toList_push, List.mem_append, List.mem_singleton] at hp
              rcases hp with hp | rfl
              · exact h2 p hp
              · show cur ≤ x.length; omega
            · show wsum (words.push (b, cur)).toList ≤ cur + 1
              rw [Array.toList_push, wsum_snoc]
              have a1 : b ≤ cur := h3.1
              have a2 : wsum words.toList ≤ b := h3.2
              show wsum words.toList + (cur - b + 1) ≤ cur + 1
              omega) (by
            refine ⟨?_, trivial⟩
            intro p hp
            rw [Array.toList_push, List.mem_append, List.mem_singleton] at hp
            rcases hp with hp | rfl
            · exact g1 p hp
            · exact g2)
        refine Eq.trans this ?_
        rw [if_pos rfl, if_neg (by rw [show stOf x cur (some b) = sub2 x (b, cur) from rfl, sub2_ne hb (by omega)]; decide)]
        rw [Array.toList_push, List.map_append]
        simp [stOf]
theorem words_tk (x : Str) : (Txt.words x).map q = tk [] (q x) := by
  have hs : (spaceWords x (x.length + 1)).map (sub2 x) = tk [] (q x) := by
    rw [sw_eq]
    have := sw_tk x (x.length + 1) (Nat.lt_succ_self _) x.length 0 #[] none (by omega) ⟨rfl, by intro p hp; simp at hp, Nat.le_refl 0⟩ ⟨by intro p hp; simp at hp, trivial⟩
    rw [this]
    rfl
  rw [← hs]
  unfold Txt.words
  split
  · rename_i hc
    rw [eq_of_beq hc]
    have : sub2 x (0, x.length) = q x := by
      simp only [sub2, List.drop_zero, Nat.sub_zero]
      rw [← q_len, List.take_length]
    simp [this]
  · show List.map q (PySem.wordsOf x) = _
    unfold PySem.wordsOf
    rw [List.map_map]
    apply List.map_congr_left
    intro ⟨i, j⟩ _
    exact q_sub x i j
theorem tk_app : ∀ (l cur r : List Nat), tk cur (l ++ 10 :: r) = tk cur (l ++ [10]) ++ tk [] r
  | [], cur, r => by
    have e : Unicode.isSpace 10 = true := by decide +kernel
    simp only [List.nil_append, tk, e, if_true]
    split <;> simp
  | c :: l, cur, r => by
    simp only [List.cons_append, tk]
    split
    · split
      · exact tk_app l [] r
      · rw [tk_app l [] r]; simp
    · exact tk_app l _ r
theorem tk_pad : ∀ (n : Nat) (r : List Nat), tk [] (List.replicate n 32 ++ r) = tk [] r
  | 0, r => by simp
  | n + 1, r => by
    have e : Unicode.isSpace 32 = true := by decide +kernel
    rw [List.replicate_succ, List.cons_append]
    simp only [tk, e, if_true]
    exact tk_pad n r

theorem flat_rep (l : Array Nat) : ∀ (n : Nat) (a : Array Nat), ((List.replicate n l).foldl (· ++ ·) a).toList = a.toList ++ (List.replicate n l.toList).flatten
  | 0, a => by simp
  | n + 1, a => by
    rw [List.replicate_succ, List.foldl_cons, flat_rep l n]
    simp [List.replicate_succ]
theorem four_rep : ∀ n : Nat, (List.replicate n [32, 32, 32, 32]).flatten = List.replicate (4 * n) 32
  | 0 => rfl
  | n + 1 => by
    rw [List.replicate_succ, List.flatten_cons, four_rep n, show 4 * (n + 1) = 4 * n + 1 + 1 + 1 + 1 by omega]
    simp only [List.replicate_succ]
    rfl
theorem pad_rep {i : Int} (h0 : 0 ≤ i) : q (padS i) = List.replicate (4 * i.toNat) 32 := by
  have e4 : (Str.ofString "    ").cps.toList = [32, 32, 32, 32] := lit_cps rfl
  have l4 : ((Str.ofString "    ").length == 0) = false := by decide +kernel
  unfold padS Txt.mul
  by_cases h : i < 1
  · have : i = 0 := by omega
    subst this
    rw [if_pos h]
    rfl
  · rw [if_neg h]
    split
    · rename_i hc
      rw [l4, Bool.or_false] at hc
      have : i = 1 := by simpa using hc
      subst this
      rw [q_lit]
      exact e4
    · show ((List.replicate i.toNat (Str.ofString "    ").cps).foldl (· ++ ·) #[]).toList = _
      rw [flat_rep, e4, four_rep]
      simp
/-- what a closed line gives -/
theorem tk_line {i : Int} (h0 : 0 ≤ i) (l r : List Nat) : tk [] (q (padS i) ++ (l ++ 10 :: r)) = tk [] (l ++ [10]) ++ tk [] r := by
  rw [pad_rep h0, tk_pad, tk_app]

-- C18
open Builtin Builtin.Str StrLaws
theorem cut_if (z : Lt) : lit "if (" ++ q z.str ++ lit ")\n" = lit "if (" ++ q z.str ++ lit ")" ++ [10] ∧ tk [] (lit "if (" ++ q z.str ++ lit ")" ++ [10]) = [q (ws "if"), q (par z)] := by
  cases z <;> exact ⟨by decide +kernel, by decide +kernel⟩
theorem cut_while (z : Lt) : tk [] (lit "while" ++ (lit " (" ++ (q z.str ++ lit ")")) ++ [10]) = [q (ws "while"), q (par z)] := by
  cases z <;> decide +kernel
theorem cut_y (y : Lt) : tk [] (q y.str ++ lit ";" ++ [10]) = [q (semi y)] ∧ tk [] (q y.str ++ (32 :: lit "=" ++ [10])) = [q y.str, q (ws "=")] := by
  cases y <;> exact ⟨by decide +kernel, by decide +kernel⟩
theorem cut_set (x y : Lt) : tk [] (SL x y ++ [10]) = [q x.str, q (ws "="), q (semi y)] := by
  have hx : q x.str = [x.code] := by rw [Lt.str_eq]; rfl
  have hy : q y.str = [y.code] := by rw [Lt.str_eq]; rfl
  have hs : q (semi y) = [y.code, 59] := rfl
  have h1 : lit " " = [32] := by decide +kernel
  have h2 : lit "=" = [61] := by decide +kernel
  have h3 : lit ";" = [59] := by decide +kernel
  have h4 : q (ws "=") = [61] := h2
  have s32 : Unicode.isSpace 32 = true := by decide +kernel
  have s61 : Unicode.isSpace 61 = false := by decide +kernel
  have s59 : Unicode.isSpace 59 = false := by decide +kernel
  have s10 : Unicode.isSpace 10 = true := by decide +kernel
  have sx : Unicode.isSpace x.code = false := by cases x <;> decide +kernel
  have sy : Unicode.isSpace y.code = false := by cases y <;> decide +kernel
  unfold SL
  rw [hs, h4, hx, hy, h1, h2, h3]
  simp [tk, s32, s61, s59, s10, sx, sy]
theorem nl_eq : lit "\n" = [10] := by decide +kernel
theorem cut_else : lit "else\n" = lit "else" ++ [10] ∧ tk [] (lit "else" ++ [10]) = [q (ws "else")] := ⟨by decide +kernel, by decide +kernel⟩
theorem cut_else2 : lit "else ;\n" = lit "else ;" ++ [10] ∧ tk [] (lit "else ;" ++ [10]) = [q (ws "else"), q (ws ";")] := ⟨by decide +kernel, by decide +kernel⟩
theorem cut_none : lit ";\n" = lit ";" ++ [10] ∧ tk [] (lit ";" ++ [10]) = [q (ws ";")] := ⟨by decide +kernel, by decide +kernel⟩
theorem cut_fev : tk [] (lit "forever" ++ [10]) = [q (ws "forever")] := by decide +kernel
theorem cut_begin : tk [] (lit "begin" ++ [10]) = [q (ws "begin")] := by decide +kernel
theorem cut_end : tk [] (lit "end" ++ [10]) = [q (ws "end")] := by decide +kernel
/-- a line with blanks in front, in the form that the texts have -/
theorem tk_ln {i : Int} (h0 : 0 ≤ i) {l r : List Nat} {ws : List (List Nat)} (h : tk [] (l ++ [10]) = ws) : tk [] (q (padS i) ++ (l ++ ([10] ++ r))) = ws ++ tk [] r := by
  have := tk_line h0 l r
  rw [h] at this
  exact this
theorem tl_words : ∀ (σ : S) (i : Int) (c : Bool) (r : List Nat), 0 ≤ i → tk [] (TL σ i c ++ r) = (WL σ c).map q ++ tk [] r := by
  intro σ
  induction σ with
  | none =>
    intro i c r h0
    have := tk_ln h0 (r := r) cut_none.2
    simp only [TL, cut_none.1, List.append_assoc] at this ⊢
    exact this
  | set x y =>
    intro i c r h0
    have := tk_ln h0 (r := r) (cut_set x y)
    simp only [TL, nl_eq, List.append_assoc] at this ⊢
    exact this
  | ite z s o ihs iho =>
    intro i c r h0
    have hif := fun r => tk_ln h0 (r := r) (cut_if z).2
    have hel := fun r => tk_ln h0 (r := r) cut_else.2
    have hel2 := fun r => tk_ln h0 (r := r) cut_else2.2
    by_cases ho : o = .none
    · subst ho
      rw [tl_if0, wl_if0]
      have e : q (padS i) ++ lit "if (" ++ q z.str ++ lit ")\n" = q (padS i) ++ ((lit "if (" ++ q z.str ++ lit ")") ++ [10]) := by
        rw [← (cut_if z).1]; simp only [List.append_assoc]
      rw [e]
      cases c with
      | false =>
        have h1 := hif (TL s (i + 1) false ++ r)
        rw [ihs (i + 1) false r (by omega)] at h1
        simp only [List.append_assoc] at h1 ⊢
        simp only [if_neg Bool.false_ne_true, List.nil_append, List.append_nil] at h1 ⊢
        rw [h1]
        simp
      | true =>
        have h1 := hif (TL s (i + 1) true ++ (q (padS i) ++ (lit "else ;" ++ ([10] ++ r))))
        rw [ihs (i + 1) true _ (by omega), hel2] at h1
        simp only [if_pos, cut_else2.1]
        simp only [List.append_assoc] at h1 ⊢
        rw [h1]
        simp
    · rw [tl_ite ho, wl_ite ho]
      have e : q (padS i) ++ lit "if (" ++ q z.str ++ lit ")\n" = q (padS i) ++ ((lit "if (" ++ q z.str ++ lit ")") ++ [10]) := by
        rw [← (cut_if z).1]; simp only [List.append_assoc]
      rw [e, cut_else.1]
      have h1 := hif (TL s (i + 1) true ++ (q (padS i) ++ (lit "else" ++ ([10] ++ (TL o (i + 1) c ++ r)))))
      rw [ihs (i + 1) true _ (by omega), hel, iho (i + 1) c r (by omega)] at h1
      simp only [List.append_assoc] at h1 ⊢
      rw [h1]
      simp
  | whl z s ih =>
    intro i c r h0
    have h1 := tk_ln h0 (r := TL s (i + 1) c ++ r) (cut_while z)
    rw [ih (i + 1) c r (by omega)] at h1
    simp only [TL, nl_eq, WL]
    simp only [List.append_assoc] at h1 ⊢
    rw [h1]
    simp
  | fev s ih =>
    intro i c r h0
    have h1 := tk_ln h0 (r := TL s (i + 1) c ++ r) cut_fev
    rw [ih (i + 1) c r (by omega)] at h1
    simp only [TL, nl_eq, WL]
    simp only [List.append_assoc] at h1 ⊢
    rw [h1]
    simp
  | blk0 =>
    intro i c r h0
    have h1 := tk_ln h0 (r := q (padS i) ++ (lit "end" ++ ([10] ++ r))) cut_begin
    rw [tk_ln h0 (r := r) cut_end] at h1
    simp only [TL, nl_eq, WL]
    simp only [List.append_assoc] at h1 ⊢
    rw [h1]
    simp
  | blk1 s ih =>
    intro i c r h0
    have h1 := tk_ln h0 (r := TL s (i + 1) false ++ (q (padS i) ++ (lit "end" ++ ([10] ++ r)))) cut_begin
    rw [ih (i + 1) false _ (by omega), tk_ln h0 (r := r) cut_end] at h1
    simp only [TL, nl_eq, WL]
    simp only [List.append_assoc] at h1 ⊢
    rw [h1]
    simp
  | blk2 s o ihs iho =>
    intro i c r h0
    have h1 := tk_ln h0 (r := TL s (i + 1) false ++ (TL o (i + 1) false ++ (q (padS i) ++ (lit "end" ++ ([10] ++ r))))) cut_begin
    rw [ihs (i + 1) false _ (by omega), iho (i + 1) false _ (by omega), tk_ln h0 (r := r) cut_end] at h1
    simp only [TL, nl_eq, WL]
    simp only [List.append_assoc] at h1 ⊢
    rw [h1]
    simp
theorem q_inj {x y : Str} (h : q x = q y) : x = y := (str_of h).trans (str_of (rfl : q y = q y)).symm
theorem map_q_inj : ∀ {a b : List Str}, a.map q = b.map q → a = b
  | [], [], _ => rfl
  | [], _ :: _, h => by simp at h
  | _ :: _, [], h => by simp at h
  | x :: a, y :: b, h => by
    simp only [List.map_cons, List.cons.injEq] at h
    rw [q_inj h.1, map_q_inj h.2]
/-- the words of a statement's text -/
theorem tx_words (σ : S) (i : Int) (c : Bool) (h0 : 0 ≤ i) : Txt.words (Tx σ i c) = WL σ c := by
  refine map_q_inj ?_
  rw [words_tk, q_tx]
  have := tl_words σ i c [] h0
  simpa [tk] using this

-- C19
theorem news_join {g h h' : Heap} {L : Addr} {l1 tl : List (Addr × Obj)} (N : News g L h l1) (N2 : News g L h' ([] ++ tl)) (k : ∀ b o, h.get? b = some o → (∀ p ∈ ([] : List (Addr × Obj)), p.1 ≠ b) → h'.get? b = some o) : News g L h' (l1 ++ tl) := by
  intro p hp
  rcases List.mem_append.mp hp with hp | hp
  · exact ⟨k _ _ (N p hp).1 (fun _ h => nomatch h), (N p hp).2⟩
  · exact N2 p hp
theorem words_small {l : List Str} {x : Str} (h : l = Txt.words x) (hx : x.length ≤ 30000) : l.length ≤ 40000 := by
  have := StrLaws.words_weight x
  rw [h]
  omega
theorem at_top {l : List Str} {σ : S} {i : Int} {c : Bool} (h : l = Txt.words (Tx σ i c)) (h0 : 0 ≤ i) : At l 0 σ c [] := by
  rw [tx_words σ i c h0] at h
  exact ⟨⟨[], by simp [h], rfl⟩, Or.inr (by simp)⟩
theorem at_top2 {l : List Str} {σ : S} {i : Int} {a b : List Str} (h : l = Txt.words (Tx σ i true)) (h0 : 0 ≤ i) (ha : a = [ws "if", par .q]) (hb : b = [ws "else", Lt.x.str, ws "=", semi .y]) : At (a ++ (l ++ b)) 0 (.ite .q σ (.set .x .y)) false [] := by
  rw [tx_words σ i true h0] at h
  subst ha hb
  refine ⟨⟨[], ?_, rfl⟩, Or.inr (by simp)⟩
  rw [wl_ite (by simp)]
  simp [h, WL]
noncomputable def idD (z : Lt) : PyData := .tuple [.str (Str.ofString "id"), .int 0, .str z.str]
noncomputable def pd : S → PyData
  | .none => .none
  | .set x y => .tuple [.str (Str.ofString "set"), .int 0, idD x, idD y, .none]
  | .ite z s o => .tuple [.str (Str.ofString "if"), .int 0, idD z, pd s, pd o]
  | .whl z s => .tuple [.str (Str.ofString "while"), .int 0, idD z, pd s]
  | .fev s => .tuple [.str (Str.ofString "forever"), .int 0, pd s]
  | .blk0 => .tuple [.str (Str.ofString "block"), .int 0, .none, .tuple [], .tuple []]
  | .blk1 s => .tuple [.str (Str.ofString "block"), .int 0, .none, .tuple [], .tuple [pd s]]
  | .blk2 s r => .tuple [.str (Str.ofString "block"), .int 0, .none, .tuple [], .tuple [pd s, pd r]]
theorem rd_tup {h : Heap} {a : Addr} {vs : Array Value} {n : Nat} {xs : List PyData} {as : List Addr} (e : h.get? a = some (tupO vs n)) (r : ReadsAll h vs.toList xs as) : Reads h (.ref a) (.tuple xs) as := .tuple e rfl rfl r
theorem id_reads {h : Heap} {v : Value} {z : Lt} (x : IdIn (InH h) v z) : ∃ as, Reads h v (idD z) as := by
  cases x with
  | mk e => exact ⟨_, rd_tup e (.cons (.str _ _) (.cons (.int _ _) (.cons (.str _ _) .nil)))⟩
theorem st_reads {h : Heap} {v : Value} {σ : S} (x : StIn (InH h) v σ) : ∃ as, Reads h v (pd σ) as := by
  induction x with
  | none => exact ⟨_, .none⟩
  | set e h1 h2 =>
    obtain ⟨_, r1⟩ := id_reads h1
    obtain ⟨_, r2⟩ := id_reads h2
    exact ⟨_, rd_tup e (.cons (.str _ _) (.cons (.int _ _) (.cons r1 (.cons r2 (.cons .none .nil)))))⟩
  | ite e h1 _ _ i1 i2 =>
    obtain ⟨_, r1⟩ := id_reads h1
    obtain ⟨_, r2⟩ := i1
    obtain ⟨_, r3⟩ := i2
    exact ⟨_, rd_tup e (.cons (.str _ _) (.cons (.int _ _) (.cons r1 (.cons r2 (.cons r3 .nil)))))⟩
  | whl e h1 _ i1 =>
    obtain ⟨_, r1⟩ := id_reads h1
    obtain ⟨_, r2⟩ := i1
    exact ⟨_, rd_tup e (.cons (.str _ _) (.cons (.int _ _) (.cons r1 (.cons r2 .nil))))⟩
  | fev e _ i1 =>
    obtain ⟨_, r2⟩ := i1
    exact ⟨_, rd_tup e (.cons (.str _ _) (.cons (.int _ _) (.cons r2 .nil)))⟩
  | blk0 e e1 e2 => exact ⟨_, rd_tup e (.cons (.str _ _) (.cons (.int _ _) (.cons .none (.cons (rd_tup e1 .nil) (.cons (rd_tup e2 .nil) .nil)))))⟩
  | blk1 e e1 e2 _ i1 =>
    obtain ⟨_, r1⟩ := i1
    exact ⟨_, rd_tup e (.cons (.str _ _) (.cons (.int _ _) (.cons .none (.cons (rd_tup e1 .nil) (.cons (rd_tup e2 (.cons r1 .nil)) .nil)))))⟩
  | blk2 e e1 e2 _ _ i1 i2 =>
    obtain ⟨_, r1⟩ := i1
    obtain ⟨_, r2⟩ := i2
    exact ⟨_, rd_tup e (.cons (.str _ _) (.cons (.int _ _) (.cons .none (.cons (rd_tup e1 .nil) (.cons (rd_tup e2 (.cons r1 (.cons r2 .nil))) .nil)))))⟩
theorem idD_shape (z : Lt) : (idD z).canLay0 = true ∧ (idD z).depth ≤ 2 := by
  cases z <;> exact ⟨by decide +kernel, by decide +kernel⟩
theorem lit_ok : PyData.strOk (Str.ofString "set") = true ∧ PyData.strOk (Str.ofString "if") = true ∧ PyData.strOk (Str.ofString "while") = true ∧ PyData.strOk (Str.ofString "forever") = true ∧ PyData.strOk (Str.ofString "block") = true := ⟨by decide +kernel, by decide +kernel, by decide +kernel, by decide +kernel, by decide +kernel⟩
theorem pd_lay (σ : S) : (pd σ).canLay0 = true := by
  obtain ⟨a1, a2, a3, a4, a5⟩ := lit_ok
  induction σ with
  | none => decide +kernel
  | blk0 => decide +kernel
  | _ => simp_all [pd, PyData.canLay0, PyData.canLayAll0, (idD_shape _).1]
theorem dall {n : Nat} : ∀ xs : List PyData, (∀ x ∈ xs, x.depth ≤ n) → PyData.depthAll xs ≤ n
  | [], _ => by simp only [PyData.depthAll]; exact Nat.zero_le _
  | x :: r, h => by
    simp only [PyData.depthAll]
    exact Nat.max_le.mpr ⟨h x (.head _), dall r fun y hy => h y (.tail _ hy)⟩
theorem tup_le {n : Nat} {xs : List PyData} (h : ∀ x ∈ xs, x.depth ≤ n) : (PyData.tuple xs).depth ≤ n + 1 := by
  have := dall xs h
  simp only [PyData.depth]
  omega
theorem leaf_le (n : Nat) (x : Str) : (PyData.str x).depth ≤ n + 1 ∧ (PyData.int 0).depth ≤ n + 1 ∧ PyData.none.depth ≤ n + 1 ∧ (PyData.tuple []).depth ≤ n + 1 := by
  simp only [PyData.depth, PyData.depthAll]
  omega
theorem up_le {a n : Nat} {d : PyData} (h : d.depth ≤ 2 * a + 3) (k : a ≤ n) : d.depth ≤ 2 * n + 3 := by omega
theorem all4 {n : Nat} {x y z u : PyData} (a : x.depth ≤ n) (b : y.depth ≤ n) (c : z.depth ≤ n) (d : u.depth ≤ n) : ∀ w ∈ [x, y, z, u], w.depth ≤ n := by
  simp only [List.forall_mem_cons, a, b, c, d, true_and]
  exact fun _ h => nomatch h
theorem all5 {n : Nat} {x y z u v : PyData} (a : x.depth ≤ n) (b : y.depth ≤ n) (c : z.depth ≤ n) (d : u.depth ≤ n) (e : v.depth ≤ n) : ∀ w ∈ [x, y, z, u, v], w.depth ≤ n := by
  simp only [List.forall_mem_cons, a, b, c, d, e, true_and]
  exact fun _ h => nomatch h
theorem deep4 {n : Nat} {x y z u : PyData} (h : ∀ w ∈ [x, y, z, u], w.depth ≤ 2 * n + 4) : (PyData.tuple [x, y, z, u]).depth ≤ 2 * (n + 1) + 3 := tup_le h
theorem deep5 {n : Nat} {x y z u v : PyData} (h : ∀ w ∈ [x, y, z, u, v], w.depth ≤ 2 * n + 4) : (PyData.tuple [x, y, z, u, v]).depth ≤ 2 * (n + 1) + 3 := tup_le h
theorem two_le {d : PyData} (n : Nat) (h : d.depth ≤ 2) : d.depth ≤ 2 * n + 4 := by omega
theorem sub_le {d : PyData} {a n : Nat} (h : d.depth ≤ 2 * a + 3) (k : a ≤ n) : d.depth ≤ 2 * n + 4 := by omega
theorem pd_depth (σ : S) : (pd σ).depth ≤ 2 * S.ht σ + 3 := by
  induction σ with
  | none => exact (leaf_le 2 Str.empty).2.2.1
  | set x y => exact tup_le (n := 2) (all5 (leaf_le 1 _).1 (leaf_le 1 Str.empty).2.1 (idD_shape x).2 (idD_shape y).2 (leaf_le 1 Str.empty).2.2.1)
  | blk0 => exact tup_le (n := 2) (all5 (leaf_le 1 _).1 (leaf_le 1 Str.empty).2.1 (leaf_le 1 Str.empty).2.2.1 (leaf_le 1 Str.empty).2.2.2 (leaf_le 1 Str.empty).2.2.2)
  | ite z s o i1 i2 => exact deep5 (all5 (leaf_le _ _).1 (leaf_le _ Str.empty).2.1 (two_le _ (idD_shape z).2) (sub_le i1 (Nat.le_max_left _ _)) (sub_le i2 (Nat.le_max_right _ _)))
  | whl z s i1 => exact deep4 (all4 (leaf_le _ _).1 (leaf_le _ Str.empty).2.1 (two_le _ (idD_shape z).2) (sub_le i1 (Nat.le_refl _)))
  | fev s i1 =>
    refine tup_le (n := 2 * S.ht s + 4) ?_
    simp only [List.forall_mem_cons, (leaf_le _ _).1, (leaf_le _ Str.empty).2.1, sub_le i1 (Nat.le_refl _), true_and]
    exact fun _ h => nomatch h
  | blk1 s i1 =>
    refine deep5 (all5 (leaf_le _ _).1 (leaf_le _ Str.empty).2.1 (leaf_le _ Str.empty).2.2.1 (leaf_le _ Str.empty).2.2.2 (tup_le ?_))
    simp only [List.forall_mem_cons, i1, true_and]
    exact fun _ h => nomatch h
  | blk2 s r i1 i2 =>
    refine deep5 (all5 (leaf_le _ _).1 (leaf_le _ Str.empty).2.1 (leaf_le _ Str.empty).2.2.1 (leaf_le _ Str.empty).2.2.2 (tup_le ?_))
    simp only [List.forall_mem_cons, up_le i1 (Nat.le_max_left _ _), up_le i2 (Nat.le_max_right _ _), true_and]
    exact fun _ h => nomatch h
/-- the pair of a statement and of a number -/
theorem pair_reads {h : Heap} {a : Addr} {v : Value} {σ : S} {i : Int} {t : Tok} {n : Nat} (e : h.get? a = some (tupO #[v, .int i t] n)) (x : StIn (InH h) v σ) : ∃ as, Reads h (.ref a) (.tuple [pd σ, .int i]) as := by
  obtain ⟨_, r⟩ := st_reads x
  exact ⟨_, rd_tup e (.cons r (.cons (.int _ _) .nil))⟩
theorem pair_shape {σ : S} {i : Int} (hk : S.ht σ ≤ 10) : SeqAt.shaped (.tuple [pd σ, .int i]) = true := by
  have h1 := pd_lay σ
  have h2 := pd_depth σ
  unfold SeqAt.shaped
  have h3 : (PyData.tuple [pd σ, .int i]).depth ≤ 64 := by
    simp only [PyData.depth, PyData.depthAll]
    omega
  rw [decide_eq_true h3, Bool.and_true]
  simp only [PyData.canLay0, PyData.canLayAll0, h1, Bool.and_true]
section
variable {prog : Program} {w : World} {A : Around} {E : Value → Shared → Prop} {s : Shared}
theorem ne_pair {a b : Addr} {v v' : Value} {σ : S} {i j : Int} {t u : Tok} {n n' : Nat} {Q : Value → Shared → Prop} (ea : s.heap.get? a = some (tupO #[v, .int i t] n)) (eb : s.heap.get? b = some (tupO #[v', .int j u] n')) (x : StIn (InH s.heap) v σ) (y : StIn (InH s.heap) v' σ)
    (hk : S.ht σ ≤ 10) (hij : i = j) (hu : A.units + 64 < cLine) (h : Q (.bool false) s) : wpAny (model prog w) A (compareOp .NotEq (.ref a) (.ref b)) Q E s := by
  subst hij
  obtain ⟨_, ra⟩ := pair_reads ea x
  obtain ⟨_, rb⟩ := pair_reads eb y
  have sh := pair_shape (σ := σ) (i := i) hk
  refine ne_dataH ra rb sh sh hu ?_
  rw [SeqAt.eqv_refl _ (SeqAt.canLay_of_shaped sh)]
  exact h
end

-- C20
open Builtin Builtin.Str StrLaws
/-- a line that begins with k times four blanks or more; then stands a sign that is no blank -/
def Good (k : Nat) (l : List Nat) : Prop := ∃ n c r, k ≤ n ∧ l = List.replicate (4 * n) 32 ++ c :: r ∧ c ≠ 32 ∧ 10 ∉ c :: r
noncomputable def LL (ls : List (List Nat)) : List Nat := (ls.map (· ++ [10])).flatten
/-- a text of such lines, each with its end -/
def Lines (k : Nat) (l : List Nat) : Prop := ∃ ls, l = LL ls ∧ ∀ x ∈ ls, Good k x
theorem Lines.nil (k : Nat) : Lines k [] := ⟨[], rfl, fun _ h => nomatch h⟩
theorem Lines.app {k : Nat} {a b : List Nat} (h : Lines k a) (g : Lines k b) : Lines k (a ++ b) := by
  obtain ⟨x, rfl, hx⟩ := h
  obtain ⟨y, rfl, hy⟩ := g
  exact ⟨x ++ y, by simp [LL], fun z hz => (List.mem_append.mp hz).elim (hx z) (hy z)⟩
noncomputable def ink : List Nat → Bool
  | [] => false
  | c :: r => !(c == 32) && !((c :: r).contains 10)
theorem Lines.line {k : Nat} {i : Int} {l r : List Nat} (h0 : (k : Int) ≤ i) (hl : ink l = true) (h : Lines k r) : Lines k (q (padS i) ++ (l ++ ([10] ++ r))) := by
  obtain ⟨ls, rfl, hs⟩ := h
  refine ⟨(q (padS i) ++ l) :: ls, by simp [LL], fun x hx => ?_⟩
  rcases List.mem_cons.mp hx with rfl | hx
  · rw [pad_rep (by omega)]
    cases l with
    | nil => cases hl
    | cons c r =>
      simp only [ink, Bool.and_eq_true, Bool.not_eq_true', beq_eq_false_iff_ne] at hl
      refine ⟨i.toNat, c, r, by omega, rfl, hl.1, fun q => ?_⟩
      have := List.contains_iff_mem.mpr q
      rw [hl.2] at this
      cases this
  · exact hs x hx
theorem ink_if (z : Lt) : lit "if (" ++ q z.str ++ lit ")\n" = lit "if (" ++ q z.str ++ lit ")" ++ [10] ∧ ink (lit "if (" ++ q z.str ++ lit ")") = true := by
  cases z <;> exact ⟨by decide +kernel, by decide +kernel⟩
theorem ink_while (z : Lt) : ink (lit "while" ++ (lit " (" ++ (q z.str ++ lit ")"))) = true := by cases z <;> decide +kernel
theorem ink_set (x y : Lt) : ink (SL x y) = true := by
  have hx : q x.str = [x.code] := by rw [Lt.str_eq]; rfl
  have hy : q y.str = [y.code] := by rw [Lt.str_eq]; rfl
  have h1 : lit " " = [32] := by decide +kernel
  have h2 : lit "=" = [61] := by decide +kernel
  have h3 : lit ";" = [59] := by decide +kernel
  unfold SL
  rw [hx, hy, h1, h2, h3]
  have a : (x.code == 32) = false ∧ (10 == x.code) = false := by cases x <;> exact ⟨by decide, by decide⟩
  have b : (10 == y.code) = false := by cases y <;> decide
  simp [ink, List.contains, List.elem, a.1, a.2, b]
theorem ink_lits : ink (lit "else") = true ∧ ink (lit "else ;") = true ∧ ink (lit ";") = true ∧ ink (lit "forever") = true ∧ ink (lit "begin") = true ∧ ink (lit "end") = true :=
  ⟨by decide +kernel, by decide +kernel, by decide +kernel, by decide +kernel, by decide +kernel, by decide +kernel⟩
theorem tl_lines (k : Nat) : ∀ (σ : S) (i : Int) (c : Bool) (r : List Nat), (k : Int) ≤ i → Lines k r → Lines k (TL σ i c ++ r) := by
  obtain ⟨k1, k2, k3, k4, k5, k6⟩ := ink_lits
  intro σ
  induction σ with
  | none =>
    intro i c r h0 hr
    have := Lines.line h0 k3 hr
    simp only [TL, cut_none.1, List.append_assoc] at this ⊢
    exact this
  | set x y =>
    intro i c r h0 hr
    have := Lines.line h0 (ink_set x y) hr
    simp only [TL, nl_eq, List.append_assoc] at this ⊢
    exact this
  | ite z s o ihs iho =>
    intro i c r h0 hr
    by_cases ho : o = .none
    · subst ho
      rw [tl_if0]
      have e : q (padS i) ++ lit "if (" ++ q z.str ++ lit ")\n" = q (padS i) ++ ((lit "if (" ++ q z.str ++ lit ")") ++ [10]) := by
        rw [← (ink_if z).1]; simp only [List.append_assoc]
      rw [e]
      cases c with
      | false =>
        have h1 := Lines.line h0 (ink_if z).2 (ihs (i + 1) false r (by omega) hr)
        simp only [List.append_assoc] at h1 ⊢
        simp only [if_neg Bool.false_ne_true, List.nil_append, List.append_nil] at h1 ⊢
        exact h1
      | true =>
        have h1 := Lines.line h0 (ink_if z).2 (ihs (i + 1) true _ (by omega) (Lines.line h0 k2 hr))
        simp only [if_pos, cut_else2.1]
        simp only [List.append_assoc] at h1 ⊢
        exact h1
    · rw [tl_ite ho]
      have e : q (padS i) ++ lit "if (" ++ q z.str ++ lit ")\n" = q (padS i) ++ ((lit "if (" ++ q z.str ++ lit ")") ++ [10]) := by
        rw [← (ink_if z).1]; simp only [List.append_assoc]
      rw [e, cut_else.1]
      have h1 := Lines.line h0 (ink_if z).2 (ihs (i + 1) true _ (by omega) (Lines.line h0 k1 (iho (i + 1) c r (by omega) hr)))
      simp only [List.append_assoc] at h1 ⊢
      exact h1
  | whl z s ih =>
    intro i c r h0 hr
    have h1 := Lines.line h0 (ink_while z) (ih (i + 1) c r (by omega) hr)
    simp only [TL, nl_eq, List.append_assoc] at h1 ⊢
    exact h1
  | fev s ih =>
    intro i c r h0 hr
    have h1 := Lines.line h0 k4 (ih (i + 1) c r (by omega) hr)
    simp only [TL, nl_eq, List.append_assoc] at h1 ⊢
    exact h1
  | blk0 =>
    intro i c r h0 hr
    have h1 := Lines.line h0 k5 (Lines.line h0 k6 hr)
    simp only [TL, nl_eq, List.append_assoc] at h1 ⊢
    exact h1
  | blk1 s ih =>
    intro i c r h0 hr
    have h1 := Lines.line h0 k5 (ih (i + 1) false _ (by omega) (Lines.line h0 k6 hr))
    simp only [TL, nl_eq, List.append_assoc] at h1 ⊢
    exact h1
  | blk2 s o ihs iho =>
    intro i c r h0 hr
    have h1 := Lines.line h0 k5 (ihs (i + 1) false _ (by omega) (iho (i + 1) false _ (by omega) (Lines.line h0 k6 hr)))
    simp only [TL, nl_eq, List.append_assoc] at h1 ⊢
    exact h1
theorem tx_lines {i : Int} (σ τ : S) (c d : Bool) (h0 : 0 ≤ i) : Lines i.toNat (q (Tx σ i c ++ Tx τ i d)) := by
  rw [q_append, q_tx, q_tx]
  have h2 := tl_lines i.toNat τ i d [] (by omega) (.nil _)
  exact tl_lines i.toNat σ i c _ (by omega) (by simpa using h2)

/-- pieces with the line's end between them -/
noncomputable def jn : List (List Nat) → List Nat
  | [] => []
  | [a] => a
  | a :: b :: r => a ++ 10 :: jn (b :: r)
theorem q_sjoin : ∀ ys : List Str, q (Str.join ⟨#[10]⟩ ys) = jn (ys.map q)
  | [] => rfl
  | [x] => by simp [Str.join, jn]
  | x :: y :: r => by
    have ih := q_sjoin (y :: r)
    show q (x ++ ⟨#[10]⟩ ++ Str.join ⟨#[10]⟩ (y :: r)) = _
    rw [q_append, q_append, ih]
    simp [jn, q]
theorem cut_ten : ∀ {a l x y : List Nat}, 10 ∉ a → 10 ∉ l → a ++ 10 :: x = l ++ 10 :: y → a = l ∧ x = y
  | [], [], x, y, _, _, h => by simpa using h
  | [], d :: l, x, y, _, hl, h => by
    simp at h
    exact absurd (by rw [← h.1]; exact .head _) hl
  | c :: a, [], x, y, ha, _, h => by
    simp at h
    exact absurd (by rw [h.1]; exact .head _) ha
  | c :: a, d :: l, x, y, ha, hl, h => by
    simp only [List.cons_append, List.cons.injEq] at h
    obtain ⟨e1, e2⟩ := cut_ten (fun q => ha (.tail _ q)) (fun q => hl (.tail _ q)) h.2
    exact ⟨by rw [h.1, e1], e2⟩
theorem pieces_eq : ∀ (ls ps : List (List Nat)), ps ≠ [] → (∀ p ∈ ps, 10 ∉ p) → (∀ l ∈ ls, 10 ∉ l) → jn ps = LL ls → ps = ls ++ [[]]
  | [], [], h, _, _, _ => absurd rfl h
  | [], [a], _, _, _, h => by
    have : a = [] := h
    rw [this]; rfl
  | [], a :: b :: r, _, _, _, h => by
    have h' : a ++ 10 :: jn (b :: r) = [] := h
    simp at h'
  | l :: ls, [], h, _, _, _ => absurd rfl h
  | l :: ls, [a], _, hp, _, h => by
    have h' : a = (l ++ [10]) ++ LL ls := h
    exact absurd (by rw [h']; simp) (hp a (.head _))
  | l :: ls, a :: b :: r, _, hp, hl, h => by
    have h' : a ++ 10 :: jn (b :: r) = l ++ 10 :: LL ls := by
      have : a ++ 10 :: jn (b :: r) = (l ++ [10]) ++ LL ls := h
      simpa using this
    obtain ⟨e1, e2⟩ := cut_ten (hp a (.head _)) (hl l (.head _)) h'
    have := pieces_eq ls (b :: r) (by simp) (fun p hp' => hp p (.tail _ hp')) (fun p hp' => hl p (.tail _ hp')) e2
    rw [e1, this]; rfl
theorem Good.no10 {k : Nat} {l : List Nat} (h : Good k l) : 10 ∉ l := by
  obtain ⟨n, c, r, _, rfl, _, h⟩ := h
  intro q
  rcases List.mem_append.mp q with q | q
  · exact absurd (List.eq_of_mem_replicate q) (by decide)
  · exact h q
theorem nl_str : Str.ofString "\n" = ⟨#[10]⟩ := by decide +kernel
theorem split_good {k : Nat} {x : Str} (h : Lines k (q x)) : ∀ p ∈ (Txt.split x (Str.ofString "\n")).dropLast, Good k (q p) := by
  obtain ⟨ls, e, hs⟩ := h
  rw [nl_str]
  have j : jn ((Txt.split x ⟨#[10]⟩).map q) = LL ls := by rw [← q_sjoin, join_split, e]
  have hne : (Txt.split x ⟨#[10]⟩).map q ≠ [] := by
    have := split_pos x ⟨#[10]⟩
    intro q0
    have q1 := congrArg List.length q0
    rw [List.length_map] at q1
    simp only [List.length_nil] at q1
    omega
  have := pieces_eq ls _ hne (fun p hp => by
    obtain ⟨y, hy, rfl⟩ := List.mem_map.mp hp
    exact split_free x 10 y hy) (fun l hl => (hs l hl).no10) j
  intro p hp
  have h1 : q p ∈ ((Txt.split x ⟨#[10]⟩).dropLast).map q := List.mem_map_of_mem hp
  rw [List.map_dropLast, this, List.dropLast_concat] at h1
  exact hs _ h1
/-- what lstrip(' ') takes away -/
theorem good_strip {k : Nat} {p : Str} (h : Good k (q p)) : ∃ n : Nat, k ≤ n ∧ p.length = (Txt.lstripChars p (Str.ofString " ")).length + 4 * n := by
  obtain ⟨n, c, r, hk, e, hc, _⟩ := h
  refine ⟨n, hk, ?_⟩
  have sp : (Str.ofString " ").cps = #[32] := by decide +kernel
  have hlo : stripLo (#[32] : Array Nat).contains true p = 4 * n := by
    show (List.takeWhile _ (q p)).length = _
    rw [e, List.takeWhile_append_of_pos]
    · simp [hc]
    · intro a ha
      rw [List.eq_of_mem_replicate ha]
      decide +kernel
  have hle : 4 * n ≤ p.length := by
    rw [← q_len, e]; simp
  unfold Txt.lstripChars Txt.stripBy
  rw [sp]
  split
  · rename_i hs
    simp only [stripSame, Bool.and_eq_true, beq_iff_eq] at hs
    rw [hlo] at hs
    omega
  · show _ = (strSub p (stripLo _ true p) p.length).length + _
    rw [hlo]
    simp only [strSub, Str.length, Array.size_extract] at hle ⊢
    omega
theorem mul_rep {i : Int} (h0 : 0 ≤ i) : q (Txt.mul (Str.ofString " ") (4 * i)) = List.replicate (4 * i.toNat) 32 := by
  have e4 : (Str.ofString " ").cps.toList = [32] := lit_cps rfl
  have l4 : ((Str.ofString " ").length == 0) = false := by decide +kernel
  have rep : ∀ n : Nat, (List.replicate n [32]).flatten = List.replicate n 32 := fun n => by
    induction n with
    | zero => rfl
    | succ n ih => rw [List.replicate_succ, List.flatten_cons, ih]; rfl
  unfold Txt.mul
  by_cases h : 4 * i < 1
  · have : i = 0 := by omega
    subst this
    rw [if_pos h]
    rfl
  · rw [if_neg h]
    split
    · rename_i hc
      rw [l4, Bool.or_false] at hc
      have : 4 * i = 1 := by simpa using hc
      omega
    · show ((List.replicate (4 * i).toNat (Str.ofString " ").cps).foldl (· ++ ·) #[]).toList = _
      rw [flat_rep, e4, rep]
      simp
      omega
theorem starts_of {x y : Str} {r : List Nat} (h : q x = q y ++ r) : Txt.startswith x y = true := by
  unfold Txt.startswith
  have hl : y.length ≤ x.length := by rw [← q_len, ← q_len, h]; simp
  rw [subAt_eq]
  have e : x.cps.toList = y.cps.toList ++ r := h
  have e2 : y.length = y.cps.toList.length := (q_len y).symm
  rw [e, e2]
  have e3 : x.length = (y.cps.toList ++ r).length := by rw [← e]; exact (q_len x).symm
  simp [e3]
theorem ends_of {x y : Str} {r : List Nat} (h : q x = r ++ q y) : Txt.endswith x y = true := by
  unfold Txt.endswith
  rw [subAt_eq]
  have e : x.cps.toList = r ++ y.cps.toList := h
  have e2 : y.length = y.cps.toList.length := (q_len y).symm
  have e3 : x.length = (r ++ y.cps.toList).length := by rw [← e]; exact (q_len x).symm
  rw [e, e2, e3, List.length_append, Nat.add_sub_cancel, List.drop_left, List.take_length]
  simp
theorem tx_starts {i : Int} (z : Lt) (σ τ : S) (c : Bool) (h0 : 0 ≤ i) : Txt.startswith (Tx (.ite z σ τ) i c) (Txt.mul (Str.ofString " ") (4 * i) ++ Str.ofString "if (") = true := by
  have hp := pad_rep h0
  have hm := mul_rep h0
  by_cases ho : τ = .none
  · subst ho
    exact starts_of (r := q z.str ++ lit ")\n" ++ TL σ (i + 1) c ++ (if c then q (padS i) ++ lit "else ;\n" else [])) (by
      rw [q_tx, tl_if0, q_append, hm, hp, q_lit]; simp only [List.append_assoc])
  · exact starts_of (r := q z.str ++ lit ")\n" ++ TL σ (i + 1) true ++ (q (padS i) ++ lit "else\n" ++ TL τ (i + 1) c)) (by
      rw [q_tx, tl_ite ho, q_append, hm, hp, q_lit]; simp only [List.append_assoc])
theorem lines_end {k : Nat} {l : List Nat} (h : Lines k l) (hne : l ≠ []) : ∃ r, l = r ++ [10] := by
  obtain ⟨ls, rfl, _⟩ := h
  cases h : ls.reverse with
  | nil =>
    rw [List.reverse_eq_nil_iff] at h
    subst h
    exact absurd rfl hne
  | cons a b =>
    have : ls = b.reverse ++ [a] := by
      have := congrArg List.reverse h
      simpa using this
    rw [this]
    exact ⟨LL b.reverse ++ a, by simp [LL]⟩
theorem tx_ends {i : Int} (z : Lt) (σ τ : S) (c : Bool) (h0 : 0 ≤ i) : Txt.endswith (Tx (.ite z σ τ) i c) (Str.ofString "\n") = true := by
  have h1 := tl_lines i.toNat (.ite z σ τ) i c [] (by omega) (.nil _)
  rw [List.append_nil] at h1
  obtain ⟨r, hr⟩ := lines_end h1 (by
    have h3 : (lit "if (").length = 4 := by decide +kernel
    intro q0
    have := congrArg List.length q0
    by_cases ho : τ = .none
    · subst ho
      rw [tl_if0] at this
      simp [h3] at this
    · rw [tl_ite ho] at this
      simp [h3] at this)
  exact ends_of (r := r) (by rw [q_tx, hr, nl_str]; rfl)

-- C21
section
variable {prog : Program} {w : World} {A : Around} {E : Value → Shared → Prop} {s : Shared} {env : Env} {h₀ : Heap} {x y : Str} {body : List Stmt} {Q : Flow → Shared → Prop}
/-- what a turn leaves: the names but x and y as they were -/
def OnlyXY (x y : Str) (m₀ m' : Str → Option Value) : Prop := ∀ z, z ≠ x → z ≠ y → m' z = m₀ z
theorem only_eq {m₀ m₁ : Str → Option Value} (o : Option Value) (h : OnlyXY x y m₀ m₁) : (fun z => if z = x then o else m₁ z) = fun z => if z = x then o else if z = y then m₁ z else m₀ z := by
  funext z
  by_cases h1 : z = x
  · simp [h1]
  · by_cases h2 : z = y
    · simp [h2]
    · simp only [if_neg h1, if_neg h2]; exact h z h1 h2
/-- a loop over a list that the call has made, whose turns store the two names alone -/
theorem iter_rows {l : Addr} {vs : List Value} {nn : Nat} {m₀ : Str → Option Value} {news : List (Addr × Obj)} (y : Str) (P : Value → Prop)
    (hh : A.handled = none) (hl : (l, listOf vs.toArray nn) ∈ news) (F : Fr h₀ env.locals s.heap m₀) (N : News h₀ env.locals s.heap news) (hv : ∀ v ∈ vs, P v)
    (turn : ∀ v (u : Str → Option Value) h tk own, P v → Fr h₀ env.locals h (fun z => if z = x then some v else if z = y then u z else m₀ z) → News h₀ env.locals h own →
      wpAny (model prog w) A (execs body env) (InvPostN h₀ env.locals (fun m' nx => nx = [] ∧ OnlyXY x y m₀ m') own [] { s with heap := h, toks := tk } Q) E { s with heap := h, toks := tk })
    (done : ∀ (u : Str → Option Value) h tk, Fr h₀ env.locals h (fun z => if z = x then u z else if z = y then u z else m₀ z) → News h₀ env.locals h [] → Q .next { s with heap := h, toks := tk }) :
    wpAny (model prog w) A (pyIter (.ref l)) (fun it s₂ => LoopAtV prog w A h₀ env x body Q E it s₂) E s := by
  have hol : s.heap.get? l = some (listOf vs.toArray nn) := (N _ hl).1
  have hls : s.heap.IsList l vs.toArray := ⟨_, hol, rfl, nn, rfl⟩
  have hne : l ≠ s.heap.objs.size := Nat.ne_of_lt (Heap.lt_size hol)
  refine wpAny_pyIter_list hls ?_
  refine loop_invN (fun _ m nx => nx = [] ∧ OnlyXY x y m₀ m) (Walks.list (prog := prog) (w := w) hh s.heap.objs.size l hne vs.toArray) ?_ ?_ (news := []) (by intro p h; cases h) (by intro p h; cases h)
    ⟨⟨_, Heap.get?_push_size _ rfl, rfl, rfl⟩, hls.at fun o e => Heap.get?_push_of_some _ e⟩ (F.push _) (fun p h => by cases h) ⟨rfl, fun _ _ _ => rfl⟩ ?_ ?_
  · intro hm
    rcases List.mem_cons.mp hm with e | hm
    · exact absurd F.ns.lt (e ▸ Nat.lt_irrefl _)
    · exact (N _ hl).2.1 ((List.mem_singleton.mp hm).symm)
  · intro b hb
    rw [List.mem_singleton.mp hb]
    exact next_is_new F
  · rintro i v m₁ nx h tk own hi hv' _ _ ⟨rfl, hJ⟩ F₁ N₁
    have hm : v ∈ vs := by
      have : vs[i]? = some v := by simpa using hv'
      exact List.mem_of_getElem? this
    rw [only_eq _ hJ] at F₁
    exact turn v m₁ h tk own (hv v hm) F₁ N₁
  · rintro m₁ nx h tk ⟨rfl, hJ⟩ F₁ N₁
    have e : m₁ = fun z => if z = x then m₁ z else if z = y then m₁ z else m₀ z := by
      funext z
      by_cases h1 : z = x
      · simp [h1]
      · by_cases h2 : z = y
        · simp [h2]
        · simp only [if_neg h1, if_neg h2]; exact hJ z h1 h2
    rw [e] at F₁
    exact done m₁ h tk F₁ N₁
end
theorem st_news {h₀ h : Heap} {L : Addr} {tl news : List (Addr × Obj)} {v : Value} {σ : S} (N : News h₀ L h news) (hx : ∀ q ∈ tl, q ∈ news) (x : StIn (InL tl) v σ) : StIn (InH h) v σ := x.mono fun _ _ q => (N _ (hx _ q)).1
theorem st_keep {h₀ h : Heap} {L : Addr} {m : Str → Option Value} {v : Value} {σ : S} (F : Fr h₀ L h m) (x : StIn (InH h₀) v σ) : StIn (InH h) v σ := x.mono fun _ _ q => F.keep _ _ q
section
variable {prog : Program} {w : World} {A : Around} {E : Value → Shared → Prop} {s : Shared}
theorem ne_pairN {h₀ : Heap} {L a b : Addr} {news : List (Addr × Obj)} {v v' : Value} {σ : S} {i j : Int} {t u : Tok} {n n' : Nat} {Q : Value → Shared → Prop} (N : News h₀ L s.heap news)
    (ea : (a, tupO #[v, .int i t] n) ∈ news) (eb : (b, tupO #[v', .int j u] n') ∈ news) (x : StIn (InH s.heap) v σ) (y : StIn (InH s.heap) v' σ)
    (hk : S.ht σ ≤ 10) (hij : i = j) (hu : A.units + 64 < cLine) (h : Q (.bool false) s) : wpAny (model prog w) A (compareOp .NotEq (.ref a) (.ref b)) Q E s :=
  ne_pair (N _ ea).1 (N _ eb).1 x y hk hij hu h
end
theorem len_top {l : List Str} {σ : S} {i : Int} {c : Bool} (h : l = Txt.words (Tx σ i c)) (h0 : 0 ≤ i) : (0 : Int) + ((WL σ c).length : Int) = (l.length : Int) := by
  rw [tx_words σ i c h0] at h
  rw [h]
  omega
theorem small_fit {n : Nat} (h : n ≤ 1000000) : (n : Int) < 2 ^ 63 := by omega
section
variable {prog : Program} {w : World} {A : Around} {E : Value → Shared → Prop} {s : Shared} {h₀ : Heap} {L : Addr} {m : Str → Option Value} {news : List (Addr × Obj)}
theorem add_strs {a b : Addr} {vs us : List Value} {xs ys : List Str} {n k : Nat} {Q : Value → Shared → Prop} (F : Fr h₀ L s.heap m) (N : News h₀ L s.heap news) (ea : (a, listOf vs.toArray n) ∈ news) (eb : (b, listOf us.toArray k) ∈ news)
    (hx : StrsAre vs xs) (hy : StrsAre us ys) (hz : xs.length + ys.length ≤ 100000)
    (h : ∀ D ws h', Fr h₀ L h' m → News h₀ L h' ((D, listOf (List.toArray ws) 0) :: news) → (∀ p ∈ news, p.1 < D) → StrsAre ws (xs ++ ys) → Q (.ref D) { s with heap := h' }) :
    wpAny (model prog w) A (binaryOp .Add (.ref a) (.ref b)) Q E s :=
  add_lists F N ⟨_, (N _ ea).1, rfl, n, rfl⟩ ⟨_, (N _ eb).1, rfl, k, rfl⟩ (fun h' F' N' => h _ _ h' F' N' (fun p hp => Heap.lt_size (N p hp).1) (hx.append' hy)) (by rw [hx.len_eq, hy.len_eq, sizeLine_eq]; omega)
end
theorem news_at {h₀ h : Heap} {L a : Addr} {o : Obj} {news : List (Addr × Obj)} (N : News h₀ L h news) (e : (a, o) ∈ news) : InH h a o := (N _ e).1
theorem at_top3 {l : List Str} {σ : S} {i : Int} (h : l = Txt.words (Tx σ i true)) (h0 : 0 ≤ i) : At (([Str.ofString "if", Str.ofString "(q)"] ++ l) ++ [Str.ofString "else", Str.ofString "x", Str.ofString "=", Str.ofString "y;"]) 0 (.ite .q σ (.set .x .y)) false [] := by
  have e1 : Str.ofString "(q)" = par .q := by decide +kernel
  have e2 : Str.ofString "y;" = semi .y := by decide +kernel
  rw [e1, e2, List.append_assoc]
  exact at_top2 h h0 rfl rfl
theorem small_top3 {l : List Str} {x : Str} (h : l = Txt.words x) (hx : x.length ≤ 30000) : (([Str.ofString "if", Str.ofString "(q)"] ++ l) ++ [Str.ofString "else", Str.ofString "x", Str.ofString "=", Str.ofString "y;"]).length ≤ 1000000 := by
  have := words_small h hx
  simp only [List.length_append, List.length_cons, List.length_nil]
  omega
theorem len_top3 {l : List Str} {σ : S} {i : Int} (h : l = Txt.words (Tx σ i true)) (h0 : 0 ≤ i) :
    (0 : Int) + ((WL (.ite .q σ (.set .x .y)) false).length : Int) = ((([Str.ofString "if", Str.ofString "(q)"] ++ l) ++ [Str.ofString "else", Str.ofString "x", Str.ofString "=", Str.ofString "y;"]).length : Int) := by
  rw [h, tx_words σ i true h0, wl_ite (by simp)]
  simp [WL]
/-- the value of a line -/
def LineV (k : Nat) (v : Value) : Prop := ∃ (p : Str) (t : Tok), v = .str p t ∧ Good k (q p) ∧ p.length ≤ 60001
theorem pick_last (vs : List Value) : (slicePick vs.toArray none (some (-1)) none).toList = vs.dropLast := by
  have h := slicePick_butLast vs.toArray 1 (Nat.le_refl 1)
  have e : (-((1 : Nat) : Int)) = -1 := rfl
  rw [e] at h
  rw [h, List.dropLast_eq_take]
  simp
theorem strs_drop : ∀ {vs : List Value} {l : List Str}, StrsAre vs l → ∀ v ∈ vs.dropLast, ∃ x t, v = .str x t ∧ x ∈ l.dropLast
  | _, _, .nil, v, h => by cases h
  | _, _, .cons x t .nil, v, h => by cases h
  | _, _, .cons x t (.cons y u r), v, h => by
    rcases List.mem_cons.mp h with rfl | h
    · exact ⟨x, t, rfl, .head _⟩
    · obtain ⟨z, t', e, hz⟩ := strs_drop (.cons y u r) v h
      exact ⟨z, t', e, .tail _ hz⟩
/-- the lines of a text -/
theorem rows_good {vs : List Value} {l : List Str} {x : Str} {k : Nat} (hs : StrsAre vs l) (e : l = Txt.split x (Str.ofString "\n")) (h : Lines k (q x)) (hx : x.length ≤ 60001) : ∀ v ∈ (slicePick vs.toArray none (some (-1)) none).toList, LineV k v := by
  intro v hv
  rw [pick_last] at hv
  obtain ⟨z, t, rfl, hz⟩ := strs_drop hs v hv
  rw [e] at hz
  exact ⟨z, t, rfl, split_good h z hz, Nat.le_trans (part_short (List.dropLast_subset _ hz)) hx⟩
section
variable {prog : Program} {w : World} {A : Around} {E : Value → Shared → Prop} {s : Shared} {h₀ : Heap} {L l : Addr} {m : Str → Option Value} {news : List (Addr × Obj)} {value slice : PySem.Expr} {vs : List Value} {Q : Value → Shared → Prop} {t : Tok} {n : Nat}
theorem slice_rows {ps : List Str} (F : Fr h₀ L s.heap m) (N : News h₀ L s.heap news) (hl : (l, listOf vs.toArray n) ∈ news) (hs : StrsAre vs ps) (hz : ps.length ≤ 70000)
    (h : ∀ D h', Fr h₀ L h' m → News h₀ L h' ((D, listOf (List.toArray (slicePick vs.toArray none (some (-1)) none).toList) 0) :: news) → (∀ p ∈ news, p.1 < D) → Q (.ref D) { s with heap := h' })
    (hq : subscripted slice false (.ref l) (.ref s.heap.objs.size) = operate [.ref s.heap.objs.size, .ref l] (getItem (.ref l) (.ref s.heap.objs.size))) (ht : ∀ r, letTemporaryGo value (.ref l) r = pure ()) :
    wpAny (model prog w) A (subscriptTail value slice (.ref l) (.ref s.heap.objs.size)) Q E { s with heap := s.heap.push { cls := .type "slice", data := .fields #[.none, .int (-1) t, .none] } } :=
  kmk_slice F N ⟨_, (N _ hl).1, rfl, n, rfl⟩ .none (.int (-1) t) (fun D h' F' N' l1 => h D h' F' (by rw [Array.toArray_toList]; exact N') l1) hq ht (by rw [List.size_toArray, hs.len_eq, sizeLine_eq]; omega)
end
theorem split_small {l : List Str} {x y : Str} (h : l = Txt.split x y) (hx : x.length ≤ 60001) : l.length ≤ 70000 := by
  have := split_le x y
  rw [h]
  omega
theorem LineV.open {k : Nat} {v : Value} (h : LineV k v) : ∃ (p : Str) (t : Tok) (n : Nat), v = .str p t ∧ p.length ≤ 60001 ∧ k ≤ n ∧ p.length = (Txt.lstripChars p (Str.ofString " ")).length + 4 * n := by
  obtain ⟨p, t, e, hg, hp⟩ := h
  obtain ⟨n, hn, hl⟩ := good_strip hg
  exact ⟨p, t, n, e, hp, hn, hl⟩
section
variable {prog : Program} {w : World} {A : Around} {E : Value → Shared → Prop} {s : Shared} {env : Env} {h₀ : Heap} {x : Str} {body : List Stmt} {Q : Flow → Shared → Prop}
theorem iter_lines {l : Addr} {vs : List Value} {nn k : Nat} {m₀ : Str → Option Value} {news : List (Addr × Obj)} (y : Str)
    (hh : A.handled = none) (hl : (l, listOf vs.toArray nn) ∈ news) (F : Fr h₀ env.locals s.heap m₀) (N : News h₀ env.locals s.heap news) (hv : ∀ v ∈ vs, LineV k v)
    (turn : ∀ (p : Str) (t : Tok) (n : Nat) (u : Str → Option Value) h tk own, p.length ≤ 60001 → k ≤ n → p.length = (Txt.lstripChars p (Str.ofString " ")).length + 4 * n →
      Fr h₀ env.locals h (fun z => if z = x then some (.str p t) else if z = y then u z else m₀ z) → News h₀ env.locals h own →
      wpAny (model prog w) A (execs body env) (InvPostN h₀ env.locals (fun m' nx => nx = [] ∧ OnlyXY x y m₀ m') own [] { s with heap := h, toks := tk } Q) E { s with heap := h, toks := tk })
    (done : ∀ (u : Str → Option Value) h tk, Fr h₀ env.locals h (fun z => if z = x then u z else if z = y then u z else m₀ z) → News h₀ env.locals h [] → Q .next { s with heap := h, toks := tk }) :
    wpAny (model prog w) A (pyIter (.ref l)) (fun it s₂ => LoopAtV prog w A h₀ env x body Q E it s₂) E s :=
  iter_rows y (LineV k) hh hl F N hv (fun v u h tk own hv F N => by
    obtain ⟨p, t, n, rfl, h1, h2, h3⟩ := hv.open
    exact turn p t n u h tk own h1 h2 h3 F N) done
end
theorem fmod_four {a b n : Nat} {P : Prop} (h : a = b + 4 * n) (g : ((a : Int) - (b : Int)).fmod 4 ≠ 0) : P := by
  have e : ((a : Int) - (b : Int)) = 4 * (n : Int) := by omega
  rw [e, Int.fmod_eq_emod_of_nonneg _ (by decide)] at g
  exact absurd (by omega) g

-- C16
local macro_rules | `(tactic| k_all) => `(tactic| first | with_reducible assumption | (refine' List.forall_mem_append.mpr ⟨?a, ?b⟩; (case a => k_all); (case b => k_all)))
local macro_rules | `(tactic| walk_at "call builtin:str.split") => `(tactic| (k_here; (with_reducible show wpAny _ _ (PySem.call (Value.builtin "str.split") [Value.str _ _]) _ _ _); k_dflt (refine' KSpl.split0 ?F ?N ?_ ?z; (case F => k_asm); (case N => k_asm); (case z => (simp only [sizeLine_eq]; omega))); intro D' l' h' k' e' a' F' N' l1; (try k_lt l1); (try k_sweep)))
local macro_rules | `(tactic| walk_at "call builtin:str.split") => `(tactic| (k_here; (with_reducible show wpAny _ _ (PySem.call (Value.builtin "str.split") [Value.str _ _, Value.str _ _]) _ _ _); k_dflt (refine' KSpl.split1 ?F ?N ?y ?_ ?z; (case F => k_asm); (case N => k_asm); (case y => decide +kernel); (case z => (simp only [sizeLine_eq, Str.length_append]; omega))); intro D' l' h' k' e' a' F' N' l1; (try k_lt l1); (try k_sweep)))
local macro_rules | `(tactic| ktr_enter) => `(tactic| walk_at "own enter 3")
local macro_rules | `(tactic| walk_at "call ref") => `(tactic| (k_here; (with_reducible show wpAny _ _ (PySem.call (Value.ref 324) _) _ _ _); (with_reducible rename News _ _ _ _ => kNo); k_dflt (refine' ReadOK.use (led := []) ?B ?F ?X News.nil ?T ?hk ?W ?Wn ?Ws ?z ?A (read_all _ _) ?ht ?d ?u ?_; (case B => k_asm); (case F => k_asm); (case X => k_asm); (case T => k_asm); (case hk => first | exact rfl | assumption); (case W => exact News.isList (by k_asm) (by k_mem)); (case Wn => exact fun _ h => (nomatch h)); (case Ws => with_reducible assumption); (case A => first | exact at_top (by with_reducible assumption) (by with_reducible assumption) | exact at_top3 (by with_reducible assumption) (by with_reducible assumption)); (case z => first | exact Nat.le_trans (words_small (by with_reducible assumption) (by with_reducible assumption)) (by decide) | exact small_top3 (by with_reducible assumption) (by with_reducible assumption)); (case ht => with_reducible assumption); (case d => ktr_room); (case u => ktr_units)); intro r' v' t' n' tl' h' tk' F' N2' hm' hst' hab' hov' hoff'; k_dflt (have N' := news_join kNo N2' hoff'); (try k_sweep)))
local macro_rules | `(tactic| walk_at "compareOp NotEq ref ref") => `(tactic| (k_here; (with_reducible show wpAny _ _ (compareOp CmpOp.NotEq (Value.ref _) (Value.ref _)) _ _ _); k_dflt (refine' ne_pairN ?N ?ea ?eb ?x ?y ?hk ?hij ?hu ?_; (case N => k_asm); (case ea => k_mem); (case eb => k_mem); (case x => exact st_news (by k_asm) (by (intro q hq; k_mem)) (by with_reducible assumption)); (case y => first | exact st_keep (by k_asm) (by with_reducible assumption) | (refine' StIn.ite ?q1 (IdIn.mk ?q2) ?q3 (StIn.set ?q4 (IdIn.mk ?q5) (IdIn.mk ?q6)); (case q1 => exact news_at (by k_asm) (by k_mem)); (case q2 => exact news_at (by k_asm) (by k_mem)); (case q3 => exact st_keep (by k_asm) (by with_reducible assumption)); (case q4 => exact news_at (by k_asm) (by k_mem)); (case q5 => exact news_at (by k_asm) (by k_mem)); (case q6 => exact news_at (by k_asm) (by k_mem)))); (case hk => omega); (case hij => first | exact len_top (by with_reducible assumption) (by with_reducible assumption) | exact len_top3 (by with_reducible assumption) (by with_reducible assumption)); (case hu => ktr_units))))
local macro_rules | `(tactic| walk_at "binaryOp Add ref ref") => `(tactic| (k_here; (with_reducible show wpAny _ _ (binaryOp Operator.Add (Value.ref _) (Value.ref _)) _ _ _); k_dflt (refine' add_strs ?F ?N ?a ?b ?x ?y ?z ?_; (case F => k_asm); (case N => k_asm); (case a => k_mem); (case b => k_mem); (case x => (first | with_reducible assumption | exact StrsAre.cons _ _ (.cons _ _ .nil) | exact StrsAre.cons _ _ (.cons _ _ (.cons _ _ (.cons _ _ .nil))))); (case y => (first | with_reducible assumption | exact StrsAre.cons _ _ (.cons _ _ .nil) | exact StrsAre.cons _ _ (.cons _ _ (.cons _ _ (.cons _ _ .nil))))); (case z => ((have hw9 := words_small (by with_reducible assumption) (by with_reducible assumption)); (simp only [List.length_append, List.length_cons, List.length_nil]); omega))); intro D' ws' h' F' N' l1 hs'; (try k_lt l1); (try k_sweep)))
local macro_rules | `(tactic| walk_at "call builtin:len") => `(tactic| (k_here; (with_reducible show wpAny _ _ (PySem.call (Value.builtin "len") [Value.ref _]) _ _ _); k_dflt (refine' kst_len ?k1 ?k2 (PyProof.Rows.StrsAre.length ?k3) ?k4 ?_; (case k1 => k_asm); (case k2 => k_mem); (case k3 => with_reducible assumption); (case k4 => first | exact small_fit (Nat.le_trans (words_small (by with_reducible assumption) (by with_reducible assumption)) (by decide)) | exact small_fit (small_top3 (by with_reducible assumption) (by with_reducible assumption))))))
local macro_rules | `(tactic| walk_at "exec For Name Subscript") => `(tactic| (k_here; (rename Fr _ _ _ _ => lF'); (with_unfolding_all refine' For_invVF lF' ?k1 ?k2 ?_; (case k1 => exact rfl); (case k2 => exact rfl); k_whole)))
local macro_rules | `(tactic| walk_at "subscriptTail Call") => `(tactic| (k_here; (with_reducible show wpAny _ _ (subscriptTail _ (PySem.Expr.Slice _ _ none _) (Value.ref _) (Value.ref _)) _ _ _); k_dflt (refine kba_turn (value' := PySem.Expr.Name (PySem.Str.ofString "_") ⟨0, 0, 0, 0⟩) (fun _ => rfl) ?_); k_dflt (refine' slice_rows ?F ?N ?l ?i ?z ?_ ?s ?t; (case F => k_asm); (case N => k_asm); (case l => k_mem); (case i => with_reducible assumption); (case s => with_unfolding_all rfl); (case t => kmk_pure); (case z => exact split_small (by with_reducible assumption) (by (simp only [Str.length_append]; omega)))); intro D' h' F' N' l1; (try k_lt l1); (try k_sweep)))
local macro_rules | `(tactic| walk_at "pyIter ref") => `(tactic| ((with_reducible show wpAny _ _ (pyIter (Value.ref _)) (fun it s₂ => LoopAtV _ _ _ _ _ _ _ _ _ it s₂) _ _); k_here; (rename Fr _ _ _ _ => lF'); (rename News _ _ _ _ => lN'); k_dflt (refine' iter_lines (k := Int.toNat _) (Str.ofString "blanks") rfl ?hl lF' lN' ?hv (fun p' t' n' u' h' tk' own' hp' hn' hl' F' N' => ?_) (fun u' h' tk' F' N' => ?_); (case hl => k_mem); (case hv => exact rows_good (by with_reducible assumption) (by with_reducible assumption) (tx_lines _ _ _ _ (by with_reducible assumption)) (by (simp only [Str.length_append]; omega)))); (all_goals (try clear lF' lN'))))
theorem right_ok (z : Lt) (σ τ : S) {w : World} {p : Program} {loose : List Str} {mean : ExcName → Option Value} {mg mb : Str → Option Value}
  {dp un : Nat} {gd : Option (List Code)} {cn : Str} {cs : Scope} {L a : Addr} {ccd : Value} {cl : List (Str × Addr)} {outer : List Env}
  {A₀ : Around} {base h₀ : Heap} {m : Str → Option Value} {s : Shared} {Q E : Value → Shared → Prop}
  {v : Value} {i : Int} {ti : Tok} {k : Nat}
  (B : Below A₀ base outer h₀) (F : Fr h₀ L s.heap m) (X : (topK w.params).In h₀) (T : Top p loose mean mg mb h₀) (hk : cs.kind = .function)
  (hv : StIn (InH s.heap) v (.ite z σ τ)) (hi0 : 0 ≤ i) (hi1 : i + (k : Int) ≤ 12) (hht : S.ht (.ite z σ τ) ≤ k) (hk6 : k ≤ 6)
  (hdp : dp + (4 * k + 30) < recursionLimit) (hu : un + 8 * (4 * k + 30) < cLine)
  (hret : ∀ h' tk', Fr h₀ L h' m → s.heap.StaysIn h' → Q (.bool true) { s with heap := h', toks := tk' }) :
  wpAny (model PySem.Challenge.rw_on0123_01.row.prog w) (ktrTop dp un gd cn cs L a ccd cl outer) (PySem.call (.ref 331) [v, .int i ti]) Q E s := by
  revert X; k_fill; intro X
  refine wpAny_call ?_
  k_dflt ktr_enter
  rename_i g1 L1 h1 FG F1 N1 B1 X1 T1 hs1 lL
  have hv1 := hv.mono (P' := InH g1) fun _ _ q => hs1 _ _ q
  have hT : IfT (S.ite z σ τ) := if_text_all z σ τ
  generalize hσ : S.ite z σ τ = ρ at *
  have hht2 : S.ht (.ite .q ρ (.set .x .y)) ≤ k + 1 := by simp only [S.ht]; omega
  k_steps
  · exact fmod_four (by assumption) (by assumption)
  · subst hσ
    exact retB (hret _ _ (by assumption) (fun b o e => Fr.keep (by assumption) b o (hs1 b o e))) (tx_ends _ _ _ _ hi0)
  · subst hσ
    exact absurd ((tx_starts _ _ _ _ hi0).symm.trans (by assumption)) (by decide)

-- C22
@[irreducible] def Stopped (P : Prop) : Prop := P
theorem Stopped.mk {P : Prop} (h : Stopped P) : P := by unfold Stopped at h; exact h
theorem Stopped.un {P : Prop} (h : P) : Stopped P := by unfold Stopped; exact h
theorem news_pick {h₀ h : Heap} {L a : Addr} {o : Obj} {l : List (Addr × Obj)} (N : News h₀ L h l) (e : (a, o) ∈ l) : News h₀ L h [(a, o)] := fun p hp => by
  rw [List.mem_singleton.mp hp]
  exact N _ e
theorem news_none {h₀ h : Heap} {L : Addr} {m : Str → Option Value} (_ : Fr h₀ L h m) : News h₀ L h [] := News.nil
theorem one_off {j D : Addr} {o : Obj} (h : j ≠ D) : ∀ p ∈ [(j, o)], p.1 ≠ D := fun p hp => by
  rw [List.mem_singleton.mp hp]
  exact h
theorem rest_one {j : Addr} {o : Obj} : Rest j o [(j, o)] [] := .head fun _ h => nomatch h
theorem cost_three {d : Nat} (h : d ≤ 3) : cost d ≤ 45 := by
  have : d = 0 ∨ d = 1 ∨ d = 2 ∨ d = 3 := by omega
  rcases this with rfl | rfl | rfl | rfl <;> decide
theorem if_false_ {P P' : Prop} (h : P') : if (!true) = true then P else P' := h
/-- a value in a heap that stands off j -/
abbrev InO (j : Addr) (h : Heap) : Addr → Obj → Prop := fun a o => h.get? a = some o ∧ a ≠ j
theorem st_off {h₀ h : Heap} {L j : Addr} {tl led : List (Addr × Obj)} {v : Value} {σ : S} (N : News h₀ L h led) (hx : ∀ q ∈ tl, q ∈ led) (ho : ∀ p ∈ tl, p.1 ≠ j) (x : StIn (InL tl) v σ) : StIn (InO j h) v σ :=
  x.mono fun _ _ q => ⟨(N _ (hx _ q)).1, ho _ q⟩
theorem st_over {h h' : Heap} {j : Addr} {o : Obj} {v : Value} {σ : S} (k : ∀ b o', h.get? b = some o' → (∀ p ∈ [(j, o)], p.1 ≠ b) → h'.get? b = some o') (x : StIn (InO j h) v σ) : StIn (InH h') v σ :=
  x.mono fun _ _ q => k _ _ q.1 (one_off (Ne.symm q.2))
local macro_rules | `(tactic| walk_at "call ref") => `(tactic| (k_here; refine Stopped.mk ?_))
local macro_rules | `(tactic| walk_at "binaryOp Add ref ref") => `(tactic| (k_here; (with_reducible show wpAny _ _ (binaryOp Operator.Add (Value.ref _) (Value.ref _)) _ _ _); k_dflt (refine' kmk_add_ints ?k1 ?k2 ?k3 ?k4 ?k5 ?k6 ?_ ?k7; (case k1 => k_asm); (case k2 => k_asm); (case k3 => exact News.isList (by k_asm) (by k_mem)); (case k4 => exact News.isList (by k_asm) (by k_mem)); (case k5 => with_reducible assumption); (case k6 => exact IntsAre.cons _ _ .nil); (case k7 => (simp only [sizeLine_eq, List.length_cons, List.length_nil]; omega))); intro D' ws' h' F' N' l1 hI'; (try k_lt l1); (try k_sweep)))
local macro_rules | `(tactic| walk_at "subscriptTail BinOp") => `(tactic| (k_here; (with_reducible show wpAny _ _ (subscriptTail _ (PySem.Expr.Slice _ _ none _) (Value.ref _) (Value.ref _)) _ _ _); k_dflt (refine kba_turn (value' := PySem.Expr.Name (PySem.Str.ofString "_") ⟨0, 0, 0, 0⟩) (fun _ => rfl) ?_); k_dflt (refine' kmk_slice_ints ?k1 ?k2 ?k3 ?k4 ?k5 ?k6 ?k7 ?k8 ?_ ?k9 ?ka ?kb; (case k1 => k_asm); (case k2 => k_asm); (case k3 => exact News.isList (by k_asm) (by k_mem)); (case k4 => exact IsPart.none); (case k5 => exact IsPart.int _ _); (case k6 => with_reducible assumption); (case k7 => exact kmk_upto (by with_reducible assumption) (by decide)); (case k8 => exact rfl); (case k9 => with_unfolding_all rfl); (case ka => kmk_pure); (case kb => (rw [List.size_toArray, IntsAre.length (by with_reducible assumption), sizeLine_eq]; simp only [List.length_append, List.length_cons, List.length_nil]; omega))); intro D' ws' h' F' N' l1 hI' hC' hL'; (try k_lt l1); (try k_sweep)))
local macro_rules | `(tactic| k_qdec) => `(tactic| decide +kernel)
theorem law_holds : PySem.Challenge.rw_on0123_01.Holds := by
  refine holds_law said fun sd => ?_
  refine holds_open (q := topQ) (loose := topLoose) (Xt := fun s => xlAt topQ [] s && recOk (RowW.records topR.toRowW) s) (XP := XL topQ []) (Yf := Hook.obs (kHook topK topAs K_as)) (Ya := Hook.val (kHook topK topAs K_as)) (YP := Hook.says (kHook topK topAs K_as)) (N := 3166) left (Hook.of (kHook topK topAs K_as)) (Hook.keeps (kHook topK topAs K_as))
    (fun s e => xl_of s (Bool.and_eq_true_iff.mp e).1) XL.keeps (by rfl) (by rfl) (by rfl) (fun s e => recFacts_of (Bool.and_eq_true_iff.mp e).2) (by rfl) sd (by decide +kernel) ⟨rfl, rfl, rfl, rfl, rfl, by decide +kernel⟩ ⟨[WData.list []], by decide +kernel, by decide +kernel⟩ ?_
  k_go0
  all_goals try k_fold
  k_steps
  refine Stopped.un ?_
  rename News _ _ _ _ => N0
  rename IntsAre _ (List.take _ _) => hI0
  k_dflt refine' draw_okS (news := []) ?B ?F ?X (news_pick N0 (.head _)) ?T ?hk rest_one (News.isList N0 (.tail _ (.head _))) (one_off ?ne) hI0 ?n1 ?n2 (Int.le_refl 0) (by decide) (Int.le_refl 0) (by decide) (by decide) (by decide) ?d ?u ?_
  case B => k_dflt (k_asm)
  case F => k_dflt (k_asm)
  case X => k_dflt (k_asm)
  case T => k_dflt (k_asm)
  case hk => k_dflt (exact rfl)
  case ne => k_ne
  case n1 => simp only [List.length_take, List.length_append, List.length_cons, List.length_nil]; omega
  case n2 => simp only [List.length_take, List.length_append, List.length_cons, List.length_nil]; omega
  case d => k_dflt ((first | ktr_room | (simp only [callerA, ktrTop, Around.deeper]; omega) | decide))
  case u => k_dflt ((first | ktr_units | (simp only [callerA, ktrTop, Around.deeper, Option.map]; omega) | decide))
  intro r x1 y1 t1 tx1 ty1 n1 h1 tk1 hr0 hr1 hx0 hx1 hy0 hy1 F1 N1 hj1 off1
  have hL1 := list_off off1 (News.isList N0 (.tail _ (.head _))) (one_off (by k_ne))
  k_steps
  refine Stopped.un ?_
  k_dflt refine' if_allS r.toNat ?B ?F ?X N1 ?T ?hk rest_one hL1 (one_off ?ne) hI0 ?n1 ?n2 hx0 hx1 ?y1 ?y2 ?dd ?d ?u ?_
  case B => k_dflt (k_asm)
  case F => k_dflt (k_asm)
  case X => k_dflt (k_asm)
  case T => k_dflt (k_asm)
  case hk => k_dflt (exact rfl)
  case ne => k_ne
  case n1 => simp only [List.length_take, List.length_append, List.length_cons, List.length_nil]; omega
  case n2 => simp only [List.length_take, List.length_append, List.length_cons, List.length_nil]; omega
  case y1 => omega
  case y2 => (have hc := cost_three (d := r.toNat) (by omega); omega)
  case dd => omega
  case d => k_dflt ((first | ktr_room | (simp only [callerA, ktrTop, Around.deeper]; omega) | decide))
  case u => k_dflt ((first | ktr_units | (simp only [callerA, ktrTop, Around.deeper, Option.map]; omega) | decide))
  intro x2 y2 tx2 ty2 n2 v σ tl h2 tk2 hx2 hx3 hy2 hy3 F2 N2 hst htup hht hj2 htj hab hov off2
  obtain ⟨hht1, z, a, b, rfl⟩ := hht
  have hL2 := list_off off2 hL1 (one_off (by k_ne))
  have st2 := st_off N2 (fun q hq => .tail _ hq) htj hst
  k_steps
  refine Stopped.un ?_
  k_dflt refine' draw_okS (news := []) ?B ?F ?X (news_pick N2 (.head _)) ?T ?hk rest_one hL2 (one_off ?ne) hI0 ?n1 ?n2 hx2 hx3 ?y1 ?y2 (by decide) (by decide) ?d ?u ?_
  case B => k_dflt (k_asm)
  case F => k_dflt (k_asm)
  case X => k_dflt (k_asm)
  case T => k_dflt (k_asm)
  case hk => k_dflt (exact rfl)
  case ne => k_ne
  case n1 => simp only [List.length_take, List.length_append, List.length_cons, List.length_nil]; omega
  case n2 => simp only [List.length_take, List.length_append, List.length_cons, List.length_nil]; omega
  case y1 => omega
  case y2 => (have hc := cost_three (d := r.toNat) (by omega); omega)
  case d => k_dflt ((first | ktr_room | (simp only [callerA, ktrTop, Around.deeper]; omega) | decide))
  case u => k_dflt ((first | ktr_units | (simp only [callerA, ktrTop, Around.deeper, Option.map]; omega) | decide))
  intro r3 x3 y3 t3 tx3 ty3 n3 h3 tk3 hr4 hr5 hx4 hx5 hy4 hy5 F3 N3 hj3 off3
  have st3 := st_over off3 st2
  k_steps
  refine Stopped.un ?_
  k_dflt refine' right_ok z a b (k := r.toNat + 1) ?B ?F ?X ?T ?hk st3 hr4 ?i1 hht1 ?k6 ?d ?u ?_
  case B => k_dflt (k_asm)
  case F => k_dflt (k_asm)
  case X => k_dflt (k_asm)
  case T => k_dflt (k_asm)
  case hk => k_dflt (exact rfl)
  case i1 => omega
  case k6 => omega
  case d => k_dflt ((first | ktr_room | (simp only [callerA, ktrTop, Around.deeper]; omega) | decide))
  case u => k_dflt ((first | ktr_units | (simp only [callerA, ktrTop, Around.deeper, Option.map]; omega) | decide))
  intro h4 tk4 F4 hs4
  have N4 := news_none F4
  clear hr4 hr5 hx4 hx5 hy4 hy5 hx2 hx3 hy2 hy3 hx0 hx1 hy0 hy1 hr0 hr1 hI0 N0 N1 N2 N3 st2 st3 hst htup hht1 hj1 hj2 hj3 htj hab hov off1 off2 off3 hL1 hL2 F1 F2 F3 hs4
  walk1
  k_dflt (refine if_false_ ?_)
  k_steps
  refine Stopped.un ?_
  rename News _ _ _ _ => N5
  k_dflt refine' right_ok .d (.whl .e (.ite .a (.set .b .c) .none)) (.set .f .a) (k := 3) ?B ?F ?X ?T ?hk ?st (by decide) (by decide) (by decide) (by decide) ?d ?u ?_
  case B => k_dflt (k_asm)
  case F => k_dflt (k_asm)
  case X => k_dflt (k_asm)
  case T => k_dflt (k_asm)
  case hk => k_dflt (exact rfl)
  case st => k_dflt (refine' .ite ?q1 (.mk ?q2) (.whl ?q3 (.mk ?q4) (.ite ?q5 (.mk ?q6) (.set ?q7 (.mk ?q8) (.mk ?q9)) .none)) (.set ?r1 (.mk ?r2) (.mk ?r3)); (case q1 => exact news_at N5 (by k_mem)); (case q2 => exact news_at N5 (by k_mem)); (case q3 => exact news_at N5 (by k_mem)); (case q4 => exact news_at N5 (by k_mem)); (case q5 => exact news_at N5 (by k_mem)); (case q6 => exact news_at N5 (by k_mem)); (case q7 => exact news_at N5 (by k_mem)); (case q8 => exact news_at N5 (by k_mem)); (case q9 => exact news_at N5 (by k_mem)); (case r1 => exact news_at N5 (by k_mem)); (case r2 => exact news_at N5 (by k_mem)); (case r3 => exact news_at N5 (by k_mem)))
  case d => k_dflt ((first | ktr_room | (simp only [callerA, ktrTop, Around.deeper]; omega) | decide))
  case u => k_dflt ((first | ktr_units | (simp only [callerA, ktrTop, Around.deeper, Option.map]; omega) | decide))
  intro h6 tk6 F6 hs6
  have N6 := news_none F6
  k_steps

end Mine
theorem PySem.Challenge.cw_on0123_01_holds : PySem.Challenge.rw_on0123_01.Holds :=
  Mine.law_holds
