import PyProof.Rows.All
import Wide.All
import OpenK.AllK
import Wide.FinOn
import Lean
import PySem.Challenge.RW_xm0956_01
set_option Elab.async false
set_option linter.unusedVariables false
section
open PySem PySem.W PyProof.Rows
set_option maxRecDepth 100000
set_option maxHeartbeats 0
namespace Mine
noncomputable section
noncomputable abbrev Pg : Program := PySem.Challenge.rw_xm0956_01.row.toRowW.1
noncomputable def stAt (i : Nat) : Stmt := (Pg.main.body[i]?).getD (Stmt.Pass default)
noncomputable def inAt (s : Stmt) (i : Nat) : Stmt := match s with
  | .ClassDef (body := b) .. => (b[i]?).getD (Stmt.Pass default)
  | .FunctionDef (body := b) .. => (b[i]?).getD (Stmt.Pass default)
  | _ => Stmt.Pass default
noncomputable def fB (s : Stmt) : List Stmt := match s with | .FunctionDef (body := b) .. => b | _ => []
noncomputable def fA (s : Stmt) : Arguments := match s with | .FunctionDef (args := a) .. => a | _ => default
noncomputable def fS (s : Stmt) : Scope := match s with | .FunctionDef (scope := a) .. => a | _ => default
noncomputable def pS : Scope := Pg.main.scope
noncomputable abbrev wb (f : List Stmt → Obj) (b : List Stmt) {c : List Stmt} (_ : b = c) : Obj := f b
noncomputable def b_11 (P : Params) : Obj := { cls := PySem.Value.type "tuple", data := PySem.Data.seq #[] : PySem.Obj }
noncomputable def b_12 (P : Params) : Obj := { cls := PySem.Value.none, data := PySem.Data.fields #[] : PySem.Obj }
noncomputable def b_13 (P : Params) : Obj := { cls := PySem.Value.type "code", data := PySem.Data.fields #[PySem.Value.str (PySem.Str.ofString "<module>") 182, PySem.Value.str (PySem.Str.ofString "<module>") 183, PySem.Value.str (PySem.Str.ofString "/claim/cut.py") 184, PySem.Value.int 1 0, PySem.Value.int 0 0, PySem.Value.int 0 0, PySem.Value.int 0 0, PySem.Value.int 0 0, PySem.Value.ref 11, PySem.Value.bool Bool.false, PySem.Value.int 181 0, PySem.Value.ref 12, PySem.Value.none, PySem.Value.none, PySem.Value.none, PySem.Value.none, PySem.Value.int 185 0, PySem.Value.int 1 0, PySem.Value.str (PySem.Str.ofString "/claim/cut.py") 186] : PySem.Obj }
noncomputable def b_14 (P : Params) : Obj := { cls := PySem.Value.type "frame", slots := #[Option.some (PySem.Value.ref 13), Option.some (PySem.Value.ref 3), Option.some (PySem.Value.ref 3), Option.none, Option.some (PySem.Value.str (PySem.Str.ofString "__main__") 164), Option.none, Option.some (PySem.Value.ref 0)] : PySem.Obj }
noncomputable def tB (P : Params) : BT := (.node (boot_o_0 P) (.node (boot_o_1 P) (.node (boot_o_3 P) (.node (boot_o_7 P) .nil .nil) (.node (b_11 P) .nil .nil)) (.node (boot_o_5 P) (.node (boot_o_9 P) .nil .nil) (.node (b_13 P) .nil .nil))) (.node (boot_o_2 P) (.node (boot_o_4 P) (.node (boot_o_8 P) .nil .nil) (.node (b_12 P) .nil .nil)) (.node (boot_o_6 P) (.node (boot_o_10 P) .nil .nil) (.node (b_14 P) .nil .nil))))
noncomputable def hA (P : Params) : Heap := ⟨#[boot_o_0 P, boot_o_1 P, boot_o_2 P, boot_o_3 P, boot_o_4 P, boot_o_5 P, boot_o_6 P, boot_o_7 P, boot_o_8 P, boot_o_9 P, boot_o_10 P, b_11 P, b_12 P, b_13 P, b_14 P], { : PySem.Life }⟩
noncomputable def k_2 (P : Params) : Obj := { cls := PySem.Value.none, data := PySem.Data.dict #[{ hash := PySem.PyData.keyHash P (PySem.Str.ofString "type.__subclasses__.Exception.0"), key := PySem.Value.str (PySem.Str.ofString "type.__subclasses__.Exception.0") 280, val := PySem.Value.int 69 0 : PySem.DictEntry }, { hash := PySem.PyData.keyHash P (PySem.Str.ofString "type.__subclasses__.Exception.n"), key := PySem.Value.str (PySem.Str.ofString "type.__subclasses__.Exception.n") 281, val := PySem.Value.int 1 0 : PySem.DictEntry }] 2 : PySem.Obj }
noncomputable def k_3 (P : Params) : Obj := { cls := PySem.Value.type "dict", data := PySem.Data.dict #[{ hash := PySem.PyData.keyHash P (PySem.Str.ofString "__name__"), key := PySem.Value.str (PySem.Str.ofString "__name__") 165, val := PySem.Value.str (PySem.Str.ofString "law_xm0956_01") 842 : PySem.DictEntry }, { hash := PySem.PyData.keyHash P (PySem.Str.ofString "__doc__"), key := PySem.Value.str (PySem.Str.ofString "__doc__") 166, val := PySem.Value.none : PySem.DictEntry }, { hash := PySem.PyData.keyHash P (PySem.Str.ofString "__package__"), key := PySem.Value.str (PySem.Str.ofString "__package__") 167, val := PySem.Value.none : PySem.DictEntry }, { hash := PySem.PyData.keyHash P (PySem.Str.ofString "__loader__"), key := PySem.Value.str (PySem.Str.ofString "__loader__") 168, val := PySem.Value.builtin "__main__.__loader__#opaque" : PySem.DictEntry }, { hash := PySem.PyData.keyHash P (PySem.Str.ofString "__spec__"), key := PySem.Value.str (PySem.Str.ofString "__spec__") 169, val := PySem.Value.none : PySem.DictEntry }, { hash := PySem.PyData.keyHash P (PySem.Str.ofString "__annotations__"), key := PySem.Value.str (PySem.Str.ofString "__annotations__") 170, val := PySem.Value.ref 6 : PySem.DictEntry }, { hash := PySem.PyData.keyHash P (PySem.Str.ofString "__builtins__"), key := PySem.Value.str (PySem.Str.ofString "__builtins__") 171, val := PySem.Value.ref 4 : PySem.DictEntry }, { hash := PySem.PyData.keyHash P (PySem.Str.ofString "__file__"), key := PySem.Value.str (PySem.Str.ofString "__file__") 173, val := PySem.Value.str (PySem.Str.ofString "/claim/cut.py") 172 : PySem.DictEntry }, { hash := PySem.PyData.keyHash P (PySem.Str.ofString "__cached__"), key := PySem.Value.str (PySem.Str.ofString "__cached__") 174, val := PySem.Value.none : PySem.DictEntry }, { hash := PySem.PyData.keyHash P (PySem.Str.ofString "give_names"), key := PySem.Value.str (PySem.Str.ofString "give_names") 198, val := PySem.Value.ref 21 : PySem.DictEntry }, { hash := PySem.PyData.keyHash P (PySem.Str.ofString "three_pieces"), key := PySem.Value.str (PySem.Str.ofString "three_pieces") 206, val := PySem.Value.ref 28 : PySem.DictEntry }, { hash := PySem.PyData.keyHash P (PySem.Str.ofString "spliced"), key := PySem.Value.str (PySem.Str.ofString "spliced") 218, val := PySem.Value.ref 35 : PySem.DictEntry }, { hash := PySem.PyData.keyHash P (PySem.Str.ofString "replace_once"), key := PySem.Value.str (PySem.Str.ofString "replace_once") 232, val := PySem.Value.ref 42 : PySem.DictEntry }, { hash := PySem.PyData.keyHash P (PySem.Str.ofString "replace_often"), key := PySem.Value.str (PySem.Str.ofString "replace_often") 247, val := PySem.Value.ref 49 : PySem.DictEntry }, { hash := PySem.PyData.keyHash P (PySem.Str.ofString "SnobolError"), key := PySem.Value.str (PySem.Str.ofString "SnobolError") 283, val := PySem.Value.ref 69 : PySem.DictEntry }, { hash := PySem.PyData.keyHash P (PySem.Str.ofString "Failure"), key := PySem.Value.str (PySem.Str.ofString "Failure") 303, val := PySem.Value.ref 82 : PySem.DictEntry }, { hash := PySem.PyData.keyHash P (PySem.Str.ofString "Pattern"), key := PySem.Value.str (PySem.Str.ofString "Pattern") 332, val := PySem.Value.ref 103 : PySem.DictEntry }, { hash := PySem.PyData.keyHash P (PySem.Str.ofString "Delayed"), key := PySem.Value.str (PySem.Str.ofString "Delayed") 361, val := PySem.Value.ref 124 : PySem.DictEntry }, { hash := PySem.PyData.keyHash P (PySem.Str.ofString "NameRef"), key := PySem.Value.str (PySem.Str.ofString "NameRef") 394, val := PySem.Value.ref 145 : PySem.DictEntry }, { hash := PySem.PyData.keyHash P (PySem.Str.ofString "is_fail"), key := PySem.Value.str (PySem.Str.ofString "is_fail") 401, val := PySem.Value.ref 156 : PySem.DictEntry }, { hash := PySem.PyData.keyHash P (PySem.Str.ofString "fits"), key := PySem.Value.str (PySem.Str.ofString "fits") 409, val := PySem.Value.ref 163 : PySem.DictEntry }, { hash := PySem.PyData.keyHash P (PySem.Str.ofString "whole_of_text"), key := PySem.Value.str (PySem.Str.ofString "whole_of_text") 420, val := PySem.Value.ref 170 : PySem.DictEntry }, { hash := PySem.PyData.keyHash P (PySem.Str.ofString "text_of_whole"), key := PySem.Value.str (PySem.Str.ofString "text_of_whole") 429, val := PySem.Value.ref 177 : PySem.DictEntry }, { hash := PySem.PyData.keyHash P (PySem.Str.ofString "to_whole"), key := PySem.Value.str (PySem.Str.ofString "to_whole") 437, val := PySem.Value.ref 184 : PySem.DictEntry }, { hash := PySem.PyData.keyHash P (PySem.Str.ofString "to_text"), key := PySem.Value.str (PySem.Str.ofString "to_text") 444, val := PySem.Value.ref 191 : PySem.DictEntry }, { hash := PySem.PyData.keyHash P (PySem.Str.ofString "need_text"), key := PySem.Value.str (PySem.Str.ofString "need_text") 452, val := PySem.Value.ref 198 : PySem.DictEntry }, { hash := PySem.PyData.keyHash P (PySem.Str.ofString "PlainHost"), key := PySem.Value.str (PySem.Str.ofString "PlainHost") 514, val := PySem.Value.ref 236 : PySem.DictEntry }, { hash := PySem.PyData.keyHash P (PySem.Str.ofString "COUNTED"), key := PySem.Value.str (PySem.Str.ofString "COUNTED") 522, val := PySem.Value.ref 241 : PySem.DictEntry }, { hash := PySem.PyData.keyHash P (PySem.Str.ofString "SIGNED"), key := PySem.Value.str (PySem.Str.ofString "SIGNED") 527, val := PySem.Value.ref 242 : PySem.DictEntry }, { hash := PySem.PyData.keyHash P (PySem.Str.ofString "WIDTH_OF_COUNT"), key := PySem.Value.str (PySem.Str.ofString "WIDTH_OF_COUNT") 529, val := PySem.Value.int 64 528 : PySem.DictEntry }, { hash := PySem.PyData.keyHash P (PySem.Str.ofString "plain_count"), key := PySem.Value.str (PySem.Str.ofString "plain_count") 539, val := PySem.Value.ref 250 : PySem.DictEntry }, { hash := PySem.PyData.keyHash P (PySem.Str.ofString "plain_signs"), key := PySem.Value.str (PySem.Str.ofString "plain_signs") 548, val := PySem.Value.ref 257 : PySem.DictEntry }, { hash := PySem.PyData.keyHash P (PySem.Str.ofString "pattern_of"), key := PySem.Value.str (PySem.Str.ofString "pattern_of") 556, val := PySem.Value.ref 264 : PySem.DictEntry }, { hash := PySem.PyData.keyHash P (PySem.Str.ofString "is_delayed"), key := PySem.Value.str (PySem.Str.ofString "is_delayed") 563, val := PySem.Value.ref 271 : PySem.DictEntry }, { hash := PySem.PyData.keyHash P (PySem.Str.ofString "settled"), key := PySem.Value.str (PySem.Str.ofString "settled") 572, val := PySem.Value.ref 278 : PySem.DictEntry }, { hash := PySem.PyData.keyHash P (PySem.Str.ofString "OPENING"), key := PySem.Value.str (PySem.Str.ofString "OPENING") 576, val := PySem.Value.str (PySem.Str.ofString "(") 575 : PySem.DictEntry }, { hash := PySem.PyData.keyHash P (PySem.Str.ofString "CLOSING"), key := PySem.Value.str (PySem.Str.ofString "CLOSING") 578, val := PySem.Value.str (PySem.Str.ofString ")") 577 : PySem.DictEntry }, { hash := PySem.PyData.keyHash P (PySem.Str.ofString "chars_end"), key := PySem.Value.str (PySem.Str.ofString "chars_end") 588, val := PySem.Value.ref 285 : PySem.DictEntry }, { hash := PySem.PyData.keyHash P (PySem.Str.ofString "len_end"), key := PySem.Value.str (PySem.Str.ofString "len_end") 597, val := PySem.Value.ref 292 : PySem.DictEntry }, { hash := PySem.PyData.keyHash P (PySem.Str.ofString "pos_end"), key := PySem.Value.str (PySem.Str.ofString "pos_end") 605, val := PySem.Value.ref 299 : PySem.DictEntry }, { hash := PySem.PyData.keyHash P (PySem.Str.ofString "rpos_end"), key := PySem.Value.str (PySem.Str.ofString "rpos_end") 614, val := PySem.Value.ref 306 : PySem.DictEntry }, { hash := PySem.PyData.keyHash P (PySem.Str.ofString "tab_end"), key := PySem.Value.str (PySem.Str.ofString "tab_end") 623, val := PySem.Value.ref 313 : PySem.DictEntry }, { hash := PySem.PyData.keyHash P (PySem.Str.ofString "rtab_end"), key := PySem.Value.str (PySem.Str.ofString "rtab_end") 633, val := PySem.Value.ref 320 : PySem.DictEntry }, { hash := PySem.PyData.keyHash P (PySem.Str.ofString "rem_end"), key := PySem.Value.str (PySem.Str.ofString "rem_end") 640, val := PySem.Value.ref 327 : PySem.DictEntry }, { hash := PySem.PyData.keyHash P (PySem.Str.ofString "any_at"), key := PySem.Value.str (PySem.Str.ofString "any_at") 649, val := PySem.Value.ref 334 : PySem.DictEntry }, { hash := PySem.PyData.keyHash P (PySem.Str.ofString "notany_at"), key := PySem.Value.str (PySem.Str.ofString "notany_at") 658, val := PySem.Value.ref 341 : PySem.DictEntry }, { hash := PySem.PyData.keyHash P (PySem.Str.ofString "run_end"), key := PySem.Value.str (PySem.Str.ofString "run_end") 668, val := PySem.Value.ref 348 : PySem.DictEntry }, { hash := PySem.PyData.keyHash P (PySem.Str.ofString "span_end"), key := PySem.Value.str (PySem.Str.ofString "span_end") 678, val := PySem.Value.ref 355 : PySem.DictEntry }, { hash := PySem.PyData.keyHash P (PySem.Str.ofString "break_end"), key := PySem.Value.str (PySem.Str.ofString "break_end") 688, val := PySem.Value.ref 362 : PySem.DictEntry }, { hash := PySem.PyData.keyHash P (PySem.Str.ofString "bal_end"), key := PySem.Value.str (PySem.Str.ofString "bal_end") 697, val := PySem.Value.ref 369 : PySem.DictEntry }, { hash := PySem.PyData.keyHash P (PySem.Str.ofString "bal_ends"), key := PySem.Value.str (PySem.Str.ofString "bal_ends") 707, val := PySem.Value.ref 376 : PySem.DictEntry }, { hash := PySem.PyData.keyHash P (PySem.Str.ofString "one_end"), key := PySem.Value.str (PySem.Str.ofString "one_end") 717, val := PySem.Value.ref 383 : PySem.DictEntry }, { hash := PySem.PyData.keyHash P (PySem.Str.ofString "plain_end"), key := PySem.Value.str (PySem.Str.ofString "plain_end") 726, val := PySem.Value.ref 390 : PySem.DictEntry }, { hash := PySem.PyData.keyHash P (PySem.Str.ofString "LOST"), key := PySem.Value.str (PySem.Str.ofString "LOST") 730, val := PySem.Value.str (PySem.Str.ofString "lost") 729 : PySem.DictEntry }, { hash := PySem.PyData.keyHash P (PySem.Str.ofString "match_plain"), key := PySem.Value.str (PySem.Str.ofString "match_plain") 742, val := PySem.Value.ref 397 : PySem.DictEntry }, { hash := PySem.PyData.keyHash P (PySem.Str.ofString "match_at"), key := PySem.Value.str (PySem.Str.ofString "match_at") 753, val := PySem.Value.ref 404 : PySem.DictEntry }, { hash := PySem.PyData.keyHash P (PySem.Str.ofString "tried"), key := PySem.Value.str (PySem.Str.ofString "tried") 768, val := PySem.Value.ref 411 : PySem.DictEntry }, { hash := PySem.PyData.keyHash P (PySem.Str.ofString "advanced"), key := PySem.Value.str (PySem.Str.ofString "advanced") 784, val := PySem.Value.ref 418 : PySem.DictEntry }, { hash := PySem.PyData.keyHash P (PySem.Str.ofString "led_in"), key := PySem.Value.str (PySem.Str.ofString "led_in") 796, val := PySem.Value.ref 425 : PySem.DictEntry }, { hash := PySem.PyData.keyHash P (PySem.Str.ofString "led_out"), key := PySem.Value.str (PySem.Str.ofString "led_out") 812, val := PySem.Value.ref 432 : PySem.DictEntry }, { hash := PySem.PyData.keyHash P (PySem.Str.ofString "steered"), key := PySem.Value.str (PySem.Str.ofString "steered") 824, val := PySem.Value.ref 439 : PySem.DictEntry }, { hash := PySem.PyData.keyHash P (PySem.Str.ofString "taken"), key := PySem.Value.str (PySem.Str.ofString "taken") 841, val := PySem.Value.ref 446 : PySem.DictEntry }, { hash := PySem.PyData.keyHash P (PySem.Str.ofString "_law_next"), key := PySem.Value.str (PySem.Str.ofString "_law_next") 854, val := PySem.Value.ref 453 : PySem.DictEntry }, { hash := PySem.PyData.keyHash P (PySem.Str.ofString "law"), key := PySem.Value.str (PySem.Str.ofString "law") 860, val := PySem.Value.ref 458 : PySem.DictEntry }] 64 : PySem.Obj }
noncomputable def k_15 (P : Params) : Obj := { cls := PySem.Value.type "tuple", data := PySem.Data.seq #[] : PySem.Obj }
noncomputable def k_17 (P : Params) : Obj := { cls := PySem.Value.type "tuple", data := PySem.Data.seq #[PySem.Value.str (PySem.Str.ofString "found") 192, PySem.Value.str (PySem.Str.ofString "give") 193, PySem.Value.str (PySem.Str.ofString "ref") 194, PySem.Value.str (PySem.Str.ofString "text") 195] : PySem.Obj }
noncomputable def k_18 (P : Params) : Obj := { cls := PySem.Value.type "tuple", data := PySem.Data.seq #[] : PySem.Obj }
noncomputable def k_20 (P : Params) : Obj := { cls := PySem.Value.type "code", data := PySem.Data.fields #[PySem.Value.str (PySem.Str.ofString "give_names") 189, PySem.Value.str (PySem.Str.ofString "give_names") 190, PySem.Value.str (PySem.Str.ofString "/claim/cut.py") 191, PySem.Value.int 2 0, PySem.Value.int 2 0, PySem.Value.int 0 0, PySem.Value.int 0 0, PySem.Value.int 3 0, PySem.Value.ref 15, PySem.Value.bool Bool.true, PySem.Value.int 181 0, PySem.Value.ref 16, PySem.Value.none, PySem.Value.ref 17, PySem.Value.ref 18, PySem.Value.ref 19, PySem.Value.int 196 0, PySem.Value.int 2 0, PySem.Value.str (PySem.Str.ofString "/claim/cut.py") 197] : PySem.Obj }
noncomputable def k_21 (P : Params) : Obj := wb (fun b => { cls := PySem.Value.type "function", data := PySem.Data.func { name := PySem.Str.ofString "give_names", qualname := PySem.Str.ofString "give_names", params := { posonlyargs := [], args := [{ arg := PySem.Str.ofString "found", annotation := Option.none, pos := { line := 2, col := 15, endLine := 2, endCol := 20 : PySem.Pos } : PySem.Arg }, { arg := PySem.Str.ofString "give", annotation := Option.none, pos := { line := 2, col := 22, endLine := 2, endCol := 26 : PySem.Pos } : PySem.Arg }], vararg := Option.none, kwonlyargs := [], kw_defaults := [], kwarg := Option.none, defaults := [] : PySem.Arguments }, body := PySem.FuncBody.stmts b, scope := { kind := PySem.ScopeKind.function, names := [(PySem.Str.ofString "found", PySem.NameKind.local), (PySem.Str.ofString "give", PySem.NameKind.local), (PySem.Str.ofString "ref", PySem.NameKind.local), (PySem.Str.ofString "text", PySem.NameKind.local)], isGenerator := Bool.false, isCoroutine := Bool.false : PySem.Scope }, globals := 3, closure := [], defaults := PySem.Value.none, kwdefaults := PySem.Value.none, pyModule := PySem.Value.str (PySem.Str.ofString "snobol.matchcore") 187, code := PySem.Value.ref 20 : PySem.FuncData } : PySem.Obj }) [_] (rfl : _ = fB (stAt 1))
noncomputable def k_22 (P : Params) : Obj := { cls := PySem.Value.type "tuple", data := PySem.Data.seq #[] : PySem.Obj }
noncomputable def k_24 (P : Params) : Obj := { cls := PySem.Value.type "tuple", data := PySem.Data.seq #[PySem.Value.str (PySem.Str.ofString "subject") 202, PySem.Value.str (PySem.Str.ofString "found") 203] : PySem.Obj }
noncomputable def k_25 (P : Params) : Obj := { cls := PySem.Value.type "tuple", data := PySem.Data.seq #[] : PySem.Obj }
noncomputable def k_27 (P : Params) : Obj := { cls := PySem.Value.type "code", data := PySem.Data.fields #[PySem.Value.str (PySem.Str.ofString "three_pieces") 199, PySem.Value.str (PySem.Str.ofString "three_pieces") 200, PySem.Value.str (PySem.Str.ofString "/claim/cut.py") 201, PySem.Value.int 5 0, PySem.Value.int 2 0, PySem.Value.int 0 0, PySem.Value.int 0 0, PySem.Value.int 3 0, PySem.Value.ref 22, PySem.Value.bool Bool.true, PySem.Value.int 181 0, PySem.Value.ref 23, PySem.Value.none, PySem.Value.ref 24, PySem.Value.ref 25, PySem.Value.ref 26, PySem.Value.int 204 0, PySem.Value.int 5 0, PySem.Value.str (PySem.Str.ofString "/claim/cut.py") 205] : PySem.Obj }
noncomputable def k_28 (P : Params) : Obj := wb (fun b => { cls := PySem.Value.type "function", data := PySem.Data.func { name := PySem.Str.ofString "three_pieces", qualname := PySem.Str.ofString "three_pieces", params := { posonlyargs := [], args := [{ arg := PySem.Str.ofString "subject", annotation := Option.none, pos := { line := 5, col := 17, endLine := 5, endCol := 24 : PySem.Pos } : PySem.Arg }, { arg := PySem.Str.ofString "found", annotation := Option.none, pos := { line := 5, col := 26, endLine := 5, endCol := 31 : PySem.Pos } : PySem.Arg }], vararg := Option.none, kwonlyargs := [], kw_defaults := [], kwarg := Option.none, defaults := [] : PySem.Arguments }, body := PySem.FuncBody.stmts b, scope := { kind := PySem.ScopeKind.function, names := [(PySem.Str.ofString "subject", PySem.NameKind.local), (PySem.Str.ofString "found", PySem.NameKind.local)], isGenerator := Bool.false, isCoroutine := Bool.false : PySem.Scope }, globals := 3, closure := [], defaults := PySem.Value.none, kwdefaults := PySem.Value.none, pyModule := PySem.Value.str (PySem.Str.ofString "snobol.matchcore") 187, code := PySem.Value.ref 27 : PySem.FuncData } : PySem.Obj }) [_] (rfl : _ = fB (stAt 2))
noncomputable def k_29 (P : Params) : Obj := { cls := PySem.Value.type "tuple", data := PySem.Data.seq #[] : PySem.Obj }
noncomputable def k_31 (P : Params) : Obj := { cls := PySem.Value.type "tuple", data := PySem.Data.seq #[PySem.Value.str (PySem.Str.ofString "subject") 210, PySem.Value.str (PySem.Str.ofString "found") 211, PySem.Value.str (PySem.Str.ofString "text") 212, PySem.Value.str (PySem.Str.ofString "ahead") 213, PySem.Value.str (PySem.Str.ofString "met") 214, PySem.Value.str (PySem.Str.ofString "behind") 215] : PySem.Obj }
noncomputable def k_32 (P : Params) : Obj := { cls := PySem.Value.type "tuple", data := PySem.Data.seq #[] : PySem.Obj }
noncomputable def k_34 (P : Params) : Obj := { cls := PySem.Value.type "code", data := PySem.Data.fields #[PySem.Value.str (PySem.Str.ofString "spliced") 207, PySem.Value.str (PySem.Str.ofString "spliced") 208, PySem.Value.str (PySem.Str.ofString "/claim/cut.py") 209, PySem.Value.int 7 0, PySem.Value.int 3 0, PySem.Value.int 0 0, PySem.Value.int 0 0, PySem.Value.int 3 0, PySem.Value.ref 29, PySem.Value.bool Bool.true, PySem.Value.int 181 0, PySem.Value.ref 30, PySem.Value.none, PySem.Value.ref 31, PySem.Value.ref 32, PySem.Value.ref 33, PySem.Value.int 216 0, PySem.Value.int 7 0, PySem.Value.str (PySem.Str.ofString "/claim/cut.py") 217] : PySem.Obj }
noncomputable def k_35 (P : Params) : Obj := wb (fun b => { cls := PySem.Value.type "function", data := PySem.Data.func { name := PySem.Str.ofString "spliced", qualname := PySem.Str.ofString "spliced", params := { posonlyargs := [], args := [{ arg := PySem.Str.ofString "subject", annotation := Option.none, pos := { line := 7, col := 12, endLine := 7, endCol := 19 : PySem.Pos } : PySem.Arg }, { arg := PySem.Str.ofString "found", annotation := Option.none, pos := { line := 7, col := 21, endLine := 7, endCol := 26 : PySem.Pos } : PySem.Arg }, { arg := PySem.Str.ofString "text", annotation := Option.none, pos := { line := 7, col := 28, endLine := 7, endCol := 32 : PySem.Pos } : PySem.Arg }], vararg := Option.none, kwonlyargs := [], kw_defaults := [], kwarg := Option.none, defaults := [] : PySem.Arguments }, body := PySem.FuncBody.stmts b, scope := { kind := PySem.ScopeKind.function, names := [(PySem.Str.ofString "subject", PySem.NameKind.local), (PySem.Str.ofString "found", PySem.NameKind.local), (PySem.Str.ofString "text", PySem.NameKind.local), (PySem.Str.ofString "ahead", PySem.NameKind.local), (PySem.Str.ofString "met", PySem.NameKind.local), (PySem.Str.ofString "behind", PySem.NameKind.local), (PySem.Str.ofString "three_pieces", PySem.NameKind.globalImplicit)], isGenerator := Bool.false, isCoroutine := Bool.false : PySem.Scope }, globals := 3, closure := [], defaults := PySem.Value.none, kwdefaults := PySem.Value.none, pyModule := PySem.Value.str (PySem.Str.ofString "snobol.matchcore") 187, code := PySem.Value.ref 34 : PySem.FuncData } : PySem.Obj }) [_, _] (rfl : _ = fB (stAt 3))
noncomputable def k_36 (P : Params) : Obj := { cls := PySem.Value.type "tuple", data := PySem.Data.seq #[] : PySem.Obj }
noncomputable def k_38 (P : Params) : Obj := { cls := PySem.Value.type "tuple", data := PySem.Data.seq #[PySem.Value.str (PySem.Str.ofString "matcher") 222, PySem.Value.str (PySem.Str.ofString "node") 223, PySem.Value.str (PySem.Str.ofString "subject") 224, PySem.Value.str (PySem.Str.ofString "is_anchored") 225, PySem.Value.str (PySem.Str.ofString "host") 226, PySem.Value.str (PySem.Str.ofString "text_of") 227, PySem.Value.str (PySem.Str.ofString "found") 228, PySem.Value.str (PySem.Str.ofString "text") 229] : PySem.Obj }
noncomputable def k_39 (P : Params) : Obj := { cls := PySem.Value.type "tuple", data := PySem.Data.seq #[] : PySem.Obj }
noncomputable def k_41 (P : Params) : Obj := { cls := PySem.Value.type "code", data := PySem.Data.fields #[PySem.Value.str (PySem.Str.ofString "replace_once") 219, PySem.Value.str (PySem.Str.ofString "replace_once") 220, PySem.Value.str (PySem.Str.ofString "/claim/cut.py") 221, PySem.Value.int 10 0, PySem.Value.int 6 0, PySem.Value.int 0 0, PySem.Value.int 0 0, PySem.Value.int 3 0, PySem.Value.ref 36, PySem.Value.bool Bool.true, PySem.Value.int 181 0, PySem.Value.ref 37, PySem.Value.none, PySem.Value.ref 38, PySem.Value.ref 39, PySem.Value.ref 40, PySem.Value.int 230 0, PySem.Value.int 10 0, PySem.Value.str (PySem.Str.ofString "/claim/cut.py") 231] : PySem.Obj }
noncomputable def k_42 (P : Params) : Obj := wb (fun b => { cls := PySem.Value.type "function", data := PySem.Data.func { name := PySem.Str.ofString "replace_once", qualname := PySem.Str.ofString "replace_once", params := { posonlyargs := [], args := [{ arg := PySem.Str.ofString "matcher", annotation := Option.none, pos := { line := 10, col := 17, endLine := 10, endCol := 24 : PySem.Pos } : PySem.Arg }, { arg := PySem.Str.ofString "node", annotation := Option.none, pos := { line := 10, col := 26, endLine := 10, endCol := 30 : PySem.Pos } : PySem.Arg }, { arg := PySem.Str.ofString "subject", annotation := Option.none, pos := { line := 10, col := 32, endLine := 10, endCol := 39 : PySem.Pos } : PySem.Arg }, { arg := PySem.Str.ofString "is_anchored", annotation := Option.none, pos := { line := 10, col := 41, endLine := 10, endCol := 52 : PySem.Pos } : PySem.Arg }, { arg := PySem.Str.ofString "host", annotation := Option.none, pos := { line := 10, col := 54, endLine := 10, endCol := 58 : PySem.Pos } : PySem.Arg }, { arg := PySem.Str.ofString "text_of", annotation := Option.none, pos := { line := 10, col := 60, endLine := 10, endCol := 67 : PySem.Pos } : PySem.Arg }], vararg := Option.none, kwonlyargs := [], kw_defaults := [], kwarg := Option.none, defaults := [] : PySem.Arguments }, body := PySem.FuncBody.stmts b, scope := { kind := PySem.ScopeKind.function, names := [(PySem.Str.ofString "matcher", PySem.NameKind.local), (PySem.Str.ofString "node", PySem.NameKind.local), (PySem.Str.ofString "subject", PySem.NameKind.local), (PySem.Str.ofString "is_anchored", PySem.NameKind.local), (PySem.Str.ofString "host", PySem.NameKind.local), (PySem.Str.ofString "text_of", PySem.NameKind.local), (PySem.Str.ofString "found", PySem.NameKind.local), (PySem.Str.ofString "text", PySem.NameKind.local), (PySem.Str.ofString "give_names", PySem.NameKind.globalImplicit), (PySem.Str.ofString "spliced", PySem.NameKind.globalImplicit)], isGenerator := Bool.false, isCoroutine := Bool.false : PySem.Scope }, globals := 3, closure := [], defaults := PySem.Value.none, kwdefaults := PySem.Value.none, pyModule := PySem.Value.str (PySem.Str.ofString "snobol.matchcore") 187, code := PySem.Value.ref 41 : PySem.FuncData } : PySem.Obj }) [_, _, _, _, _] (rfl : _ = fB (stAt 4))
noncomputable def k_43 (P : Params) : Obj := { cls := PySem.Value.type "tuple", data := PySem.Data.seq #[] : PySem.Obj }
noncomputable def k_45 (P : Params) : Obj := { cls := PySem.Value.type "tuple", data := PySem.Data.seq #[PySem.Value.str (PySem.Str.ofString "matcher") 236, PySem.Value.str (PySem.Str.ofString "node") 237, PySem.Value.str (PySem.Str.ofString "subject") 238, PySem.Value.str (PySem.Str.ofString "is_anchored") 239, PySem.Value.str (PySem.Str.ofString "host") 240, PySem.Value.str (PySem.Str.ofString "text_of") 241, PySem.Value.str (PySem.Str.ofString "most") 242, PySem.Value.str (PySem.Str.ofString "many") 243, PySem.Value.str (PySem.Str.ofString "later") 244] : PySem.Obj }
noncomputable def k_46 (P : Params) : Obj := { cls := PySem.Value.type "tuple", data := PySem.Data.seq #[] : PySem.Obj }
noncomputable def k_48 (P : Params) : Obj := { cls := PySem.Value.type "code", data := PySem.Data.fields #[PySem.Value.str (PySem.Str.ofString "replace_often") 233, PySem.Value.str (PySem.Str.ofString "replace_often") 234, PySem.Value.str (PySem.Str.ofString "/claim/cut.py") 235, PySem.Value.int 17 0, PySem.Value.int 7 0, PySem.Value.int 0 0, PySem.Value.int 0 0, PySem.Value.int 3 0, PySem.Value.ref 43, PySem.Value.bool Bool.true, PySem.Value.int 181 0, PySem.Value.ref 44, PySem.Value.none, PySem.Value.ref 45, PySem.Value.ref 46, PySem.Value.ref 47, PySem.Value.int 245 0, PySem.Value.int 17 0, PySem.Value.str (PySem.Str.ofString "/claim/cut.py") 246] : PySem.Obj }
noncomputable def k_49 (P : Params) : Obj := wb (fun b => { cls := PySem.Value.type "function", data := PySem.Data.func { name := PySem.Str.ofString "replace_often", qualname := PySem.Str.ofString "replace_often", params := { posonlyargs := [], args := [{ arg := PySem.Str.ofString "matcher", annotation := Option.none, pos := { line := 17, col := 18, endLine := 17, endCol := 25 : PySem.Pos } : PySem.Arg }, { arg := PySem.Str.ofString "node", annotation := Option.none, pos := { line := 17, col := 27, endLine := 17, endCol := 31 : PySem.Pos } : PySem.Arg }, { arg := PySem.Str.ofString "subject", annotation := Option.none, pos := { line := 17, col := 33, endLine := 17, endCol := 40 : PySem.Pos } : PySem.Arg }, { arg := PySem.Str.ofString "is_anchored", annotation := Option.none, pos := { line := 17, col := 42, endLine := 17, endCol := 53 : PySem.Pos } : PySem.Arg }, { arg := PySem.Str.ofString "host", annotation := Option.none, pos := { line := 17, col := 55, endLine := 17, endCol := 59 : PySem.Pos } : PySem.Arg }, { arg := PySem.Str.ofString "text_of", annotation := Option.none, pos := { line := 17, col := 61, endLine := 17, endCol := 68 : PySem.Pos } : PySem.Arg }, { arg := PySem.Str.ofString "most", annotation := Option.none, pos := { line := 17, col := 70, endLine := 17, endCol := 74 : PySem.Pos } : PySem.Arg }], vararg := Option.none, kwonlyargs := [], kw_defaults := [], kwarg := Option.none, defaults := [] : PySem.Arguments }, body := PySem.FuncBody.stmts b, scope := { kind := PySem.ScopeKind.function, names := [(PySem.Str.ofString "matcher", PySem.NameKind.local), (PySem.Str.ofString "node", PySem.NameKind.local), (PySem.Str.ofString "subject", PySem.NameKind.local), (PySem.Str.ofString "is_anchored", PySem.NameKind.local), (PySem.Str.ofString "host", PySem.NameKind.local), (PySem.Str.ofString "text_of", PySem.NameKind.local), (PySem.Str.ofString "most", PySem.NameKind.local), (PySem.Str.ofString "many", PySem.NameKind.local), (PySem.Str.ofString "later", PySem.NameKind.local), (PySem.Str.ofString "replace_once", PySem.NameKind.globalImplicit)], isGenerator := Bool.false, isCoroutine := Bool.false : PySem.Scope }, globals := 3, closure := [], defaults := PySem.Value.none, kwdefaults := PySem.Value.none, pyModule := PySem.Value.str (PySem.Str.ofString "snobol.matchcore") 187, code := PySem.Value.ref 48 : PySem.FuncData } : PySem.Obj }) [_, _, _] (rfl : _ = fB (stAt 5))
noncomputable def k_50 (P : Params) : Obj := { cls := PySem.Value.type "tuple", data := PySem.Data.seq #[PySem.Value.type "Exception"] : PySem.Obj }
noncomputable def k_53 (P : Params) : Obj := { cls := PySem.Value.type "cell", data := PySem.Data.cell (Option.some (PySem.Value.ref 69)) : PySem.Obj }
noncomputable def k_58 (P : Params) : Obj := { cls := PySem.Value.type "tuple", data := PySem.Data.seq #[PySem.Value.str (PySem.Str.ofString "") 262] : PySem.Obj }
noncomputable def k_59 (P : Params) : Obj := { cls := PySem.Value.type "tuple", data := PySem.Data.seq #[PySem.Value.ref 53] : PySem.Obj }
noncomputable def k_60 (P : Params) : Obj := { cls := PySem.Value.type "tuple", data := PySem.Data.seq #[PySem.Value.str (PySem.Str.ofString "__class__") 266] : PySem.Obj }
noncomputable def k_62 (P : Params) : Obj := { cls := PySem.Value.type "tuple", data := PySem.Data.seq #[PySem.Value.str (PySem.Str.ofString "self") 267, PySem.Value.str (PySem.Str.ofString "number") 268, PySem.Value.str (PySem.Str.ofString "told") 269] : PySem.Obj }
noncomputable def k_63 (P : Params) : Obj := { cls := PySem.Value.type "tuple", data := PySem.Data.seq #[] : PySem.Obj }
noncomputable def k_65 (P : Params) : Obj := { cls := PySem.Value.type "code", data := PySem.Data.fields #[PySem.Value.str (PySem.Str.ofString "__init__") 263, PySem.Value.str (PySem.Str.ofString "SnobolError.__init__") 264, PySem.Value.str (PySem.Str.ofString "/claim/cut.py") 265, PySem.Value.int 28 0, PySem.Value.int 3 0, PySem.Value.int 0 0, PySem.Value.int 0 0, PySem.Value.int 3 0, PySem.Value.ref 60, PySem.Value.bool Bool.true, PySem.Value.int 181 0, PySem.Value.ref 61, PySem.Value.none, PySem.Value.ref 62, PySem.Value.ref 63, PySem.Value.ref 64, PySem.Value.int 270 0, PySem.Value.int 28 0, PySem.Value.str (PySem.Str.ofString "/claim/cut.py") 271] : PySem.Obj }
noncomputable def k_66 (P : Params) : Obj := wb (fun b => { cls := PySem.Value.type "function", data := PySem.Data.func { name := PySem.Str.ofString "__init__", qualname := PySem.Str.ofString "SnobolError.__init__", params := { posonlyargs := [], args := [{ arg := PySem.Str.ofString "self", annotation := Option.none, pos := { line := 28, col := 17, endLine := 28, endCol := 21 : PySem.Pos } : PySem.Arg }, { arg := PySem.Str.ofString "number", annotation := Option.none, pos := { line := 28, col := 23, endLine := 28, endCol := 29 : PySem.Pos } : PySem.Arg }, { arg := PySem.Str.ofString "told", annotation := Option.none, pos := { line := 28, col := 31, endLine := 28, endCol := 35 : PySem.Pos } : PySem.Arg }], vararg := Option.none, kwonlyargs := [], kw_defaults := [], kwarg := Option.none, defaults := [PySem.Expr.Constant (PySem.Const.str (PySem.Str.ofString "")) 0 { line := 28, col := 36, endLine := 28, endCol := 38 : PySem.Pos }] : PySem.Arguments }, body := PySem.FuncBody.stmts b, scope := { kind := PySem.ScopeKind.function, names := [(PySem.Str.ofString "self", PySem.NameKind.local), (PySem.Str.ofString "number", PySem.NameKind.local), (PySem.Str.ofString "told", PySem.NameKind.local), (PySem.Str.ofString "__class__", PySem.NameKind.free), (PySem.Str.ofString "super", PySem.NameKind.globalImplicit)], isGenerator := Bool.false, isCoroutine := Bool.false : PySem.Scope }, globals := 3, closure := [(PySem.Str.ofString "__class__", 53)], defaults := PySem.Value.ref 58, kwdefaults := PySem.Value.none, pyModule := PySem.Value.str (PySem.Str.ofString "snobol.values") 248, code := PySem.Value.ref 65, closureTuple := PySem.Value.ref 59 : PySem.FuncData } : PySem.Obj }) [_, _, _] (rfl : _ = fB (inAt (stAt 7) 0))
noncomputable def k_67 (P : Params) : Obj := { cls := PySem.Value.type "tuple", data := PySem.Data.seq #[PySem.Value.str (PySem.Str.ofString "number") 273, PySem.Value.str (PySem.Str.ofString "told") 274] : PySem.Obj }
noncomputable def k_68 (P : Params) : Obj := { cls := PySem.Value.type "dict", data := PySem.Data.dict #[{ hash := PySem.PyData.keyHash P (PySem.Str.ofString "__module__"), key := PySem.Value.str (PySem.Str.ofString "__module__") 257, val := PySem.Value.str (PySem.Str.ofString "snobol.values") 248 : PySem.DictEntry }, { hash := PySem.PyData.keyHash P (PySem.Str.ofString "__firstlineno__"), key := PySem.Value.str (PySem.Str.ofString "__firstlineno__") 261, val := PySem.Value.int 26 260 : PySem.DictEntry }, { hash := PySem.PyData.keyHash P (PySem.Str.ofString "__init__"), key := PySem.Value.str (PySem.Str.ofString "__init__") 272, val := PySem.Value.ref 66 : PySem.DictEntry }, { hash := PySem.PyData.keyHash P (PySem.Str.ofString "__static_attributes__"), key := PySem.Value.str (PySem.Str.ofString "__static_attributes__") 275, val := PySem.Value.ref 67 : PySem.DictEntry }, { hash := PySem.PyData.keyHash P (PySem.Str.ofString "__weakref__"), key := PySem.Value.str (PySem.Str.ofString "__weakref__") 278, val := PySem.Value.ref 70 : PySem.DictEntry }, { hash := PySem.PyData.keyHash P (PySem.Str.ofString "__doc__"), key := PySem.Value.str (PySem.Str.ofString "__doc__") 279, val := PySem.Value.none : PySem.DictEntry }] 4 : PySem.Obj }
noncomputable def k_69 (P : Params) : Obj := { cls := PySem.Value.type "type", data := PySem.Data.cls { name := PySem.Str.ofString "SnobolError", bases := [PySem.Value.type "Exception"], mro := [PySem.Value.ref 69, PySem.Value.type "Exception", PySem.Value.type "BaseException", PySem.Value.type "object"], ns := 68, qualname := PySem.Str.ofString "SnobolError" : PySem.ClassData }, slots := #[Option.some (PySem.Value.ref 50), Option.none, Option.some (PySem.Value.str (PySem.Str.ofString "SnobolError") 250), Option.some (PySem.Value.str (PySem.Str.ofString "SnobolError") 258), Option.some (PySem.Value.builtin "Exception.__new__"), Option.some (PySem.Value.bool Bool.true)] : PySem.Obj }
noncomputable def k_70 (P : Params) : Obj := { cls := PySem.Value.type "getset_descriptor", data := PySem.Data.fields #[PySem.Value.str (PySem.Str.ofString "__weakref__") 277, PySem.Value.ref 69, PySem.Value.builtin "ExceptionGroup.__weakref__", PySem.Value.none] : PySem.Obj }
noncomputable def k_80 (P : Params) : Obj := { cls := PySem.Value.type "tuple", data := PySem.Data.seq #[] : PySem.Obj }
noncomputable def k_81 (P : Params) : Obj := { cls := PySem.Value.type "dict", data := PySem.Data.dict #[{ hash := PySem.PyData.keyHash P (PySem.Str.ofString "__module__"), key := PySem.Value.str (PySem.Str.ofString "__module__") 291, val := PySem.Value.str (PySem.Str.ofString "snobol.values") 248 : PySem.DictEntry }, { hash := PySem.PyData.keyHash P (PySem.Str.ofString "__firstlineno__"), key := PySem.Value.str (PySem.Str.ofString "__firstlineno__") 295, val := PySem.Value.int 32 294 : PySem.DictEntry }, { hash := PySem.PyData.keyHash P (PySem.Str.ofString "__static_attributes__"), key := PySem.Value.str (PySem.Str.ofString "__static_attributes__") 296, val := PySem.Value.ref 80 : PySem.DictEntry }, { hash := PySem.PyData.keyHash P (PySem.Str.ofString "__dict__"), key := PySem.Value.str (PySem.Str.ofString "__dict__") 298, val := PySem.Value.ref 83 : PySem.DictEntry }, { hash := PySem.PyData.keyHash P (PySem.Str.ofString "__weakref__"), key := PySem.Value.str (PySem.Str.ofString "__weakref__") 300, val := PySem.Value.ref 84 : PySem.DictEntry }, { hash := PySem.PyData.keyHash P (PySem.Str.ofString "__doc__"), key := PySem.Value.str (PySem.Str.ofString "__doc__") 301, val := PySem.Value.none : PySem.DictEntry }] 4 : PySem.Obj }
noncomputable def k_82 (P : Params) : Obj := { cls := PySem.Value.type "type", data := PySem.Data.cls { name := PySem.Str.ofString "Failure", bases := [PySem.Value.type "object"], mro := [PySem.Value.ref 82, PySem.Value.type "object"], ns := 81, qualname := PySem.Str.ofString "Failure" : PySem.ClassData }, slots := #[Option.none, Option.none, Option.some (PySem.Value.str (PySem.Str.ofString "Failure") 284), Option.some (PySem.Value.str (PySem.Str.ofString "Failure") 292), Option.some (PySem.Value.builtin "object.__new__"), Option.some (PySem.Value.bool Bool.true)] : PySem.Obj }
noncomputable def k_83 (P : Params) : Obj := { cls := PySem.Value.type "getset_descriptor", data := PySem.Data.fields #[PySem.Value.str (PySem.Str.ofString "__dict__") 297, PySem.Value.ref 82, PySem.Value.builtin "function.__dict__", PySem.Value.builtin "function.__dict__#set"] : PySem.Obj }
noncomputable def k_84 (P : Params) : Obj := { cls := PySem.Value.type "getset_descriptor", data := PySem.Data.fields #[PySem.Value.str (PySem.Str.ofString "__weakref__") 299, PySem.Value.ref 82, PySem.Value.builtin "ExceptionGroup.__weakref__", PySem.Value.none] : PySem.Obj }
noncomputable def k_94 (P : Params) : Obj := { cls := PySem.Value.type "tuple", data := PySem.Data.seq #[] : PySem.Obj }
noncomputable def k_96 (P : Params) : Obj := { cls := PySem.Value.type "tuple", data := PySem.Data.seq #[PySem.Value.str (PySem.Str.ofString "self") 319, PySem.Value.str (PySem.Str.ofString "node") 320] : PySem.Obj }
noncomputable def k_97 (P : Params) : Obj := { cls := PySem.Value.type "tuple", data := PySem.Data.seq #[] : PySem.Obj }
noncomputable def k_99 (P : Params) : Obj := { cls := PySem.Value.type "code", data := PySem.Data.fields #[PySem.Value.str (PySem.Str.ofString "__init__") 316, PySem.Value.str (PySem.Str.ofString "Pattern.__init__") 317, PySem.Value.str (PySem.Str.ofString "/claim/cut.py") 318, PySem.Value.int 36 0, PySem.Value.int 2 0, PySem.Value.int 0 0, PySem.Value.int 0 0, PySem.Value.int 3 0, PySem.Value.ref 94, PySem.Value.bool Bool.true, PySem.Value.int 181 0, PySem.Value.ref 95, PySem.Value.none, PySem.Value.ref 96, PySem.Value.ref 97, PySem.Value.ref 98, PySem.Value.int 321 0, PySem.Value.int 36 0, PySem.Value.str (PySem.Str.ofString "/claim/cut.py") 322] : PySem.Obj }
noncomputable def k_100 (P : Params) : Obj := wb (fun b => { cls := PySem.Value.type "function", data := PySem.Data.func { name := PySem.Str.ofString "__init__", qualname := PySem.Str.ofString "Pattern.__init__", params := { posonlyargs := [], args := [{ arg := PySem.Str.ofString "self", annotation := Option.none, pos := { line := 36, col := 17, endLine := 36, endCol := 21 : PySem.Pos } : PySem.Arg }, { arg := PySem.Str.ofString "node", annotation := Option.none, pos := { line := 36, col := 23, endLine := 36, endCol := 27 : PySem.Pos } : PySem.Arg }], vararg := Option.none, kwonlyargs := [], kw_defaults := [], kwarg := Option.none, defaults := [] : PySem.Arguments }, body := PySem.FuncBody.stmts b, scope := { kind := PySem.ScopeKind.function, names := [(PySem.Str.ofString "self", PySem.NameKind.local), (PySem.Str.ofString "node", PySem.NameKind.local)], isGenerator := Bool.false, isCoroutine := Bool.false : PySem.Scope }, globals := 3, closure := [], defaults := PySem.Value.none, kwdefaults := PySem.Value.none, pyModule := PySem.Value.str (PySem.Str.ofString "snobol.values") 248, code := PySem.Value.ref 99 : PySem.FuncData } : PySem.Obj }) [_] (rfl : _ = fB (inAt (stAt 9) 0))
noncomputable def k_101 (P : Params) : Obj := { cls := PySem.Value.type "tuple", data := PySem.Data.seq #[PySem.Value.str (PySem.Str.ofString "node") 324] : PySem.Obj }
noncomputable def k_102 (P : Params) : Obj := { cls := PySem.Value.type "dict", data := PySem.Data.dict #[{ hash := PySem.PyData.keyHash P (PySem.Str.ofString "__module__"), key := PySem.Value.str (PySem.Str.ofString "__module__") 311, val := PySem.Value.str (PySem.Str.ofString "snobol.values") 248 : PySem.DictEntry }, { hash := PySem.PyData.keyHash P (PySem.Str.ofString "__firstlineno__"), key := PySem.Value.str (PySem.Str.ofString "__firstlineno__") 315, val := PySem.Value.int 34 314 : PySem.DictEntry }, { hash := PySem.PyData.keyHash P (PySem.Str.ofString "__init__"), key := PySem.Value.str (PySem.Str.ofString "__init__") 323, val := PySem.Value.ref 100 : PySem.DictEntry }, { hash := PySem.PyData.keyHash P (PySem.Str.ofString "__static_attributes__"), key := PySem.Value.str (PySem.Str.ofString "__static_attributes__") 325, val := PySem.Value.ref 101 : PySem.DictEntry }, { hash := PySem.PyData.keyHash P (PySem.Str.ofString "__dict__"), key := PySem.Value.str (PySem.Str.ofString "__dict__") 327, val := PySem.Value.ref 104 : PySem.DictEntry }, { hash := PySem.PyData.keyHash P (PySem.Str.ofString "__weakref__"), key := PySem.Value.str (PySem.Str.ofString "__weakref__") 329, val := PySem.Value.ref 105 : PySem.DictEntry }, { hash := PySem.PyData.keyHash P (PySem.Str.ofString "__doc__"), key := PySem.Value.str (PySem.Str.ofString "__doc__") 330, val := PySem.Value.none : PySem.DictEntry }] 4 : PySem.Obj }
noncomputable def k_103 (P : Params) : Obj := { cls := PySem.Value.type "type", data := PySem.Data.cls { name := PySem.Str.ofString "Pattern", bases := [PySem.Value.type "object"], mro := [PySem.Value.ref 103, PySem.Value.type "object"], ns := 102, qualname := PySem.Str.ofString "Pattern" : PySem.ClassData }, slots := #[Option.none, Option.none, Option.some (PySem.Value.str (PySem.Str.ofString "Pattern") 304), Option.some (PySem.Value.str (PySem.Str.ofString "Pattern") 312), Option.some (PySem.Value.builtin "object.__new__"), Option.some (PySem.Value.bool Bool.true)] : PySem.Obj }
noncomputable def k_104 (P : Params) : Obj := { cls := PySem.Value.type "getset_descriptor", data := PySem.Data.fields #[PySem.Value.str (PySem.Str.ofString "__dict__") 326, PySem.Value.ref 103, PySem.Value.builtin "function.__dict__", PySem.Value.builtin "function.__dict__#set"] : PySem.Obj }
noncomputable def k_105 (P : Params) : Obj := { cls := PySem.Value.type "getset_descriptor", data := PySem.Data.fields #[PySem.Value.str (PySem.Str.ofString "__weakref__") 328, PySem.Value.ref 103, PySem.Value.builtin "ExceptionGroup.__weakref__", PySem.Value.none] : PySem.Obj }
noncomputable def k_115 (P : Params) : Obj := { cls := PySem.Value.type "tuple", data := PySem.Data.seq #[] : PySem.Obj }
noncomputable def k_117 (P : Params) : Obj := { cls := PySem.Value.type "tuple", data := PySem.Data.seq #[PySem.Value.str (PySem.Str.ofString "self") 348, PySem.Value.str (PySem.Str.ofString "tree") 349] : PySem.Obj }
noncomputable def k_118 (P : Params) : Obj := { cls := PySem.Value.type "tuple", data := PySem.Data.seq #[] : PySem.Obj }
noncomputable def k_120 (P : Params) : Obj := { cls := PySem.Value.type "code", data := PySem.Data.fields #[PySem.Value.str (PySem.Str.ofString "__init__") 345, PySem.Value.str (PySem.Str.ofString "Delayed.__init__") 346, PySem.Value.str (PySem.Str.ofString "/claim/cut.py") 347, PySem.Value.int 40 0, PySem.Value.int 2 0, PySem.Value.int 0 0, PySem.Value.int 0 0, PySem.Value.int 3 0, PySem.Value.ref 115, PySem.Value.bool Bool.true, PySem.Value.int 181 0, PySem.Value.ref 116, PySem.Value.none, PySem.Value.ref 117, PySem.Value.ref 118, PySem.Value.ref 119, PySem.Value.int 350 0, PySem.Value.int 40 0, PySem.Value.str (PySem.Str.ofString "/claim/cut.py") 351] : PySem.Obj }
noncomputable def k_121 (P : Params) : Obj := wb (fun b => { cls := PySem.Value.type "function", data := PySem.Data.func { name := PySem.Str.ofString "__init__", qualname := PySem.Str.ofString "Delayed.__init__", params := { posonlyargs := [], args := [{ arg := PySem.Str.ofString "self", annotation := Option.none, pos := { line := 40, col := 17, endLine := 40, endCol := 21 : PySem.Pos } : PySem.Arg }, { arg := PySem.Str.ofString "tree", annotation := Option.none, pos := { line := 40, col := 23, endLine := 40, endCol := 27 : PySem.Pos } : PySem.Arg }], vararg := Option.none, kwonlyargs := [], kw_defaults := [], kwarg := Option.none, defaults := [] : PySem.Arguments }, body := PySem.FuncBody.stmts b, scope := { kind := PySem.ScopeKind.function, names := [(PySem.Str.ofString "self", PySem.NameKind.local), (PySem.Str.ofString "tree", PySem.NameKind.local)], isGenerator := Bool.false, isCoroutine := Bool.false : PySem.Scope }, globals := 3, closure := [], defaults := PySem.Value.none, kwdefaults := PySem.Value.none, pyModule := PySem.Value.str (PySem.Str.ofString "snobol.values") 248, code := PySem.Value.ref 120 : PySem.FuncData } : PySem.Obj }) [_] (rfl : _ = fB (inAt (stAt 10) 0))
noncomputable def k_122 (P : Params) : Obj := { cls := PySem.Value.type "tuple", data := PySem.Data.seq #[PySem.Value.str (PySem.Str.ofString "tree") 353] : PySem.Obj }
noncomputable def k_123 (P : Params) : Obj := { cls := PySem.Value.type "dict", data := PySem.Data.dict #[{ hash := PySem.PyData.keyHash P (PySem.Str.ofString "__module__"), key := PySem.Value.str (PySem.Str.ofString "__module__") 340, val := PySem.Value.str (PySem.Str.ofString "snobol.values") 248 : PySem.DictEntry }, { hash := PySem.PyData.keyHash P (PySem.Str.ofString "__firstlineno__"), key := PySem.Value.str (PySem.Str.ofString "__firstlineno__") 344, val := PySem.Value.int 38 343 : PySem.DictEntry }, { hash := PySem.PyData.keyHash P (PySem.Str.ofString "__init__"), key := PySem.Value.str (PySem.Str.ofString "__init__") 352, val := PySem.Value.ref 121 : PySem.DictEntry }, { hash := PySem.PyData.keyHash P (PySem.Str.ofString "__static_attributes__"), key := PySem.Value.str (PySem.Str.ofString "__static_attributes__") 354, val := PySem.Value.ref 122 : PySem.DictEntry }, { hash := PySem.PyData.keyHash P (PySem.Str.ofString "__dict__"), key := PySem.Value.str (PySem.Str.ofString "__dict__") 356, val := PySem.Value.ref 125 : PySem.DictEntry }, { hash := PySem.PyData.keyHash P (PySem.Str.ofString "__weakref__"), key := PySem.Value.str (PySem.Str.ofString "__weakref__") 358, val := PySem.Value.ref 126 : PySem.DictEntry }, { hash := PySem.PyData.keyHash P (PySem.Str.ofString "__doc__"), key := PySem.Value.str (PySem.Str.ofString "__doc__") 359, val := PySem.Value.none : PySem.DictEntry }] 4 : PySem.Obj }
noncomputable def k_124 (P : Params) : Obj := { cls := PySem.Value.type "type", data := PySem.Data.cls { name := PySem.Str.ofString "Delayed", bases := [PySem.Value.type "object"], mro := [PySem.Value.ref 124, PySem.Value.type "object"], ns := 123, qualname := PySem.Str.ofString "Delayed" : PySem.ClassData }, slots := #[Option.none, Option.none, Option.some (PySem.Value.str (PySem.Str.ofString "Delayed") 333), Option.some (PySem.Value.str (PySem.Str.ofString "Delayed") 341), Option.some (PySem.Value.builtin "object.__new__"), Option.some (PySem.Value.bool Bool.true)] : PySem.Obj }
noncomputable def k_125 (P : Params) : Obj := { cls := PySem.Value.type "getset_descriptor", data := PySem.Data.fields #[PySem.Value.str (PySem.Str.ofString "__dict__") 355, PySem.Value.ref 124, PySem.Value.builtin "function.__dict__", PySem.Value.builtin "function.__dict__#set"] : PySem.Obj }
noncomputable def k_126 (P : Params) : Obj := { cls := PySem.Value.type "getset_descriptor", data := PySem.Data.fields #[PySem.Value.str (PySem.Str.ofString "__weakref__") 357, PySem.Value.ref 124, PySem.Value.builtin "ExceptionGroup.__weakref__", PySem.Value.none] : PySem.Obj }
noncomputable def k_136 (P : Params) : Obj := { cls := PySem.Value.type "tuple", data := PySem.Data.seq #[] : PySem.Obj }
noncomputable def k_138 (P : Params) : Obj := { cls := PySem.Value.type "tuple", data := PySem.Data.seq #[PySem.Value.str (PySem.Str.ofString "self") 377, PySem.Value.str (PySem.Str.ofString "kind") 378, PySem.Value.str (PySem.Str.ofString "owner") 379, PySem.Value.str (PySem.Str.ofString "key") 380] : PySem.Obj }
noncomputable def k_139 (P : Params) : Obj := { cls := PySem.Value.type "tuple", data := PySem.Data.seq #[] : PySem.Obj }
noncomputable def k_141 (P : Params) : Obj := { cls := PySem.Value.type "code", data := PySem.Data.fields #[PySem.Value.str (PySem.Str.ofString "__init__") 374, PySem.Value.str (PySem.Str.ofString "NameRef.__init__") 375, PySem.Value.str (PySem.Str.ofString "/claim/cut.py") 376, PySem.Value.int 44 0, PySem.Value.int 4 0, PySem.Value.int 0 0, PySem.Value.int 0 0, PySem.Value.int 3 0, PySem.Value.ref 136, PySem.Value.bool Bool.true, PySem.Value.int 181 0, PySem.Value.ref 137, PySem.Value.none, PySem.Value.ref 138, PySem.Value.ref 139, PySem.Value.ref 140, PySem.Value.int 381 0, PySem.Value.int 44 0, PySem.Value.str (PySem.Str.ofString "/claim/cut.py") 382] : PySem.Obj }
noncomputable def k_142 (P : Params) : Obj := wb (fun b => { cls := PySem.Value.type "function", data := PySem.Data.func { name := PySem.Str.ofString "__init__", qualname := PySem.Str.ofString "NameRef.__init__", params := { posonlyargs := [], args := [{ arg := PySem.Str.ofString "self", annotation := Option.none, pos := { line := 44, col := 17, endLine := 44, endCol := 21 : PySem.Pos } : PySem.Arg }, { arg := PySem.Str.ofString "kind", annotation := Option.none, pos := { line := 44, col := 23, endLine := 44, endCol := 27 : PySem.Pos } : PySem.Arg }, { arg := PySem.Str.ofString "owner", annotation := Option.none, pos := { line := 44, col := 29, endLine := 44, endCol := 34 : PySem.Pos } : PySem.Arg }, { arg := PySem.Str.ofString "key", annotation := Option.none, pos := { line := 44, col := 36, endLine := 44, endCol := 39 : PySem.Pos } : PySem.Arg }], vararg := Option.none, kwonlyargs := [], kw_defaults := [], kwarg := Option.none, defaults := [] : PySem.Arguments }, body := PySem.FuncBody.stmts b, scope := { kind := PySem.ScopeKind.function, names := [(PySem.Str.ofString "self", PySem.NameKind.local), (PySem.Str.ofString "kind", PySem.NameKind.local), (PySem.Str.ofString "owner", PySem.NameKind.local), (PySem.Str.ofString "key", PySem.NameKind.local)], isGenerator := Bool.false, isCoroutine := Bool.false : PySem.Scope }, globals := 3, closure := [], defaults := PySem.Value.none, kwdefaults := PySem.Value.none, pyModule := PySem.Value.str (PySem.Str.ofString "snobol.values") 248, code := PySem.Value.ref 141 : PySem.FuncData } : PySem.Obj }) [_, _, _] (rfl : _ = fB (inAt (stAt 11) 0))
noncomputable def k_143 (P : Params) : Obj := { cls := PySem.Value.type "tuple", data := PySem.Data.seq #[PySem.Value.str (PySem.Str.ofString "key") 384, PySem.Value.str (PySem.Str.ofString "kind") 385, PySem.Value.str (PySem.Str.ofString "owner") 386] : PySem.Obj }
noncomputable def k_144 (P : Params) : Obj := { cls := PySem.Value.type "dict", data := PySem.Data.dict #[{ hash := PySem.PyData.keyHash P (PySem.Str.ofString "__module__"), key := PySem.Value.str (PySem.Str.ofString "__module__") 369, val := PySem.Value.str (PySem.Str.ofString "snobol.values") 248 : PySem.DictEntry }, { hash := PySem.PyData.keyHash P (PySem.Str.ofString "__firstlineno__"), key := PySem.Value.str (PySem.Str.ofString "__firstlineno__") 373, val := PySem.Value.int 42 372 : PySem.DictEntry }, { hash := PySem.PyData.keyHash P (PySem.Str.ofString "__init__"), key := PySem.Value.str (PySem.Str.ofString "__init__") 383, val := PySem.Value.ref 142 : PySem.DictEntry }, { hash := PySem.PyData.keyHash P (PySem.Str.ofString "__static_attributes__"), key := PySem.Value.str (PySem.Str.ofString "__static_attributes__") 387, val := PySem.Value.ref 143 : PySem.DictEntry }, { hash := PySem.PyData.keyHash P (PySem.Str.ofString "__dict__"), key := PySem.Value.str (PySem.Str.ofString "__dict__") 389, val := PySem.Value.ref 146 : PySem.DictEntry }, { hash := PySem.PyData.keyHash P (PySem.Str.ofString "__weakref__"), key := PySem.Value.str (PySem.Str.ofString "__weakref__") 391, val := PySem.Value.ref 147 : PySem.DictEntry }, { hash := PySem.PyData.keyHash P (PySem.Str.ofString "__doc__"), key := PySem.Value.str (PySem.Str.ofString "__doc__") 392, val := PySem.Value.none : PySem.DictEntry }] 4 : PySem.Obj }
noncomputable def k_145 (P : Params) : Obj := { cls := PySem.Value.type "type", data := PySem.Data.cls { name := PySem.Str.ofString "NameRef", bases := [PySem.Value.type "object"], mro := [PySem.Value.ref 145, PySem.Value.type "object"], ns := 144, qualname := PySem.Str.ofString "NameRef" : PySem.ClassData }, slots := #[Option.none, Option.none, Option.some (PySem.Value.str (PySem.Str.ofString "NameRef") 362), Option.some (PySem.Value.str (PySem.Str.ofString "NameRef") 370), Option.some (PySem.Value.builtin "object.__new__"), Option.some (PySem.Value.bool Bool.true)] : PySem.Obj }
noncomputable def k_146 (P : Params) : Obj := { cls := PySem.Value.type "getset_descriptor", data := PySem.Data.fields #[PySem.Value.str (PySem.Str.ofString "__dict__") 388, PySem.Value.ref 145, PySem.Value.builtin "function.__dict__", PySem.Value.builtin "function.__dict__#set"] : PySem.Obj }
noncomputable def k_147 (P : Params) : Obj := { cls := PySem.Value.type "getset_descriptor", data := PySem.Data.fields #[PySem.Value.str (PySem.Str.ofString "__weakref__") 390, PySem.Value.ref 145, PySem.Value.builtin "ExceptionGroup.__weakref__", PySem.Value.none] : PySem.Obj }
noncomputable def k_150 (P : Params) : Obj := { cls := PySem.Value.type "tuple", data := PySem.Data.seq #[] : PySem.Obj }
noncomputable def k_152 (P : Params) : Obj := { cls := PySem.Value.type "tuple", data := PySem.Data.seq #[PySem.Value.str (PySem.Str.ofString "value") 398] : PySem.Obj }
noncomputable def k_153 (P : Params) : Obj := { cls := PySem.Value.type "tuple", data := PySem.Data.seq #[] : PySem.Obj }
noncomputable def k_155 (P : Params) : Obj := { cls := PySem.Value.type "code", data := PySem.Data.fields #[PySem.Value.str (PySem.Str.ofString "is_fail") 395, PySem.Value.str (PySem.Str.ofString "is_fail") 396, PySem.Value.str (PySem.Str.ofString "/claim/cut.py") 397, PySem.Value.int 48 0, PySem.Value.int 1 0, PySem.Value.int 0 0, PySem.Value.int 0 0, PySem.Value.int 3 0, PySem.Value.ref 150, PySem.Value.bool Bool.true, PySem.Value.int 181 0, PySem.Value.ref 151, PySem.Value.none, PySem.Value.ref 152, PySem.Value.ref 153, PySem.Value.ref 154, PySem.Value.int 399 0, PySem.Value.int 48 0, PySem.Value.str (PySem.Str.ofString "/claim/cut.py") 400] : PySem.Obj }
noncomputable def k_156 (P : Params) : Obj := wb (fun b => { cls := PySem.Value.type "function", data := PySem.Data.func { name := PySem.Str.ofString "is_fail", qualname := PySem.Str.ofString "is_fail", params := { posonlyargs := [], args := [{ arg := PySem.Str.ofString "value", annotation := Option.none, pos := { line := 48, col := 12, endLine := 48, endCol := 17 : PySem.Pos } : PySem.Arg }], vararg := Option.none, kwonlyargs := [], kw_defaults := [], kwarg := Option.none, defaults := [] : PySem.Arguments }, body := PySem.FuncBody.stmts b, scope := { kind := PySem.ScopeKind.function, names := [(PySem.Str.ofString "value", PySem.NameKind.local), (PySem.Str.ofString "isinstance", PySem.NameKind.globalImplicit), (PySem.Str.ofString "Failure", PySem.NameKind.globalImplicit)], isGenerator := Bool.false, isCoroutine := Bool.false : PySem.Scope }, globals := 3, closure := [], defaults := PySem.Value.none, kwdefaults := PySem.Value.none, pyModule := PySem.Value.str (PySem.Str.ofString "snobol.values") 248, code := PySem.Value.ref 155 : PySem.FuncData } : PySem.Obj }) [_] (rfl : _ = fB (stAt 12))
noncomputable def k_157 (P : Params) : Obj := { cls := PySem.Value.type "tuple", data := PySem.Data.seq #[] : PySem.Obj }
noncomputable def k_159 (P : Params) : Obj := { cls := PySem.Value.type "tuple", data := PySem.Data.seq #[PySem.Value.str (PySem.Str.ofString "number") 405, PySem.Value.str (PySem.Str.ofString "width") 406] : PySem.Obj }
noncomputable def k_160 (P : Params) : Obj := { cls := PySem.Value.type "tuple", data := PySem.Data.seq #[] : PySem.Obj }
noncomputable def k_162 (P : Params) : Obj := { cls := PySem.Value.type "code", data := PySem.Data.fields #[PySem.Value.str (PySem.Str.ofString "fits") 402, PySem.Value.str (PySem.Str.ofString "fits") 403, PySem.Value.str (PySem.Str.ofString "/claim/cut.py") 404, PySem.Value.int 50 0, PySem.Value.int 2 0, PySem.Value.int 0 0, PySem.Value.int 0 0, PySem.Value.int 3 0, PySem.Value.ref 157, PySem.Value.bool Bool.true, PySem.Value.int 181 0, PySem.Value.ref 158, PySem.Value.none, PySem.Value.ref 159, PySem.Value.ref 160, PySem.Value.ref 161, PySem.Value.int 407 0, PySem.Value.int 50 0, PySem.Value.str (PySem.Str.ofString "/claim/cut.py") 408] : PySem.Obj }
noncomputable def k_163 (P : Params) : Obj := wb (fun b => { cls := PySem.Value.type "function", data := PySem.Data.func { name := PySem.Str.ofString "fits", qualname := PySem.Str.ofString "fits", params := { posonlyargs := [], args := [{ arg := PySem.Str.ofString "number", annotation := Option.none, pos := { line := 50, col := 9, endLine := 50, endCol := 15 : PySem.Pos } : PySem.Arg }, { arg := PySem.Str.ofString "width", annotation := Option.none, pos := { line := 50, col := 17, endLine := 50, endCol := 22 : PySem.Pos } : PySem.Arg }], vararg := Option.none, kwonlyargs := [], kw_defaults := [], kwarg := Option.none, defaults := [] : PySem.Arguments }, body := PySem.FuncBody.stmts b, scope := { kind := PySem.ScopeKind.function, names := [(PySem.Str.ofString "number", PySem.NameKind.local), (PySem.Str.ofString "width", PySem.NameKind.local)], isGenerator := Bool.false, isCoroutine := Bool.false : PySem.Scope }, globals := 3, closure := [], defaults := PySem.Value.none, kwdefaults := PySem.Value.none, pyModule := PySem.Value.str (PySem.Str.ofString "snobol.values") 248, code := PySem.Value.ref 162 : PySem.FuncData } : PySem.Obj }) [_] (rfl : _ = fB (stAt 13))
noncomputable def k_164 (P : Params) : Obj := { cls := PySem.Value.type "tuple", data := PySem.Data.seq #[] : PySem.Obj }
noncomputable def k_166 (P : Params) : Obj := { cls := PySem.Value.type "tuple", data := PySem.Data.seq #[PySem.Value.str (PySem.Str.ofString "text") 413, PySem.Value.str (PySem.Str.ofString "width") 414, PySem.Value.str (PySem.Str.ofString "digits") 415, PySem.Value.str (PySem.Str.ofString "number") 416, PySem.Value.str (PySem.Str.ofString "sign") 417] : PySem.Obj }
noncomputable def k_167 (P : Params) : Obj := { cls := PySem.Value.type "tuple", data := PySem.Data.seq #[] : PySem.Obj }
noncomputable def k_169 (P : Params) : Obj := { cls := PySem.Value.type "code", data := PySem.Data.fields #[PySem.Value.str (PySem.Str.ofString "whole_of_text") 410, PySem.Value.str (PySem.Str.ofString "whole_of_text") 411, PySem.Value.str (PySem.Str.ofString "/claim/cut.py") 412, PySem.Value.int 52 0, PySem.Value.int 2 0, PySem.Value.int 0 0, PySem.Value.int 0 0, PySem.Value.int 3 0, PySem.Value.ref 164, PySem.Value.bool Bool.true, PySem.Value.int 181 0, PySem.Value.ref 165, PySem.Value.none, PySem.Value.ref 166, PySem.Value.ref 167, PySem.Value.ref 168, PySem.Value.int 418 0, PySem.Value.int 52 0, PySem.Value.str (PySem.Str.ofString "/claim/cut.py") 419] : PySem.Obj }
noncomputable def k_170 (P : Params) : Obj := wb (fun b => { cls := PySem.Value.type "function", data := PySem.Data.func { name := PySem.Str.ofString "whole_of_text", qualname := PySem.Str.ofString "whole_of_text", params := { posonlyargs := [], args := [{ arg := PySem.Str.ofString "text", annotation := Option.none, pos := { line := 52, col := 18, endLine := 52, endCol := 22 : PySem.Pos } : PySem.Arg }, { arg := PySem.Str.ofString "width", annotation := Option.none, pos := { line := 52, col := 24, endLine := 52, endCol := 29 : PySem.Pos } : PySem.Arg }], vararg := Option.none, kwonlyargs := [], kw_defaults := [], kwarg := Option.none, defaults := [] : PySem.Arguments }, body := PySem.FuncBody.stmts b, scope := { kind := PySem.ScopeKind.function, names := [(PySem.Str.ofString "text", PySem.NameKind.local), (PySem.Str.ofString "width", PySem.NameKind.local), (PySem.Str.ofString "digits", PySem.NameKind.local), (PySem.Str.ofString "number", PySem.NameKind.local), (PySem.Str.ofString "sign", PySem.NameKind.local), (PySem.Str.ofString "len", PySem.NameKind.globalImplicit), (PySem.Str.ofString "ord", PySem.NameKind.globalImplicit), (PySem.Str.ofString "fits", PySem.NameKind.globalImplicit)], isGenerator := Bool.false, isCoroutine := Bool.false : PySem.Scope }, globals := 3, closure := [], defaults := PySem.Value.none, kwdefaults := PySem.Value.none, pyModule := PySem.Value.str (PySem.Str.ofString "snobol.values") 248, code := PySem.Value.ref 169 : PySem.FuncData } : PySem.Obj }) [_, _, _, _, _, _, _] (rfl : _ = fB (stAt 14))
noncomputable def k_171 (P : Params) : Obj := { cls := PySem.Value.type "tuple", data := PySem.Data.seq #[] : PySem.Obj }
noncomputable def k_173 (P : Params) : Obj := { cls := PySem.Value.type "tuple", data := PySem.Data.seq #[PySem.Value.str (PySem.Str.ofString "number") 424, PySem.Value.str (PySem.Str.ofString "left") 425, PySem.Value.str (PySem.Str.ofString "found") 426] : PySem.Obj }
noncomputable def k_174 (P : Params) : Obj := { cls := PySem.Value.type "tuple", data := PySem.Data.seq #[] : PySem.Obj }
noncomputable def k_176 (P : Params) : Obj := { cls := PySem.Value.type "code", data := PySem.Data.fields #[PySem.Value.str (PySem.Str.ofString "text_of_whole") 421, PySem.Value.str (PySem.Str.ofString "text_of_whole") 422, PySem.Value.str (PySem.Str.ofString "/claim/cut.py") 423, PySem.Value.int 65 0, PySem.Value.int 1 0, PySem.Value.int 0 0, PySem.Value.int 0 0, PySem.Value.int 3 0, PySem.Value.ref 171, PySem.Value.bool Bool.true, PySem.Value.int 181 0, PySem.Value.ref 172, PySem.Value.none, PySem.Value.ref 173, PySem.Value.ref 174, PySem.Value.ref 175, PySem.Value.int 427 0, PySem.Value.int 65 0, PySem.Value.str (PySem.Str.ofString "/claim/cut.py") 428] : PySem.Obj }
noncomputable def k_177 (P : Params) : Obj := wb (fun b => { cls := PySem.Value.type "function", data := PySem.Data.func { name := PySem.Str.ofString "text_of_whole", qualname := PySem.Str.ofString "text_of_whole", params := { posonlyargs := [], args := [{ arg := PySem.Str.ofString "number", annotation := Option.none, pos := { line := 65, col := 18, endLine := 65, endCol := 24 : PySem.Pos } : PySem.Arg }], vararg := Option.none, kwonlyargs := [], kw_defaults := [], kwarg := Option.none, defaults := [] : PySem.Arguments }, body := PySem.FuncBody.stmts b, scope := { kind := PySem.ScopeKind.function, names := [(PySem.Str.ofString "number", PySem.NameKind.local), (PySem.Str.ofString "left", PySem.NameKind.local), (PySem.Str.ofString "found", PySem.NameKind.local), (PySem.Str.ofString "abs", PySem.NameKind.globalImplicit), (PySem.Str.ofString "chr", PySem.NameKind.globalImplicit)], isGenerator := Bool.false, isCoroutine := Bool.false : PySem.Scope }, globals := 3, closure := [], defaults := PySem.Value.none, kwdefaults := PySem.Value.none, pyModule := PySem.Value.str (PySem.Str.ofString "snobol.values") 248, code := PySem.Value.ref 176 : PySem.FuncData } : PySem.Obj }) [_, _, _] (rfl : _ = fB (stAt 15))
noncomputable def k_178 (P : Params) : Obj := { cls := PySem.Value.type "tuple", data := PySem.Data.seq #[] : PySem.Obj }
noncomputable def k_180 (P : Params) : Obj := { cls := PySem.Value.type "tuple", data := PySem.Data.seq #[PySem.Value.str (PySem.Str.ofString "value") 433, PySem.Value.str (PySem.Str.ofString "width") 434] : PySem.Obj }
noncomputable def k_181 (P : Params) : Obj := { cls := PySem.Value.type "tuple", data := PySem.Data.seq #[] : PySem.Obj }
noncomputable def k_183 (P : Params) : Obj := { cls := PySem.Value.type "code", data := PySem.Data.fields #[PySem.Value.str (PySem.Str.ofString "to_whole") 430, PySem.Value.str (PySem.Str.ofString "to_whole") 431, PySem.Value.str (PySem.Str.ofString "/claim/cut.py") 432, PySem.Value.int 71 0, PySem.Value.int 2 0, PySem.Value.int 0 0, PySem.Value.int 0 0, PySem.Value.int 3 0, PySem.Value.ref 178, PySem.Value.bool Bool.true, PySem.Value.int 181 0, PySem.Value.ref 179, PySem.Value.none, PySem.Value.ref 180, PySem.Value.ref 181, PySem.Value.ref 182, PySem.Value.int 435 0, PySem.Value.int 71 0, PySem.Value.str (PySem.Str.ofString "/claim/cut.py") 436] : PySem.Obj }
noncomputable def k_184 (P : Params) : Obj := wb (fun b => { cls := PySem.Value.type "function", data := PySem.Data.func { name := PySem.Str.ofString "to_whole", qualname := PySem.Str.ofString "to_whole", params := { posonlyargs := [], args := [{ arg := PySem.Str.ofString "value", annotation := Option.none, pos := { line := 71, col := 13, endLine := 71, endCol := 18 : PySem.Pos } : PySem.Arg }, { arg := PySem.Str.ofString "width", annotation := Option.none, pos := { line := 71, col := 20, endLine := 71, endCol := 25 : PySem.Pos } : PySem.Arg }], vararg := Option.none, kwonlyargs := [], kw_defaults := [], kwarg := Option.none, defaults := [] : PySem.Arguments }, body := PySem.FuncBody.stmts b, scope := { kind := PySem.ScopeKind.function, names := [(PySem.Str.ofString "value", PySem.NameKind.local), (PySem.Str.ofString "width", PySem.NameKind.local), (PySem.Str.ofString "isinstance", PySem.NameKind.globalImplicit), (PySem.Str.ofString "int", PySem.NameKind.globalImplicit), (PySem.Str.ofString "str", PySem.NameKind.globalImplicit), (PySem.Str.ofString "whole_of_text", PySem.NameKind.globalImplicit)], isGenerator := Bool.false, isCoroutine := Bool.false : PySem.Scope }, globals := 3, closure := [], defaults := PySem.Value.none, kwdefaults := PySem.Value.none, pyModule := PySem.Value.str (PySem.Str.ofString "snobol.values") 248, code := PySem.Value.ref 183 : PySem.FuncData } : PySem.Obj }) [_, _] (rfl : _ = fB (stAt 16))
noncomputable def k_185 (P : Params) : Obj := { cls := PySem.Value.type "tuple", data := PySem.Data.seq #[] : PySem.Obj }
noncomputable def k_187 (P : Params) : Obj := { cls := PySem.Value.type "tuple", data := PySem.Data.seq #[PySem.Value.str (PySem.Str.ofString "value") 441] : PySem.Obj }
noncomputable def k_188 (P : Params) : Obj := { cls := PySem.Value.type "tuple", data := PySem.Data.seq #[] : PySem.Obj }
noncomputable def k_190 (P : Params) : Obj := { cls := PySem.Value.type "code", data := PySem.Data.fields #[PySem.Value.str (PySem.Str.ofString "to_text") 438, PySem.Value.str (PySem.Str.ofString "to_text") 439, PySem.Value.str (PySem.Str.ofString "/claim/cut.py") 440, PySem.Value.int 75 0, PySem.Value.int 1 0, PySem.Value.int 0 0, PySem.Value.int 0 0, PySem.Value.int 3 0, PySem.Value.ref 185, PySem.Value.bool Bool.true, PySem.Value.int 181 0, PySem.Value.ref 186, PySem.Value.none, PySem.Value.ref 187, PySem.Value.ref 188, PySem.Value.ref 189, PySem.Value.int 442 0, PySem.Value.int 75 0, PySem.Value.str (PySem.Str.ofString "/claim/cut.py") 443] : PySem.Obj }
noncomputable def k_191 (P : Params) : Obj := wb (fun b => { cls := PySem.Value.type "function", data := PySem.Data.func { name := PySem.Str.ofString "to_text", qualname := PySem.Str.ofString "to_text", params := { posonlyargs := [], args := [{ arg := PySem.Str.ofString "value", annotation := Option.none, pos := { line := 75, col := 12, endLine := 75, endCol := 17 : PySem.Pos } : PySem.Arg }], vararg := Option.none, kwonlyargs := [], kw_defaults := [], kwarg := Option.none, defaults := [] : PySem.Arguments }, body := PySem.FuncBody.stmts b, scope := { kind := PySem.ScopeKind.function, names := [(PySem.Str.ofString "value", PySem.NameKind.local), (PySem.Str.ofString "isinstance", PySem.NameKind.globalImplicit), (PySem.Str.ofString "str", PySem.NameKind.globalImplicit), (PySem.Str.ofString "int", PySem.NameKind.globalImplicit), (PySem.Str.ofString "text_of_whole", PySem.NameKind.globalImplicit)], isGenerator := Bool.false, isCoroutine := Bool.false : PySem.Scope }, globals := 3, closure := [], defaults := PySem.Value.none, kwdefaults := PySem.Value.none, pyModule := PySem.Value.str (PySem.Str.ofString "snobol.values") 248, code := PySem.Value.ref 190 : PySem.FuncData } : PySem.Obj }) [_, _] (rfl : _ = fB (stAt 17))
noncomputable def k_192 (P : Params) : Obj := { cls := PySem.Value.type "tuple", data := PySem.Data.seq #[] : PySem.Obj }
noncomputable def k_194 (P : Params) : Obj := { cls := PySem.Value.type "tuple", data := PySem.Data.seq #[PySem.Value.str (PySem.Str.ofString "value") 448, PySem.Value.str (PySem.Str.ofString "text") 449] : PySem.Obj }
noncomputable def k_195 (P : Params) : Obj := { cls := PySem.Value.type "tuple", data := PySem.Data.seq #[] : PySem.Obj }
noncomputable def k_197 (P : Params) : Obj := { cls := PySem.Value.type "code", data := PySem.Data.fields #[PySem.Value.str (PySem.Str.ofString "need_text") 445, PySem.Value.str (PySem.Str.ofString "need_text") 446, PySem.Value.str (PySem.Str.ofString "/claim/cut.py") 447, PySem.Value.int 79 0, PySem.Value.int 1 0, PySem.Value.int 0 0, PySem.Value.int 0 0, PySem.Value.int 3 0, PySem.Value.ref 192, PySem.Value.bool Bool.true, PySem.Value.int 181 0, PySem.Value.ref 193, PySem.Value.none, PySem.Value.ref 194, PySem.Value.ref 195, PySem.Value.ref 196, PySem.Value.int 450 0, PySem.Value.int 79 0, PySem.Value.str (PySem.Str.ofString "/claim/cut.py") 451] : PySem.Obj }
noncomputable def k_198 (P : Params) : Obj := wb (fun b => { cls := PySem.Value.type "function", data := PySem.Data.func { name := PySem.Str.ofString "need_text", qualname := PySem.Str.ofString "need_text", params := { posonlyargs := [], args := [{ arg := PySem.Str.ofString "value", annotation := Option.none, pos := { line := 79, col := 14, endLine := 79, endCol := 19 : PySem.Pos } : PySem.Arg }], vararg := Option.none, kwonlyargs := [], kw_defaults := [], kwarg := Option.none, defaults := [] : PySem.Arguments }, body := PySem.FuncBody.stmts b, scope := { kind := PySem.ScopeKind.function, names := [(PySem.Str.ofString "value", PySem.NameKind.local), (PySem.Str.ofString "text", PySem.NameKind.local), (PySem.Str.ofString "to_text", PySem.NameKind.globalImplicit), (PySem.Str.ofString "SnobolError", PySem.NameKind.globalImplicit)], isGenerator := Bool.false, isCoroutine := Bool.false : PySem.Scope }, globals := 3, closure := [], defaults := PySem.Value.none, kwdefaults := PySem.Value.none, pyModule := PySem.Value.str (PySem.Str.ofString "snobol.values") 248, code := PySem.Value.ref 197 : PySem.FuncData } : PySem.Obj }) [_, _, _] (rfl : _ = fB (stAt 18))
noncomputable def k_206 (P : Params) : Obj := { cls := PySem.Value.type "tuple", data := PySem.Data.seq #[] : PySem.Obj }
noncomputable def k_208 (P : Params) : Obj := { cls := PySem.Value.type "tuple", data := PySem.Data.seq #[PySem.Value.str (PySem.Str.ofString "self") 470, PySem.Value.str (PySem.Str.ofString "values") 471, PySem.Value.str (PySem.Str.ofString "limit") 472, PySem.Value.str (PySem.Str.ofString "refused") 473] : PySem.Obj }
noncomputable def k_209 (P : Params) : Obj := { cls := PySem.Value.type "tuple", data := PySem.Data.seq #[] : PySem.Obj }
noncomputable def k_211 (P : Params) : Obj := { cls := PySem.Value.type "code", data := PySem.Data.fields #[PySem.Value.str (PySem.Str.ofString "__init__") 467, PySem.Value.str (PySem.Str.ofString "PlainHost.__init__") 468, PySem.Value.str (PySem.Str.ofString "/claim/cut.py") 469, PySem.Value.int 87 0, PySem.Value.int 4 0, PySem.Value.int 0 0, PySem.Value.int 0 0, PySem.Value.int 3 0, PySem.Value.ref 206, PySem.Value.bool Bool.true, PySem.Value.int 181 0, PySem.Value.ref 207, PySem.Value.none, PySem.Value.ref 208, PySem.Value.ref 209, PySem.Value.ref 210, PySem.Value.int 474 0, PySem.Value.int 87 0, PySem.Value.str (PySem.Str.ofString "/claim/cut.py") 475] : PySem.Obj }
noncomputable def k_212 (P : Params) : Obj := wb (fun b => { cls := PySem.Value.type "function", data := PySem.Data.func { name := PySem.Str.ofString "__init__", qualname := PySem.Str.ofString "PlainHost.__init__", params := { posonlyargs := [], args := [{ arg := PySem.Str.ofString "self", annotation := Option.none, pos := { line := 87, col := 17, endLine := 87, endCol := 21 : PySem.Pos } : PySem.Arg }, { arg := PySem.Str.ofString "values", annotation := Option.none, pos := { line := 87, col := 23, endLine := 87, endCol := 29 : PySem.Pos } : PySem.Arg }, { arg := PySem.Str.ofString "limit", annotation := Option.none, pos := { line := 87, col := 31, endLine := 87, endCol := 36 : PySem.Pos } : PySem.Arg }, { arg := PySem.Str.ofString "refused", annotation := Option.none, pos := { line := 87, col := 38, endLine := 87, endCol := 45 : PySem.Pos } : PySem.Arg }], vararg := Option.none, kwonlyargs := [], kw_defaults := [], kwarg := Option.none, defaults := [] : PySem.Arguments }, body := PySem.FuncBody.stmts b, scope := { kind := PySem.ScopeKind.function, names := [(PySem.Str.ofString "self", PySem.NameKind.local), (PySem.Str.ofString "values", PySem.NameKind.local), (PySem.Str.ofString "limit", PySem.NameKind.local), (PySem.Str.ofString "refused", PySem.NameKind.local)], isGenerator := Bool.false, isCoroutine := Bool.false : PySem.Scope }, globals := 3, closure := [], defaults := PySem.Value.none, kwdefaults := PySem.Value.none, pyModule := PySem.Value.str (PySem.Str.ofString "snobol.hosts") 453, code := PySem.Value.ref 211 : PySem.FuncData } : PySem.Obj }) [_, _, _, _, _, _] (rfl : _ = fB (inAt (stAt 20) 0))
noncomputable def k_213 (P : Params) : Obj := { cls := PySem.Value.type "tuple", data := PySem.Data.seq #[] : PySem.Obj }
noncomputable def k_215 (P : Params) : Obj := { cls := PySem.Value.type "tuple", data := PySem.Data.seq #[PySem.Value.str (PySem.Str.ofString "self") 480, PySem.Value.str (PySem.Str.ofString "tree") 481] : PySem.Obj }
noncomputable def k_216 (P : Params) : Obj := { cls := PySem.Value.type "tuple", data := PySem.Data.seq #[] : PySem.Obj }
noncomputable def k_218 (P : Params) : Obj := { cls := PySem.Value.type "code", data := PySem.Data.fields #[PySem.Value.str (PySem.Str.ofString "value_of") 477, PySem.Value.str (PySem.Str.ofString "PlainHost.value_of") 478, PySem.Value.str (PySem.Str.ofString "/claim/cut.py") 479, PySem.Value.int 95 0, PySem.Value.int 2 0, PySem.Value.int 0 0, PySem.Value.int 0 0, PySem.Value.int 3 0, PySem.Value.ref 213, PySem.Value.bool Bool.true, PySem.Value.int 181 0, PySem.Value.ref 214, PySem.Value.none, PySem.Value.ref 215, PySem.Value.ref 216, PySem.Value.ref 217, PySem.Value.int 482 0, PySem.Value.int 95 0, PySem.Value.str (PySem.Str.ofString "/claim/cut.py") 483] : PySem.Obj }
noncomputable def k_219 (P : Params) : Obj := wb (fun b => { cls := PySem.Value.type "function", data := PySem.Data.func { name := PySem.Str.ofString "value_of", qualname := PySem.Str.ofString "PlainHost.value_of", params := { posonlyargs := [], args := [{ arg := PySem.Str.ofString "self", annotation := Option.none, pos := { line := 95, col := 17, endLine := 95, endCol := 21 : PySem.Pos } : PySem.Arg }, { arg := PySem.Str.ofString "tree", annotation := Option.none, pos := { line := 95, col := 23, endLine := 95, endCol := 27 : PySem.Pos } : PySem.Arg }], vararg := Option.none, kwonlyargs := [], kw_defaults := [], kwarg := Option.none, defaults := [] : PySem.Arguments }, body := PySem.FuncBody.stmts b, scope := { kind := PySem.ScopeKind.function, names := [(PySem.Str.ofString "self", PySem.NameKind.local), (PySem.Str.ofString "tree", PySem.NameKind.local), (PySem.Str.ofString "Failure", PySem.NameKind.globalImplicit)], isGenerator := Bool.false, isCoroutine := Bool.false : PySem.Scope }, globals := 3, closure := [], defaults := PySem.Value.none, kwdefaults := PySem.Value.none, pyModule := PySem.Value.str (PySem.Str.ofString "snobol.hosts") 453, code := PySem.Value.ref 218 : PySem.FuncData } : PySem.Obj }) [_, _] (rfl : _ = fB (inAt (stAt 20) 1))
noncomputable def k_220 (P : Params) : Obj := { cls := PySem.Value.type "tuple", data := PySem.Data.seq #[] : PySem.Obj }
noncomputable def k_222 (P : Params) : Obj := { cls := PySem.Value.type "tuple", data := PySem.Data.seq #[PySem.Value.str (PySem.Str.ofString "self") 488, PySem.Value.str (PySem.Str.ofString "ref") 489, PySem.Value.str (PySem.Str.ofString "value") 490] : PySem.Obj }
noncomputable def k_223 (P : Params) : Obj := { cls := PySem.Value.type "tuple", data := PySem.Data.seq #[] : PySem.Obj }
noncomputable def k_225 (P : Params) : Obj := { cls := PySem.Value.type "code", data := PySem.Data.fields #[PySem.Value.str (PySem.Str.ofString "assign") 485, PySem.Value.str (PySem.Str.ofString "PlainHost.assign") 486, PySem.Value.str (PySem.Str.ofString "/claim/cut.py") 487, PySem.Value.int 100 0, PySem.Value.int 3 0, PySem.Value.int 0 0, PySem.Value.int 0 0, PySem.Value.int 3 0, PySem.Value.ref 220, PySem.Value.bool Bool.true, PySem.Value.int 181 0, PySem.Value.ref 221, PySem.Value.none, PySem.Value.ref 222, PySem.Value.ref 223, PySem.Value.ref 224, PySem.Value.int 491 0, PySem.Value.int 100 0, PySem.Value.str (PySem.Str.ofString "/claim/cut.py") 492] : PySem.Obj }
noncomputable def k_226 (P : Params) : Obj := wb (fun b => { cls := PySem.Value.type "function", data := PySem.Data.func { name := PySem.Str.ofString "assign", qualname := PySem.Str.ofString "PlainHost.assign", params := { posonlyargs := [], args := [{ arg := PySem.Str.ofString "self", annotation := Option.none, pos := { line := 100, col := 15, endLine := 100, endCol := 19 : PySem.Pos } : PySem.Arg }, { arg := PySem.Str.ofString "ref", annotation := Option.none, pos := { line := 100, col := 21, endLine := 100, endCol := 24 : PySem.Pos } : PySem.Arg }, { arg := PySem.Str.ofString "value", annotation := Option.none, pos := { line := 100, col := 26, endLine := 100, endCol := 31 : PySem.Pos } : PySem.Arg }], vararg := Option.none, kwonlyargs := [], kw_defaults := [], kwarg := Option.none, defaults := [] : PySem.Arguments }, body := PySem.FuncBody.stmts b, scope := { kind := PySem.ScopeKind.function, names := [(PySem.Str.ofString "self", PySem.NameKind.local), (PySem.Str.ofString "ref", PySem.NameKind.local), (PySem.Str.ofString "value", PySem.NameKind.local)], isGenerator := Bool.false, isCoroutine := Bool.false : PySem.Scope }, globals := 3, closure := [], defaults := PySem.Value.none, kwdefaults := PySem.Value.none, pyModule := PySem.Value.str (PySem.Str.ofString "snobol.hosts") 453, code := PySem.Value.ref 225 : PySem.FuncData } : PySem.Obj }) [_, _, _, _] (rfl : _ = fB (inAt (stAt 20) 2))
noncomputable def k_227 (P : Params) : Obj := { cls := PySem.Value.type "tuple", data := PySem.Data.seq #[] : PySem.Obj }
noncomputable def k_229 (P : Params) : Obj := { cls := PySem.Value.type "tuple", data := PySem.Data.seq #[PySem.Value.str (PySem.Str.ofString "self") 497] : PySem.Obj }
noncomputable def k_230 (P : Params) : Obj := { cls := PySem.Value.type "tuple", data := PySem.Data.seq #[] : PySem.Obj }
noncomputable def k_232 (P : Params) : Obj := { cls := PySem.Value.type "code", data := PySem.Data.fields #[PySem.Value.str (PySem.Str.ofString "step") 494, PySem.Value.str (PySem.Str.ofString "PlainHost.step") 495, PySem.Value.str (PySem.Str.ofString "/claim/cut.py") 496, PySem.Value.int 107 0, PySem.Value.int 1 0, PySem.Value.int 0 0, PySem.Value.int 0 0, PySem.Value.int 3 0, PySem.Value.ref 227, PySem.Value.bool Bool.true, PySem.Value.int 181 0, PySem.Value.ref 228, PySem.Value.none, PySem.Value.ref 229, PySem.Value.ref 230, PySem.Value.ref 231, PySem.Value.int 498 0, PySem.Value.int 107 0, PySem.Value.str (PySem.Str.ofString "/claim/cut.py") 499] : PySem.Obj }
noncomputable def k_233 (P : Params) : Obj := wb (fun b => { cls := PySem.Value.type "function", data := PySem.Data.func { name := PySem.Str.ofString "step", qualname := PySem.Str.ofString "PlainHost.step", params := { posonlyargs := [], args := [{ arg := PySem.Str.ofString "self", annotation := Option.none, pos := { line := 107, col := 13, endLine := 107, endCol := 17 : PySem.Pos } : PySem.Arg }], vararg := Option.none, kwonlyargs := [], kw_defaults := [], kwarg := Option.none, defaults := [] : PySem.Arguments }, body := PySem.FuncBody.stmts b, scope := { kind := PySem.ScopeKind.function, names := [(PySem.Str.ofString "self", PySem.NameKind.local), (PySem.Str.ofString "SnobolError", PySem.NameKind.globalImplicit)], isGenerator := Bool.false, isCoroutine := Bool.false : PySem.Scope }, globals := 3, closure := [], defaults := PySem.Value.none, kwdefaults := PySem.Value.none, pyModule := PySem.Value.str (PySem.Str.ofString "snobol.hosts") 453, code := PySem.Value.ref 232 : PySem.FuncData } : PySem.Obj }) [_, _] (rfl : _ = fB (inAt (stAt 20) 3))
noncomputable def k_234 (P : Params) : Obj := { cls := PySem.Value.type "tuple", data := PySem.Data.seq #[PySem.Value.str (PySem.Str.ofString "limit") 501, PySem.Value.str (PySem.Str.ofString "log") 502, PySem.Value.str (PySem.Str.ofString "refused") 503, PySem.Value.str (PySem.Str.ofString "steps") 504, PySem.Value.str (PySem.Str.ofString "values") 505, PySem.Value.str (PySem.Str.ofString "width") 506] : PySem.Obj }
noncomputable def k_235 (P : Params) : Obj := { cls := PySem.Value.type "dict", data := PySem.Data.dict #[{ hash := PySem.PyData.keyHash P (PySem.Str.ofString "__module__"), key := PySem.Value.str (PySem.Str.ofString "__module__") 462, val := PySem.Value.str (PySem.Str.ofString "snobol.hosts") 453 : PySem.DictEntry }, { hash := PySem.PyData.keyHash P (PySem.Str.ofString "__firstlineno__"), key := PySem.Value.str (PySem.Str.ofString "__firstlineno__") 466, val := PySem.Value.int 85 465 : PySem.DictEntry }, { hash := PySem.PyData.keyHash P (PySem.Str.ofString "__init__"), key := PySem.Value.str (PySem.Str.ofString "__init__") 476, val := PySem.Value.ref 212 : PySem.DictEntry }, { hash := PySem.PyData.keyHash P (PySem.Str.ofString "value_of"), key := PySem.Value.str (PySem.Str.ofString "value_of") 484, val := PySem.Value.ref 219 : PySem.DictEntry }, { hash := PySem.PyData.keyHash P (PySem.Str.ofString "assign"), key := PySem.Value.str (PySem.Str.ofString "assign") 493, val := PySem.Value.ref 226 : PySem.DictEntry }, { hash := PySem.PyData.keyHash P (PySem.Str.ofString "step"), key := PySem.Value.str (PySem.Str.ofString "step") 500, val := PySem.Value.ref 233 : PySem.DictEntry }, { hash := PySem.PyData.keyHash P (PySem.Str.ofString "__static_attributes__"), key := PySem.Value.str (PySem.Str.ofString "__static_attributes__") 507, val := PySem.Value.ref 234 : PySem.DictEntry }, { hash := PySem.PyData.keyHash P (PySem.Str.ofString "__dict__"), key := PySem.Value.str (PySem.Str.ofString "__dict__") 509, val := PySem.Value.ref 237 : PySem.DictEntry }, { hash := PySem.PyData.keyHash P (PySem.Str.ofString "__weakref__"), key := PySem.Value.str (PySem.Str.ofString "__weakref__") 511, val := PySem.Value.ref 238 : PySem.DictEntry }, { hash := PySem.PyData.keyHash P (PySem.Str.ofString "__doc__"), key := PySem.Value.str (PySem.Str.ofString "__doc__") 512, val := PySem.Value.none : PySem.DictEntry }] 4 : PySem.Obj }
noncomputable def k_236 (P : Params) : Obj := { cls := PySem.Value.type "type", data := PySem.Data.cls { name := PySem.Str.ofString "PlainHost", bases := [PySem.Value.type "object"], mro := [PySem.Value.ref 236, PySem.Value.type "object"], ns := 235, qualname := PySem.Str.ofString "PlainHost" : PySem.ClassData }, slots := #[Option.none, Option.none, Option.some (PySem.Value.str (PySem.Str.ofString "PlainHost") 455), Option.some (PySem.Value.str (PySem.Str.ofString "PlainHost") 463), Option.some (PySem.Value.builtin "object.__new__"), Option.some (PySem.Value.bool Bool.true)] : PySem.Obj }
noncomputable def k_237 (P : Params) : Obj := { cls := PySem.Value.type "getset_descriptor", data := PySem.Data.fields #[PySem.Value.str (PySem.Str.ofString "__dict__") 508, PySem.Value.ref 236, PySem.Value.builtin "function.__dict__", PySem.Value.builtin "function.__dict__#set"] : PySem.Obj }
noncomputable def k_238 (P : Params) : Obj := { cls := PySem.Value.type "getset_descriptor", data := PySem.Data.fields #[PySem.Value.str (PySem.Str.ofString "__weakref__") 510, PySem.Value.ref 236, PySem.Value.builtin "ExceptionGroup.__weakref__", PySem.Value.none] : PySem.Obj }
noncomputable def k_241 (P : Params) : Obj := { cls := PySem.Value.type "tuple", data := PySem.Data.seq #[PySem.Value.str (PySem.Str.ofString "len") 517, PySem.Value.str (PySem.Str.ofString "pos") 518, PySem.Value.str (PySem.Str.ofString "rpos") 519, PySem.Value.str (PySem.Str.ofString "tab") 520, PySem.Value.str (PySem.Str.ofString "rtab") 521] : PySem.Obj }
noncomputable def k_242 (P : Params) : Obj := { cls := PySem.Value.type "tuple", data := PySem.Data.seq #[PySem.Value.str (PySem.Str.ofString "any") 523, PySem.Value.str (PySem.Str.ofString "notany") 524, PySem.Value.str (PySem.Str.ofString "span") 525, PySem.Value.str (PySem.Str.ofString "break") 526] : PySem.Obj }
noncomputable def k_243 (P : Params) : Obj := { cls := PySem.Value.type "tuple", data := PySem.Data.seq #[PySem.Value.int 64 528] : PySem.Obj }
noncomputable def k_244 (P : Params) : Obj := { cls := PySem.Value.type "tuple", data := PySem.Data.seq #[] : PySem.Obj }
noncomputable def k_246 (P : Params) : Obj := { cls := PySem.Value.type "tuple", data := PySem.Data.seq #[PySem.Value.str (PySem.Str.ofString "value") 533, PySem.Value.str (PySem.Str.ofString "kind") 534, PySem.Value.str (PySem.Str.ofString "width") 535, PySem.Value.str (PySem.Str.ofString "count") 536] : PySem.Obj }
noncomputable def k_247 (P : Params) : Obj := { cls := PySem.Value.type "tuple", data := PySem.Data.seq #[] : PySem.Obj }
noncomputable def k_249 (P : Params) : Obj := { cls := PySem.Value.type "code", data := PySem.Data.fields #[PySem.Value.str (PySem.Str.ofString "plain_count") 530, PySem.Value.str (PySem.Str.ofString "plain_count") 531, PySem.Value.str (PySem.Str.ofString "/claim/cut.py") 532, PySem.Value.int 115 0, PySem.Value.int 3 0, PySem.Value.int 0 0, PySem.Value.int 0 0, PySem.Value.int 3 0, PySem.Value.ref 244, PySem.Value.bool Bool.true, PySem.Value.int 181 0, PySem.Value.ref 245, PySem.Value.none, PySem.Value.ref 246, PySem.Value.ref 247, PySem.Value.ref 248, PySem.Value.int 537 0, PySem.Value.int 115 0, PySem.Value.str (PySem.Str.ofString "/claim/cut.py") 538] : PySem.Obj }
noncomputable def k_250 (P : Params) : Obj := wb (fun b => { cls := PySem.Value.type "function", data := PySem.Data.func { name := PySem.Str.ofString "plain_count", qualname := PySem.Str.ofString "plain_count", params := { posonlyargs := [], args := [{ arg := PySem.Str.ofString "value", annotation := Option.none, pos := { line := 115, col := 16, endLine := 115, endCol := 21 : PySem.Pos } : PySem.Arg }, { arg := PySem.Str.ofString "kind", annotation := Option.none, pos := { line := 115, col := 23, endLine := 115, endCol := 27 : PySem.Pos } : PySem.Arg }, { arg := PySem.Str.ofString "width", annotation := Option.none, pos := { line := 115, col := 29, endLine := 115, endCol := 34 : PySem.Pos } : PySem.Arg }], vararg := Option.none, kwonlyargs := [], kw_defaults := [], kwarg := Option.none, defaults := [PySem.Expr.Name (PySem.Str.ofString "WIDTH_OF_COUNT") { line := 115, col := 35, endLine := 115, endCol := 49 : PySem.Pos }] : PySem.Arguments }, body := PySem.FuncBody.stmts b, scope := { kind := PySem.ScopeKind.function, names := [(PySem.Str.ofString "value", PySem.NameKind.local), (PySem.Str.ofString "kind", PySem.NameKind.local), (PySem.Str.ofString "width", PySem.NameKind.local), (PySem.Str.ofString "count", PySem.NameKind.local), (PySem.Str.ofString "to_whole", PySem.NameKind.globalImplicit), (PySem.Str.ofString "SnobolError", PySem.NameKind.globalImplicit)], isGenerator := Bool.false, isCoroutine := Bool.false : PySem.Scope }, globals := 3, closure := [], defaults := PySem.Value.ref 243, kwdefaults := PySem.Value.none, pyModule := PySem.Value.str (PySem.Str.ofString "snobol.nodes") 515, code := PySem.Value.ref 249 : PySem.FuncData } : PySem.Obj }) [_, _, _, _] (rfl : _ = fB (stAt 25))
noncomputable def k_251 (P : Params) : Obj := { cls := PySem.Value.type "tuple", data := PySem.Data.seq #[] : PySem.Obj }
noncomputable def k_253 (P : Params) : Obj := { cls := PySem.Value.type "tuple", data := PySem.Data.seq #[PySem.Value.str (PySem.Str.ofString "value") 543, PySem.Value.str (PySem.Str.ofString "kind") 544, PySem.Value.str (PySem.Str.ofString "text") 545] : PySem.Obj }
noncomputable def k_254 (P : Params) : Obj := { cls := PySem.Value.type "tuple", data := PySem.Data.seq #[] : PySem.Obj }
noncomputable def k_256 (P : Params) : Obj := { cls := PySem.Value.type "code", data := PySem.Data.fields #[PySem.Value.str (PySem.Str.ofString "plain_signs") 540, PySem.Value.str (PySem.Str.ofString "plain_signs") 541, PySem.Value.str (PySem.Str.ofString "/claim/cut.py") 542, PySem.Value.int 122 0, PySem.Value.int 2 0, PySem.Value.int 0 0, PySem.Value.int 0 0, PySem.Value.int 3 0, PySem.Value.ref 251, PySem.Value.bool Bool.true, PySem.Value.int 181 0, PySem.Value.ref 252, PySem.Value.none, PySem.Value.ref 253, PySem.Value.ref 254, PySem.Value.ref 255, PySem.Value.int 546 0, PySem.Value.int 122 0, PySem.Value.str (PySem.Str.ofString "/claim/cut.py") 547] : PySem.Obj }
noncomputable def k_257 (P : Params) : Obj := wb (fun b => { cls := PySem.Value.type "function", data := PySem.Data.func { name := PySem.Str.ofString "plain_signs", qualname := PySem.Str.ofString "plain_signs", params := { posonlyargs := [], args := [{ arg := PySem.Str.ofString "value", annotation := Option.none, pos := { line := 122, col := 16, endLine := 122, endCol := 21 : PySem.Pos } : PySem.Arg }, { arg := PySem.Str.ofString "kind", annotation := Option.none, pos := { line := 122, col := 23, endLine := 122, endCol := 27 : PySem.Pos } : PySem.Arg }], vararg := Option.none, kwonlyargs := [], kw_defaults := [], kwarg := Option.none, defaults := [] : PySem.Arguments }, body := PySem.FuncBody.stmts b, scope := { kind := PySem.ScopeKind.function, names := [(PySem.Str.ofString "value", PySem.NameKind.local), (PySem.Str.ofString "kind", PySem.NameKind.local), (PySem.Str.ofString "text", PySem.NameKind.local), (PySem.Str.ofString "need_text", PySem.NameKind.globalImplicit), (PySem.Str.ofString "SnobolError", PySem.NameKind.globalImplicit)], isGenerator := Bool.false, isCoroutine := Bool.false : PySem.Scope }, globals := 3, closure := [], defaults := PySem.Value.none, kwdefaults := PySem.Value.none, pyModule := PySem.Value.str (PySem.Str.ofString "snobol.nodes") 515, code := PySem.Value.ref 256 : PySem.FuncData } : PySem.Obj }) [_, _, _] (rfl : _ = fB (stAt 26))
noncomputable def k_258 (P : Params) : Obj := { cls := PySem.Value.type "tuple", data := PySem.Data.seq #[] : PySem.Obj }
noncomputable def k_260 (P : Params) : Obj := { cls := PySem.Value.type "tuple", data := PySem.Data.seq #[PySem.Value.str (PySem.Str.ofString "value") 552, PySem.Value.str (PySem.Str.ofString "text") 553] : PySem.Obj }
noncomputable def k_261 (P : Params) : Obj := { cls := PySem.Value.type "tuple", data := PySem.Data.seq #[] : PySem.Obj }
noncomputable def k_263 (P : Params) : Obj := { cls := PySem.Value.type "code", data := PySem.Data.fields #[PySem.Value.str (PySem.Str.ofString "pattern_of") 549, PySem.Value.str (PySem.Str.ofString "pattern_of") 550, PySem.Value.str (PySem.Str.ofString "/claim/cut.py") 551, PySem.Value.int 127 0, PySem.Value.int 1 0, PySem.Value.int 0 0, PySem.Value.int 0 0, PySem.Value.int 3 0, PySem.Value.ref 258, PySem.Value.bool Bool.true, PySem.Value.int 181 0, PySem.Value.ref 259, PySem.Value.none, PySem.Value.ref 260, PySem.Value.ref 261, PySem.Value.ref 262, PySem.Value.int 554 0, PySem.Value.int 127 0, PySem.Value.str (PySem.Str.ofString "/claim/cut.py") 555] : PySem.Obj }
noncomputable def k_264 (P : Params) : Obj := wb (fun b => { cls := PySem.Value.type "function", data := PySem.Data.func { name := PySem.Str.ofString "pattern_of", qualname := PySem.Str.ofString "pattern_of", params := { posonlyargs := [], args := [{ arg := PySem.Str.ofString "value", annotation := Option.none, pos := { line := 127, col := 15, endLine := 127, endCol := 20 : PySem.Pos } : PySem.Arg }], vararg := Option.none, kwonlyargs := [], kw_defaults := [], kwarg := Option.none, defaults := [] : PySem.Arguments }, body := PySem.FuncBody.stmts b, scope := { kind := PySem.ScopeKind.function, names := [(PySem.Str.ofString "value", PySem.NameKind.local), (PySem.Str.ofString "text", PySem.NameKind.local), (PySem.Str.ofString "isinstance", PySem.NameKind.globalImplicit), (PySem.Str.ofString "Pattern", PySem.NameKind.globalImplicit), (PySem.Str.ofString "Delayed", PySem.NameKind.globalImplicit), (PySem.Str.ofString "to_text", PySem.NameKind.globalImplicit), (PySem.Str.ofString "SnobolError", PySem.NameKind.globalImplicit)], isGenerator := Bool.false, isCoroutine := Bool.false : PySem.Scope }, globals := 3, closure := [], defaults := PySem.Value.none, kwdefaults := PySem.Value.none, pyModule := PySem.Value.str (PySem.Str.ofString "snobol.nodes") 515, code := PySem.Value.ref 263 : PySem.FuncData } : PySem.Obj }) [_, _, _, _, _] (rfl : _ = fB (stAt 27))
noncomputable def k_265 (P : Params) : Obj := { cls := PySem.Value.type "tuple", data := PySem.Data.seq #[] : PySem.Obj }
noncomputable def k_267 (P : Params) : Obj := { cls := PySem.Value.type "tuple", data := PySem.Data.seq #[PySem.Value.str (PySem.Str.ofString "told") 560] : PySem.Obj }
noncomputable def k_268 (P : Params) : Obj := { cls := PySem.Value.type "tuple", data := PySem.Data.seq #[] : PySem.Obj }
noncomputable def k_270 (P : Params) : Obj := { cls := PySem.Value.type "code", data := PySem.Data.fields #[PySem.Value.str (PySem.Str.ofString "is_delayed") 557, PySem.Value.str (PySem.Str.ofString "is_delayed") 558, PySem.Value.str (PySem.Str.ofString "/claim/cut.py") 559, PySem.Value.int 136 0, PySem.Value.int 1 0, PySem.Value.int 0 0, PySem.Value.int 0 0, PySem.Value.int 3 0, PySem.Value.ref 265, PySem.Value.bool Bool.true, PySem.Value.int 181 0, PySem.Value.ref 266, PySem.Value.none, PySem.Value.ref 267, PySem.Value.ref 268, PySem.Value.ref 269, PySem.Value.int 561 0, PySem.Value.int 136 0, PySem.Value.str (PySem.Str.ofString "/claim/cut.py") 562] : PySem.Obj }
noncomputable def k_271 (P : Params) : Obj := wb (fun b => { cls := PySem.Value.type "function", data := PySem.Data.func { name := PySem.Str.ofString "is_delayed", qualname := PySem.Str.ofString "is_delayed", params := { posonlyargs := [], args := [{ arg := PySem.Str.ofString "told", annotation := Option.none, pos := { line := 136, col := 15, endLine := 136, endCol := 19 : PySem.Pos } : PySem.Arg }], vararg := Option.none, kwonlyargs := [], kw_defaults := [], kwarg := Option.none, defaults := [] : PySem.Arguments }, body := PySem.FuncBody.stmts b, scope := { kind := PySem.ScopeKind.function, names := [(PySem.Str.ofString "told", PySem.NameKind.local), (PySem.Str.ofString "isinstance", PySem.NameKind.globalImplicit), (PySem.Str.ofString "tuple", PySem.NameKind.globalImplicit)], isGenerator := Bool.false, isCoroutine := Bool.false : PySem.Scope }, globals := 3, closure := [], defaults := PySem.Value.none, kwdefaults := PySem.Value.none, pyModule := PySem.Value.str (PySem.Str.ofString "snobol.nodes") 515, code := PySem.Value.ref 270 : PySem.FuncData } : PySem.Obj }) [_] (rfl : _ = fB (stAt 28))
noncomputable def k_272 (P : Params) : Obj := { cls := PySem.Value.type "tuple", data := PySem.Data.seq #[] : PySem.Obj }
noncomputable def k_274 (P : Params) : Obj := { cls := PySem.Value.type "tuple", data := PySem.Data.seq #[PySem.Value.str (PySem.Str.ofString "node") 567, PySem.Value.str (PySem.Str.ofString "host") 568, PySem.Value.str (PySem.Str.ofString "value") 569] : PySem.Obj }
noncomputable def k_275 (P : Params) : Obj := { cls := PySem.Value.type "tuple", data := PySem.Data.seq #[] : PySem.Obj }
noncomputable def k_277 (P : Params) : Obj := { cls := PySem.Value.type "code", data := PySem.Data.fields #[PySem.Value.str (PySem.Str.ofString "settled") 564, PySem.Value.str (PySem.Str.ofString "settled") 565, PySem.Value.str (PySem.Str.ofString "/claim/cut.py") 566, PySem.Value.int 138 0, PySem.Value.int 2 0, PySem.Value.int 0 0, PySem.Value.int 0 0, PySem.Value.int 3 0, PySem.Value.ref 272, PySem.Value.bool Bool.true, PySem.Value.int 181 0, PySem.Value.ref 273, PySem.Value.none, PySem.Value.ref 274, PySem.Value.ref 275, PySem.Value.ref 276, PySem.Value.int 570 0, PySem.Value.int 138 0, PySem.Value.str (PySem.Str.ofString "/claim/cut.py") 571] : PySem.Obj }
noncomputable def k_278 (P : Params) : Obj := wb (fun b => { cls := PySem.Value.type "function", data := PySem.Data.func { name := PySem.Str.ofString "settled", qualname := PySem.Str.ofString "settled", params := { posonlyargs := [], args := [{ arg := PySem.Str.ofString "node", annotation := Option.none, pos := { line := 138, col := 12, endLine := 138, endCol := 16 : PySem.Pos } : PySem.Arg }, { arg := PySem.Str.ofString "host", annotation := Option.none, pos := { line := 138, col := 18, endLine := 138, endCol := 22 : PySem.Pos } : PySem.Arg }], vararg := Option.none, kwonlyargs := [], kw_defaults := [], kwarg := Option.none, defaults := [] : PySem.Arguments }, body := PySem.FuncBody.stmts b, scope := { kind := PySem.ScopeKind.function, names := [(PySem.Str.ofString "node", PySem.NameKind.local), (PySem.Str.ofString "host", PySem.NameKind.local), (PySem.Str.ofString "value", PySem.NameKind.local), (PySem.Str.ofString "COUNTED", PySem.NameKind.globalImplicit), (PySem.Str.ofString "SIGNED", PySem.NameKind.globalImplicit), (PySem.Str.ofString "is_delayed", PySem.NameKind.globalImplicit), (PySem.Str.ofString "is_fail", PySem.NameKind.globalImplicit), (PySem.Str.ofString "plain_count", PySem.NameKind.globalImplicit), (PySem.Str.ofString "plain_signs", PySem.NameKind.globalImplicit)], isGenerator := Bool.false, isCoroutine := Bool.false : PySem.Scope }, globals := 3, closure := [], defaults := PySem.Value.none, kwdefaults := PySem.Value.none, pyModule := PySem.Value.str (PySem.Str.ofString "snobol.nodes") 515, code := PySem.Value.ref 277 : PySem.FuncData } : PySem.Obj }) [_, _, _, _, _] (rfl : _ = fB (stAt 29))
noncomputable def k_279 (P : Params) : Obj := { cls := PySem.Value.type "tuple", data := PySem.Data.seq #[] : PySem.Obj }
noncomputable def k_281 (P : Params) : Obj := { cls := PySem.Value.type "tuple", data := PySem.Data.seq #[PySem.Value.str (PySem.Str.ofString "subject") 582, PySem.Value.str (PySem.Str.ofString "at") 583, PySem.Value.str (PySem.Str.ofString "text") 584, PySem.Value.str (PySem.Str.ofString "end") 585] : PySem.Obj }
noncomputable def k_282 (P : Params) : Obj := { cls := PySem.Value.type "tuple", data := PySem.Data.seq #[] : PySem.Obj }
noncomputable def k_284 (P : Params) : Obj := { cls := PySem.Value.type "code", data := PySem.Data.fields #[PySem.Value.str (PySem.Str.ofString "chars_end") 579, PySem.Value.str (PySem.Str.ofString "chars_end") 580, PySem.Value.str (PySem.Str.ofString "/claim/cut.py") 581, PySem.Value.int 150 0, PySem.Value.int 3 0, PySem.Value.int 0 0, PySem.Value.int 0 0, PySem.Value.int 3 0, PySem.Value.ref 279, PySem.Value.bool Bool.true, PySem.Value.int 181 0, PySem.Value.ref 280, PySem.Value.none, PySem.Value.ref 281, PySem.Value.ref 282, PySem.Value.ref 283, PySem.Value.int 586 0, PySem.Value.int 150 0, PySem.Value.str (PySem.Str.ofString "/claim/cut.py") 587] : PySem.Obj }
noncomputable def k_285 (P : Params) : Obj := wb (fun b => { cls := PySem.Value.type "function", data := PySem.Data.func { name := PySem.Str.ofString "chars_end", qualname := PySem.Str.ofString "chars_end", params := { posonlyargs := [], args := [{ arg := PySem.Str.ofString "subject", annotation := Option.none, pos := { line := 150, col := 14, endLine := 150, endCol := 21 : PySem.Pos } : PySem.Arg }, { arg := PySem.Str.ofString "at", annotation := Option.none, pos := { line := 150, col := 23, endLine := 150, endCol := 25 : PySem.Pos } : PySem.Arg }, { arg := PySem.Str.ofString "text", annotation := Option.none, pos := { line := 150, col := 27, endLine := 150, endCol := 31 : PySem.Pos } : PySem.Arg }], vararg := Option.none, kwonlyargs := [], kw_defaults := [], kwarg := Option.none, defaults := [] : PySem.Arguments }, body := PySem.FuncBody.stmts b, scope := { kind := PySem.ScopeKind.function, names := [(PySem.Str.ofString "subject", PySem.NameKind.local), (PySem.Str.ofString "at", PySem.NameKind.local), (PySem.Str.ofString "text", PySem.NameKind.local), (PySem.Str.ofString "end", PySem.NameKind.local), (PySem.Str.ofString "len", PySem.NameKind.globalImplicit)], isGenerator := Bool.false, isCoroutine := Bool.false : PySem.Scope }, globals := 3, closure := [], defaults := PySem.Value.none, kwdefaults := PySem.Value.none, pyModule := PySem.Value.str (PySem.Str.ofString "snobol.primitives") 573, code := PySem.Value.ref 284 : PySem.FuncData } : PySem.Obj }) [_, _] (rfl : _ = fB (stAt 33))
noncomputable def k_286 (P : Params) : Obj := { cls := PySem.Value.type "tuple", data := PySem.Data.seq #[] : PySem.Obj }
noncomputable def k_288 (P : Params) : Obj := { cls := PySem.Value.type "tuple", data := PySem.Data.seq #[PySem.Value.str (PySem.Str.ofString "subject") 592, PySem.Value.str (PySem.Str.ofString "at") 593, PySem.Value.str (PySem.Str.ofString "many") 594] : PySem.Obj }
noncomputable def k_289 (P : Params) : Obj := { cls := PySem.Value.type "tuple", data := PySem.Data.seq #[] : PySem.Obj }
noncomputable def k_291 (P : Params) : Obj := { cls := PySem.Value.type "code", data := PySem.Data.fields #[PySem.Value.str (PySem.Str.ofString "len_end") 589, PySem.Value.str (PySem.Str.ofString "len_end") 590, PySem.Value.str (PySem.Str.ofString "/claim/cut.py") 591, PySem.Value.int 153 0, PySem.Value.int 3 0, PySem.Value.int 0 0, PySem.Value.int 0 0, PySem.Value.int 3 0, PySem.Value.ref 286, PySem.Value.bool Bool.true, PySem.Value.int 181 0, PySem.Value.ref 287, PySem.Value.none, PySem.Value.ref 288, PySem.Value.ref 289, PySem.Value.ref 290, PySem.Value.int 595 0, PySem.Value.int 153 0, PySem.Value.str (PySem.Str.ofString "/claim/cut.py") 596] : PySem.Obj }
noncomputable def k_292 (P : Params) : Obj := wb (fun b => { cls := PySem.Value.type "function", data := PySem.Data.func { name := PySem.Str.ofString "len_end", qualname := PySem.Str.ofString "len_end", params := { posonlyargs := [], args := [{ arg := PySem.Str.ofString "subject", annotation := Option.none, pos := { line := 153, col := 12, endLine := 153, endCol := 19 : PySem.Pos } : PySem.Arg }, { arg := PySem.Str.ofString "at", annotation := Option.none, pos := { line := 153, col := 21, endLine := 153, endCol := 23 : PySem.Pos } : PySem.Arg }, { arg := PySem.Str.ofString "many", annotation := Option.none, pos := { line := 153, col := 25, endLine := 153, endCol := 29 : PySem.Pos } : PySem.Arg }], vararg := Option.none, kwonlyargs := [], kw_defaults := [], kwarg := Option.none, defaults := [] : PySem.Arguments }, body := PySem.FuncBody.stmts b, scope := { kind := PySem.ScopeKind.function, names := [(PySem.Str.ofString "subject", PySem.NameKind.local), (PySem.Str.ofString "at", PySem.NameKind.local), (PySem.Str.ofString "many", PySem.NameKind.local), (PySem.Str.ofString "len", PySem.NameKind.globalImplicit)], isGenerator := Bool.false, isCoroutine := Bool.false : PySem.Scope }, globals := 3, closure := [], defaults := PySem.Value.none, kwdefaults := PySem.Value.none, pyModule := PySem.Value.str (PySem.Str.ofString "snobol.primitives") 573, code := PySem.Value.ref 291 : PySem.FuncData } : PySem.Obj }) [_] (rfl : _ = fB (stAt 34))
noncomputable def k_293 (P : Params) : Obj := { cls := PySem.Value.type "tuple", data := PySem.Data.seq #[] : PySem.Obj }
noncomputable def k_295 (P : Params) : Obj := { cls := PySem.Value.type "tuple", data := PySem.Data.seq #[PySem.Value.str (PySem.Str.ofString "at") 601, PySem.Value.str (PySem.Str.ofString "place") 602] : PySem.Obj }
noncomputable def k_296 (P : Params) : Obj := { cls := PySem.Value.type "tuple", data := PySem.Data.seq #[] : PySem.Obj }
noncomputable def k_298 (P : Params) : Obj := { cls := PySem.Value.type "code", data := PySem.Data.fields #[PySem.Value.str (PySem.Str.ofString "pos_end") 598, PySem.Value.str (PySem.Str.ofString "pos_end") 599, PySem.Value.str (PySem.Str.ofString "/claim/cut.py") 600, PySem.Value.int 155 0, PySem.Value.int 2 0, PySem.Value.int 0 0, PySem.Value.int 0 0, PySem.Value.int 3 0, PySem.Value.ref 293, PySem.Value.bool Bool.true, PySem.Value.int 181 0, PySem.Value.ref 294, PySem.Value.none, PySem.Value.ref 295, PySem.Value.ref 296, PySem.Value.ref 297, PySem.Value.int 603 0, PySem.Value.int 155 0, PySem.Value.str (PySem.Str.ofString "/claim/cut.py") 604] : PySem.Obj }
noncomputable def k_299 (P : Params) : Obj := wb (fun b => { cls := PySem.Value.type "function", data := PySem.Data.func { name := PySem.Str.ofString "pos_end", qualname := PySem.Str.ofString "pos_end", params := { posonlyargs := [], args := [{ arg := PySem.Str.ofString "at", annotation := Option.none, pos := { line := 155, col := 12, endLine := 155, endCol := 14 : PySem.Pos } : PySem.Arg }, { arg := PySem.Str.ofString "place", annotation := Option.none, pos := { line := 155, col := 16, endLine := 155, endCol := 21 : PySem.Pos } : PySem.Arg }], vararg := Option.none, kwonlyargs := [], kw_defaults := [], kwarg := Option.none, defaults := [] : PySem.Arguments }, body := PySem.FuncBody.stmts b, scope := { kind := PySem.ScopeKind.function, names := [(PySem.Str.ofString "at", PySem.NameKind.local), (PySem.Str.ofString "place", PySem.NameKind.local)], isGenerator := Bool.false, isCoroutine := Bool.false : PySem.Scope }, globals := 3, closure := [], defaults := PySem.Value.none, kwdefaults := PySem.Value.none, pyModule := PySem.Value.str (PySem.Str.ofString "snobol.primitives") 573, code := PySem.Value.ref 298 : PySem.FuncData } : PySem.Obj }) [_] (rfl : _ = fB (stAt 35))
noncomputable def k_300 (P : Params) : Obj := { cls := PySem.Value.type "tuple", data := PySem.Data.seq #[] : PySem.Obj }
noncomputable def k_302 (P : Params) : Obj := { cls := PySem.Value.type "tuple", data := PySem.Data.seq #[PySem.Value.str (PySem.Str.ofString "subject") 609, PySem.Value.str (PySem.Str.ofString "at") 610, PySem.Value.str (PySem.Str.ofString "place") 611] : PySem.Obj }
noncomputable def k_303 (P : Params) : Obj := { cls := PySem.Value.type "tuple", data := PySem.Data.seq #[] : PySem.Obj }
noncomputable def k_305 (P : Params) : Obj := { cls := PySem.Value.type "code", data := PySem.Data.fields #[PySem.Value.str (PySem.Str.ofString "rpos_end") 606, PySem.Value.str (PySem.Str.ofString "rpos_end") 607, PySem.Value.str (PySem.Str.ofString "/claim/cut.py") 608, PySem.Value.int 157 0, PySem.Value.int 3 0, PySem.Value.int 0 0, PySem.Value.int 0 0, PySem.Value.int 3 0, PySem.Value.ref 300, PySem.Value.bool Bool.true, PySem.Value.int 181 0, PySem.Value.ref 301, PySem.Value.none, PySem.Value.ref 302, PySem.Value.ref 303, PySem.Value.ref 304, PySem.Value.int 612 0, PySem.Value.int 157 0, PySem.Value.str (PySem.Str.ofString "/claim/cut.py") 613] : PySem.Obj }
noncomputable def k_306 (P : Params) : Obj := wb (fun b => { cls := PySem.Value.type "function", data := PySem.Data.func { name := PySem.Str.ofString "rpos_end", qualname := PySem.Str.ofString "rpos_end", params := { posonlyargs := [], args := [{ arg := PySem.Str.ofString "subject", annotation := Option.none, pos := { line := 157, col := 13, endLine := 157, endCol := 20 : PySem.Pos } : PySem.Arg }, { arg := PySem.Str.ofString "at", annotation := Option.none, pos := { line := 157, col := 22, endLine := 157, endCol := 24 : PySem.Pos } : PySem.Arg }, { arg := PySem.Str.ofString "place", annotation := Option.none, pos := { line := 157, col := 26, endLine := 157, endCol := 31 : PySem.Pos } : PySem.Arg }], vararg := Option.none, kwonlyargs := [], kw_defaults := [], kwarg := Option.none, defaults := [] : PySem.Arguments }, body := PySem.FuncBody.stmts b, scope := { kind := PySem.ScopeKind.function, names := [(PySem.Str.ofString "subject", PySem.NameKind.local), (PySem.Str.ofString "at", PySem.NameKind.local), (PySem.Str.ofString "place", PySem.NameKind.local), (PySem.Str.ofString "len", PySem.NameKind.globalImplicit)], isGenerator := Bool.false, isCoroutine := Bool.false : PySem.Scope }, globals := 3, closure := [], defaults := PySem.Value.none, kwdefaults := PySem.Value.none, pyModule := PySem.Value.str (PySem.Str.ofString "snobol.primitives") 573, code := PySem.Value.ref 305 : PySem.FuncData } : PySem.Obj }) [_] (rfl : _ = fB (stAt 36))
noncomputable def k_307 (P : Params) : Obj := { cls := PySem.Value.type "tuple", data := PySem.Data.seq #[] : PySem.Obj }
noncomputable def k_309 (P : Params) : Obj := { cls := PySem.Value.type "tuple", data := PySem.Data.seq #[PySem.Value.str (PySem.Str.ofString "subject") 618, PySem.Value.str (PySem.Str.ofString "at") 619, PySem.Value.str (PySem.Str.ofString "place") 620] : PySem.Obj }
noncomputable def k_310 (P : Params) : Obj := { cls := PySem.Value.type "tuple", data := PySem.Data.seq #[] : PySem.Obj }
noncomputable def k_312 (P : Params) : Obj := { cls := PySem.Value.type "code", data := PySem.Data.fields #[PySem.Value.str (PySem.Str.ofString "tab_end") 615, PySem.Value.str (PySem.Str.ofString "tab_end") 616, PySem.Value.str (PySem.Str.ofString "/claim/cut.py") 617, PySem.Value.int 159 0, PySem.Value.int 3 0, PySem.Value.int 0 0, PySem.Value.int 0 0, PySem.Value.int 3 0, PySem.Value.ref 307, PySem.Value.bool Bool.true, PySem.Value.int 181 0, PySem.Value.ref 308, PySem.Value.none, PySem.Value.ref 309, PySem.Value.ref 310, PySem.Value.ref 311, PySem.Value.int 621 0, PySem.Value.int 159 0, PySem.Value.str (PySem.Str.ofString "/claim/cut.py") 622] : PySem.Obj }
noncomputable def k_313 (P : Params) : Obj := wb (fun b => { cls := PySem.Value.type "function", data := PySem.Data.func { name := PySem.Str.ofString "tab_end", qualname := PySem.Str.ofString "tab_end", params := { posonlyargs := [], args := [{ arg := PySem.Str.ofString "subject", annotation := Option.none, pos := { line := 159, col := 12, endLine := 159, endCol := 19 : PySem.Pos } : PySem.Arg }, { arg := PySem.Str.ofString "at", annotation := Option.none, pos := { line := 159, col := 21, endLine := 159, endCol := 23 : PySem.Pos } : PySem.Arg }, { arg := PySem.Str.ofString "place", annotation := Option.none, pos := { line := 159, col := 25, endLine := 159, endCol := 30 : PySem.Pos } : PySem.Arg }], vararg := Option.none, kwonlyargs := [], kw_defaults := [], kwarg := Option.none, defaults := [] : PySem.Arguments }, body := PySem.FuncBody.stmts b, scope := { kind := PySem.ScopeKind.function, names := [(PySem.Str.ofString "subject", PySem.NameKind.local), (PySem.Str.ofString "at", PySem.NameKind.local), (PySem.Str.ofString "place", PySem.NameKind.local), (PySem.Str.ofString "len", PySem.NameKind.globalImplicit)], isGenerator := Bool.false, isCoroutine := Bool.false : PySem.Scope }, globals := 3, closure := [], defaults := PySem.Value.none, kwdefaults := PySem.Value.none, pyModule := PySem.Value.str (PySem.Str.ofString "snobol.primitives") 573, code := PySem.Value.ref 312 : PySem.FuncData } : PySem.Obj }) [_] (rfl : _ = fB (stAt 37))
noncomputable def k_314 (P : Params) : Obj := { cls := PySem.Value.type "tuple", data := PySem.Data.seq #[] : PySem.Obj }
noncomputable def k_316 (P : Params) : Obj := { cls := PySem.Value.type "tuple", data := PySem.Data.seq #[PySem.Value.str (PySem.Str.ofString "subject") 627, PySem.Value.str (PySem.Str.ofString "at") 628, PySem.Value.str (PySem.Str.ofString "place") 629, PySem.Value.str (PySem.Str.ofString "goal") 630] : PySem.Obj }
noncomputable def k_317 (P : Params) : Obj := { cls := PySem.Value.type "tuple", data := PySem.Data.seq #[] : PySem.Obj }
noncomputable def k_319 (P : Params) : Obj := { cls := PySem.Value.type "code", data := PySem.Data.fields #[PySem.Value.str (PySem.Str.ofString "rtab_end") 624, PySem.Value.str (PySem.Str.ofString "rtab_end") 625, PySem.Value.str (PySem.Str.ofString "/claim/cut.py") 626, PySem.Value.int 161 0, PySem.Value.int 3 0, PySem.Value.int 0 0, PySem.Value.int 0 0, PySem.Value.int 3 0, PySem.Value.ref 314, PySem.Value.bool Bool.true, PySem.Value.int 181 0, PySem.Value.ref 315, PySem.Value.none, PySem.Value.ref 316, PySem.Value.ref 317, PySem.Value.ref 318, PySem.Value.int 631 0, PySem.Value.int 161 0, PySem.Value.str (PySem.Str.ofString "/claim/cut.py") 632] : PySem.Obj }
noncomputable def k_320 (P : Params) : Obj := wb (fun b => { cls := PySem.Value.type "function", data := PySem.Data.func { name := PySem.Str.ofString "rtab_end", qualname := PySem.Str.ofString "rtab_end", params := { posonlyargs := [], args := [{ arg := PySem.Str.ofString "subject", annotation := Option.none, pos := { line := 161, col := 13, endLine := 161, endCol := 20 : PySem.Pos } : PySem.Arg }, { arg := PySem.Str.ofString "at", annotation := Option.none, pos := { line := 161, col := 22, endLine := 161, endCol := 24 : PySem.Pos } : PySem.Arg }, { arg := PySem.Str.ofString "place", annotation := Option.none, pos := { line := 161, col := 26, endLine := 161, endCol := 31 : PySem.Pos } : PySem.Arg }], vararg := Option.none, kwonlyargs := [], kw_defaults := [], kwarg := Option.none, defaults := [] : PySem.Arguments }, body := PySem.FuncBody.stmts b, scope := { kind := PySem.ScopeKind.function, names := [(PySem.Str.ofString "subject", PySem.NameKind.local), (PySem.Str.ofString "at", PySem.NameKind.local), (PySem.Str.ofString "place", PySem.NameKind.local), (PySem.Str.ofString "goal", PySem.NameKind.local), (PySem.Str.ofString "len", PySem.NameKind.globalImplicit)], isGenerator := Bool.false, isCoroutine := Bool.false : PySem.Scope }, globals := 3, closure := [], defaults := PySem.Value.none, kwdefaults := PySem.Value.none, pyModule := PySem.Value.str (PySem.Str.ofString "snobol.primitives") 573, code := PySem.Value.ref 319 : PySem.FuncData } : PySem.Obj }) [_, _] (rfl : _ = fB (stAt 38))
noncomputable def k_321 (P : Params) : Obj := { cls := PySem.Value.type "tuple", data := PySem.Data.seq #[] : PySem.Obj }
noncomputable def k_323 (P : Params) : Obj := { cls := PySem.Value.type "tuple", data := PySem.Data.seq #[PySem.Value.str (PySem.Str.ofString "subject") 637] : PySem.Obj }
noncomputable def k_324 (P : Params) : Obj := { cls := PySem.Value.type "tuple", data := PySem.Data.seq #[] : PySem.Obj }
noncomputable def k_326 (P : Params) : Obj := { cls := PySem.Value.type "code", data := PySem.Data.fields #[PySem.Value.str (PySem.Str.ofString "rem_end") 634, PySem.Value.str (PySem.Str.ofString "rem_end") 635, PySem.Value.str (PySem.Str.ofString "/claim/cut.py") 636, PySem.Value.int 164 0, PySem.Value.int 1 0, PySem.Value.int 0 0, PySem.Value.int 0 0, PySem.Value.int 3 0, PySem.Value.ref 321, PySem.Value.bool Bool.true, PySem.Value.int 181 0, PySem.Value.ref 322, PySem.Value.none, PySem.Value.ref 323, PySem.Value.ref 324, PySem.Value.ref 325, PySem.Value.int 638 0, PySem.Value.int 164 0, PySem.Value.str (PySem.Str.ofString "/claim/cut.py") 639] : PySem.Obj }
noncomputable def k_327 (P : Params) : Obj := wb (fun b => { cls := PySem.Value.type "function", data := PySem.Data.func { name := PySem.Str.ofString "rem_end", qualname := PySem.Str.ofString "rem_end", params := { posonlyargs := [], args := [{ arg := PySem.Str.ofString "subject", annotation := Option.none, pos := { line := 164, col := 12, endLine := 164, endCol := 19 : PySem.Pos } : PySem.Arg }], vararg := Option.none, kwonlyargs := [], kw_defaults := [], kwarg := Option.none, defaults := [] : PySem.Arguments }, body := PySem.FuncBody.stmts b, scope := { kind := PySem.ScopeKind.function, names := [(PySem.Str.ofString "subject", PySem.NameKind.local), (PySem.Str.ofString "len", PySem.NameKind.globalImplicit)], isGenerator := Bool.false, isCoroutine := Bool.false : PySem.Scope }, globals := 3, closure := [], defaults := PySem.Value.none, kwdefaults := PySem.Value.none, pyModule := PySem.Value.str (PySem.Str.ofString "snobol.primitives") 573, code := PySem.Value.ref 326 : PySem.FuncData } : PySem.Obj }) [_] (rfl : _ = fB (stAt 39))
noncomputable def k_328 (P : Params) : Obj := { cls := PySem.Value.type "tuple", data := PySem.Data.seq #[] : PySem.Obj }
noncomputable def k_330 (P : Params) : Obj := { cls := PySem.Value.type "tuple", data := PySem.Data.seq #[PySem.Value.str (PySem.Str.ofString "subject") 644, PySem.Value.str (PySem.Str.ofString "at") 645, PySem.Value.str (PySem.Str.ofString "signs") 646] : PySem.Obj }
noncomputable def k_331 (P : Params) : Obj := { cls := PySem.Value.type "tuple", data := PySem.Data.seq #[] : PySem.Obj }
noncomputable def k_333 (P : Params) : Obj := { cls := PySem.Value.type "code", data := PySem.Data.fields #[PySem.Value.str (PySem.Str.ofString "any_at") 641, PySem.Value.str (PySem.Str.ofString "any_at") 642, PySem.Value.str (PySem.Str.ofString "/claim/cut.py") 643, PySem.Value.int 166 0, PySem.Value.int 3 0, PySem.Value.int 0 0, PySem.Value.int 0 0, PySem.Value.int 3 0, PySem.Value.ref 328, PySem.Value.bool Bool.true, PySem.Value.int 181 0, PySem.Value.ref 329, PySem.Value.none, PySem.Value.ref 330, PySem.Value.ref 331, PySem.Value.ref 332, PySem.Value.int 647 0, PySem.Value.int 166 0, PySem.Value.str (PySem.Str.ofString "/claim/cut.py") 648] : PySem.Obj }
noncomputable def k_334 (P : Params) : Obj := wb (fun b => { cls := PySem.Value.type "function", data := PySem.Data.func { name := PySem.Str.ofString "any_at", qualname := PySem.Str.ofString "any_at", params := { posonlyargs := [], args := [{ arg := PySem.Str.ofString "subject", annotation := Option.none, pos := { line := 166, col := 11, endLine := 166, endCol := 18 : PySem.Pos } : PySem.Arg }, { arg := PySem.Str.ofString "at", annotation := Option.none, pos := { line := 166, col := 20, endLine := 166, endCol := 22 : PySem.Pos } : PySem.Arg }, { arg := PySem.Str.ofString "signs", annotation := Option.none, pos := { line := 166, col := 24, endLine := 166, endCol := 29 : PySem.Pos } : PySem.Arg }], vararg := Option.none, kwonlyargs := [], kw_defaults := [], kwarg := Option.none, defaults := [] : PySem.Arguments }, body := PySem.FuncBody.stmts b, scope := { kind := PySem.ScopeKind.function, names := [(PySem.Str.ofString "subject", PySem.NameKind.local), (PySem.Str.ofString "at", PySem.NameKind.local), (PySem.Str.ofString "signs", PySem.NameKind.local), (PySem.Str.ofString "len", PySem.NameKind.globalImplicit)], isGenerator := Bool.false, isCoroutine := Bool.false : PySem.Scope }, globals := 3, closure := [], defaults := PySem.Value.none, kwdefaults := PySem.Value.none, pyModule := PySem.Value.str (PySem.Str.ofString "snobol.primitives") 573, code := PySem.Value.ref 333 : PySem.FuncData } : PySem.Obj }) [_] (rfl : _ = fB (stAt 40))
noncomputable def k_335 (P : Params) : Obj := { cls := PySem.Value.type "tuple", data := PySem.Data.seq #[] : PySem.Obj }
noncomputable def k_337 (P : Params) : Obj := { cls := PySem.Value.type "tuple", data := PySem.Data.seq #[PySem.Value.str (PySem.Str.ofString "subject") 653, PySem.Value.str (PySem.Str.ofString "at") 654, PySem.Value.str (PySem.Str.ofString "signs") 655] : PySem.Obj }
noncomputable def k_338 (P : Params) : Obj := { cls := PySem.Value.type "tuple", data := PySem.Data.seq #[] : PySem.Obj }
noncomputable def k_340 (P : Params) : Obj := { cls := PySem.Value.type "code", data := PySem.Data.fields #[PySem.Value.str (PySem.Str.ofString "notany_at") 650, PySem.Value.str (PySem.Str.ofString "notany_at") 651, PySem.Value.str (PySem.Str.ofString "/claim/cut.py") 652, PySem.Value.int 168 0, PySem.Value.int 3 0, PySem.Value.int 0 0, PySem.Value.int 0 0, PySem.Value.int 3 0, PySem.Value.ref 335, PySem.Value.bool Bool.true, PySem.Value.int 181 0, PySem.Value.ref 336, PySem.Value.none, PySem.Value.ref 337, PySem.Value.ref 338, PySem.Value.ref 339, PySem.Value.int 656 0, PySem.Value.int 168 0, PySem.Value.str (PySem.Str.ofString "/claim/cut.py") 657] : PySem.Obj }
noncomputable def k_341 (P : Params) : Obj := wb (fun b => { cls := PySem.Value.type "function", data := PySem.Data.func { name := PySem.Str.ofString "notany_at", qualname := PySem.Str.ofString "notany_at", params := { posonlyargs := [], args := [{ arg := PySem.Str.ofString "subject", annotation := Option.none, pos := { line := 168, col := 14, endLine := 168, endCol := 21 : PySem.Pos } : PySem.Arg }, { arg := PySem.Str.ofString "at", annotation := Option.none, pos := { line := 168, col := 23, endLine := 168, endCol := 25 : PySem.Pos } : PySem.Arg }, { arg := PySem.Str.ofString "signs", annotation := Option.none, pos := { line := 168, col := 27, endLine := 168, endCol := 32 : PySem.Pos } : PySem.Arg }], vararg := Option.none, kwonlyargs := [], kw_defaults := [], kwarg := Option.none, defaults := [] : PySem.Arguments }, body := PySem.FuncBody.stmts b, scope := { kind := PySem.ScopeKind.function, names := [(PySem.Str.ofString "subject", PySem.NameKind.local), (PySem.Str.ofString "at", PySem.NameKind.local), (PySem.Str.ofString "signs", PySem.NameKind.local), (PySem.Str.ofString "len", PySem.NameKind.globalImplicit)], isGenerator := Bool.false, isCoroutine := Bool.false : PySem.Scope }, globals := 3, closure := [], defaults := PySem.Value.none, kwdefaults := PySem.Value.none, pyModule := PySem.Value.str (PySem.Str.ofString "snobol.primitives") 573, code := PySem.Value.ref 340 : PySem.FuncData } : PySem.Obj }) [_] (rfl : _ = fB (stAt 41))
noncomputable def k_342 (P : Params) : Obj := { cls := PySem.Value.type "tuple", data := PySem.Data.seq #[] : PySem.Obj }
noncomputable def k_344 (P : Params) : Obj := { cls := PySem.Value.type "tuple", data := PySem.Data.seq #[PySem.Value.str (PySem.Str.ofString "subject") 662, PySem.Value.str (PySem.Str.ofString "at") 663, PySem.Value.str (PySem.Str.ofString "signs") 664, PySem.Value.str (PySem.Str.ofString "is_in") 665] : PySem.Obj }
noncomputable def k_345 (P : Params) : Obj := { cls := PySem.Value.type "tuple", data := PySem.Data.seq #[] : PySem.Obj }
noncomputable def k_347 (P : Params) : Obj := { cls := PySem.Value.type "code", data := PySem.Data.fields #[PySem.Value.str (PySem.Str.ofString "run_end") 659, PySem.Value.str (PySem.Str.ofString "run_end") 660, PySem.Value.str (PySem.Str.ofString "/claim/cut.py") 661, PySem.Value.int 170 0, PySem.Value.int 4 0, PySem.Value.int 0 0, PySem.Value.int 0 0, PySem.Value.int 3 0, PySem.Value.ref 342, PySem.Value.bool Bool.true, PySem.Value.int 181 0, PySem.Value.ref 343, PySem.Value.none, PySem.Value.ref 344, PySem.Value.ref 345, PySem.Value.ref 346, PySem.Value.int 666 0, PySem.Value.int 170 0, PySem.Value.str (PySem.Str.ofString "/claim/cut.py") 667] : PySem.Obj }
noncomputable def k_348 (P : Params) : Obj := wb (fun b => { cls := PySem.Value.type "function", data := PySem.Data.func { name := PySem.Str.ofString "run_end", qualname := PySem.Str.ofString "run_end", params := { posonlyargs := [], args := [{ arg := PySem.Str.ofString "subject", annotation := Option.none, pos := { line := 170, col := 12, endLine := 170, endCol := 19 : PySem.Pos } : PySem.Arg }, { arg := PySem.Str.ofString "at", annotation := Option.none, pos := { line := 170, col := 21, endLine := 170, endCol := 23 : PySem.Pos } : PySem.Arg }, { arg := PySem.Str.ofString "signs", annotation := Option.none, pos := { line := 170, col := 25, endLine := 170, endCol := 30 : PySem.Pos } : PySem.Arg }, { arg := PySem.Str.ofString "is_in", annotation := Option.none, pos := { line := 170, col := 32, endLine := 170, endCol := 37 : PySem.Pos } : PySem.Arg }], vararg := Option.none, kwonlyargs := [], kw_defaults := [], kwarg := Option.none, defaults := [] : PySem.Arguments }, body := PySem.FuncBody.stmts b, scope := { kind := PySem.ScopeKind.function, names := [(PySem.Str.ofString "subject", PySem.NameKind.local), (PySem.Str.ofString "at", PySem.NameKind.local), (PySem.Str.ofString "signs", PySem.NameKind.local), (PySem.Str.ofString "is_in", PySem.NameKind.local), (PySem.Str.ofString "len", PySem.NameKind.globalImplicit)], isGenerator := Bool.false, isCoroutine := Bool.false : PySem.Scope }, globals := 3, closure := [], defaults := PySem.Value.none, kwdefaults := PySem.Value.none, pyModule := PySem.Value.str (PySem.Str.ofString "snobol.primitives") 573, code := PySem.Value.ref 347 : PySem.FuncData } : PySem.Obj }) [_, _] (rfl : _ = fB (stAt 42))
noncomputable def k_349 (P : Params) : Obj := { cls := PySem.Value.type "tuple", data := PySem.Data.seq #[] : PySem.Obj }
noncomputable def k_351 (P : Params) : Obj := { cls := PySem.Value.type "tuple", data := PySem.Data.seq #[PySem.Value.str (PySem.Str.ofString "subject") 672, PySem.Value.str (PySem.Str.ofString "at") 673, PySem.Value.str (PySem.Str.ofString "signs") 674, PySem.Value.str (PySem.Str.ofString "end") 675] : PySem.Obj }
noncomputable def k_352 (P : Params) : Obj := { cls := PySem.Value.type "tuple", data := PySem.Data.seq #[] : PySem.Obj }
noncomputable def k_354 (P : Params) : Obj := { cls := PySem.Value.type "code", data := PySem.Data.fields #[PySem.Value.str (PySem.Str.ofString "span_end") 669, PySem.Value.str (PySem.Str.ofString "span_end") 670, PySem.Value.str (PySem.Str.ofString "/claim/cut.py") 671, PySem.Value.int 174 0, PySem.Value.int 3 0, PySem.Value.int 0 0, PySem.Value.int 0 0, PySem.Value.int 3 0, PySem.Value.ref 349, PySem.Value.bool Bool.true, PySem.Value.int 181 0, PySem.Value.ref 350, PySem.Value.none, PySem.Value.ref 351, PySem.Value.ref 352, PySem.Value.ref 353, PySem.Value.int 676 0, PySem.Value.int 174 0, PySem.Value.str (PySem.Str.ofString "/claim/cut.py") 677] : PySem.Obj }
noncomputable def k_355 (P : Params) : Obj := wb (fun b => { cls := PySem.Value.type "function", data := PySem.Data.func { name := PySem.Str.ofString "span_end", qualname := PySem.Str.ofString "span_end", params := { posonlyargs := [], args := [{ arg := PySem.Str.ofString "subject", annotation := Option.none, pos := { line := 174, col := 13, endLine := 174, endCol := 20 : PySem.Pos } : PySem.Arg }, { arg := PySem.Str.ofString "at", annotation := Option.none, pos := { line := 174, col := 22, endLine := 174, endCol := 24 : PySem.Pos } : PySem.Arg }, { arg := PySem.Str.ofString "signs", annotation := Option.none, pos := { line := 174, col := 26, endLine := 174, endCol := 31 : PySem.Pos } : PySem.Arg }], vararg := Option.none, kwonlyargs := [], kw_defaults := [], kwarg := Option.none, defaults := [] : PySem.Arguments }, body := PySem.FuncBody.stmts b, scope := { kind := PySem.ScopeKind.function, names := [(PySem.Str.ofString "subject", PySem.NameKind.local), (PySem.Str.ofString "at", PySem.NameKind.local), (PySem.Str.ofString "signs", PySem.NameKind.local), (PySem.Str.ofString "end", PySem.NameKind.local), (PySem.Str.ofString "run_end", PySem.NameKind.globalImplicit)], isGenerator := Bool.false, isCoroutine := Bool.false : PySem.Scope }, globals := 3, closure := [], defaults := PySem.Value.none, kwdefaults := PySem.Value.none, pyModule := PySem.Value.str (PySem.Str.ofString "snobol.primitives") 573, code := PySem.Value.ref 354 : PySem.FuncData } : PySem.Obj }) [_, _] (rfl : _ = fB (stAt 43))
noncomputable def k_356 (P : Params) : Obj := { cls := PySem.Value.type "tuple", data := PySem.Data.seq #[] : PySem.Obj }
noncomputable def k_358 (P : Params) : Obj := { cls := PySem.Value.type "tuple", data := PySem.Data.seq #[PySem.Value.str (PySem.Str.ofString "subject") 682, PySem.Value.str (PySem.Str.ofString "at") 683, PySem.Value.str (PySem.Str.ofString "signs") 684, PySem.Value.str (PySem.Str.ofString "end") 685] : PySem.Obj }
noncomputable def k_359 (P : Params) : Obj := { cls := PySem.Value.type "tuple", data := PySem.Data.seq #[] : PySem.Obj }
noncomputable def k_361 (P : Params) : Obj := { cls := PySem.Value.type "code", data := PySem.Data.fields #[PySem.Value.str (PySem.Str.ofString "break_end") 679, PySem.Value.str (PySem.Str.ofString "break_end") 680, PySem.Value.str (PySem.Str.ofString "/claim/cut.py") 681, PySem.Value.int 177 0, PySem.Value.int 3 0, PySem.Value.int 0 0, PySem.Value.int 0 0, PySem.Value.int 3 0, PySem.Value.ref 356, PySem.Value.bool Bool.true, PySem.Value.int 181 0, PySem.Value.ref 357, PySem.Value.none, PySem.Value.ref 358, PySem.Value.ref 359, PySem.Value.ref 360, PySem.Value.int 686 0, PySem.Value.int 177 0, PySem.Value.str (PySem.Str.ofString "/claim/cut.py") 687] : PySem.Obj }
noncomputable def k_362 (P : Params) : Obj := wb (fun b => { cls := PySem.Value.type "function", data := PySem.Data.func { name := PySem.Str.ofString "break_end", qualname := PySem.Str.ofString "break_end", params := { posonlyargs := [], args := [{ arg := PySem.Str.ofString "subject", annotation := Option.none, pos := { line := 177, col := 14, endLine := 177, endCol := 21 : PySem.Pos } : PySem.Arg }, { arg := PySem.Str.ofString "at", annotation := Option.none, pos := { line := 177, col := 23, endLine := 177, endCol := 25 : PySem.Pos } : PySem.Arg }, { arg := PySem.Str.ofString "signs", annotation := Option.none, pos := { line := 177, col := 27, endLine := 177, endCol := 32 : PySem.Pos } : PySem.Arg }], vararg := Option.none, kwonlyargs := [], kw_defaults := [], kwarg := Option.none, defaults := [] : PySem.Arguments }, body := PySem.FuncBody.stmts b, scope := { kind := PySem.ScopeKind.function, names := [(PySem.Str.ofString "subject", PySem.NameKind.local), (PySem.Str.ofString "at", PySem.NameKind.local), (PySem.Str.ofString "signs", PySem.NameKind.local), (PySem.Str.ofString "end", PySem.NameKind.local), (PySem.Str.ofString "run_end", PySem.NameKind.globalImplicit), (PySem.Str.ofString "len", PySem.NameKind.globalImplicit)], isGenerator := Bool.false, isCoroutine := Bool.false : PySem.Scope }, globals := 3, closure := [], defaults := PySem.Value.none, kwdefaults := PySem.Value.none, pyModule := PySem.Value.str (PySem.Str.ofString "snobol.primitives") 573, code := PySem.Value.ref 361 : PySem.FuncData } : PySem.Obj }) [_, _] (rfl : _ = fB (stAt 44))
noncomputable def k_363 (P : Params) : Obj := { cls := PySem.Value.type "tuple", data := PySem.Data.seq #[] : PySem.Obj }
noncomputable def k_365 (P : Params) : Obj := { cls := PySem.Value.type "tuple", data := PySem.Data.seq #[PySem.Value.str (PySem.Str.ofString "subject") 692, PySem.Value.str (PySem.Str.ofString "at") 693, PySem.Value.str (PySem.Str.ofString "level") 694] : PySem.Obj }
noncomputable def k_366 (P : Params) : Obj := { cls := PySem.Value.type "tuple", data := PySem.Data.seq #[] : PySem.Obj }
noncomputable def k_368 (P : Params) : Obj := { cls := PySem.Value.type "code", data := PySem.Data.fields #[PySem.Value.str (PySem.Str.ofString "bal_end") 689, PySem.Value.str (PySem.Str.ofString "bal_end") 690, PySem.Value.str (PySem.Str.ofString "/claim/cut.py") 691, PySem.Value.int 180 0, PySem.Value.int 2 0, PySem.Value.int 0 0, PySem.Value.int 0 0, PySem.Value.int 3 0, PySem.Value.ref 363, PySem.Value.bool Bool.true, PySem.Value.int 181 0, PySem.Value.ref 364, PySem.Value.none, PySem.Value.ref 365, PySem.Value.ref 366, PySem.Value.ref 367, PySem.Value.int 695 0, PySem.Value.int 180 0, PySem.Value.str (PySem.Str.ofString "/claim/cut.py") 696] : PySem.Obj }
noncomputable def k_369 (P : Params) : Obj := wb (fun b => { cls := PySem.Value.type "function", data := PySem.Data.func { name := PySem.Str.ofString "bal_end", qualname := PySem.Str.ofString "bal_end", params := { posonlyargs := [], args := [{ arg := PySem.Str.ofString "subject", annotation := Option.none, pos := { line := 180, col := 12, endLine := 180, endCol := 19 : PySem.Pos } : PySem.Arg }, { arg := PySem.Str.ofString "at", annotation := Option.none, pos := { line := 180, col := 21, endLine := 180, endCol := 23 : PySem.Pos } : PySem.Arg }], vararg := Option.none, kwonlyargs := [], kw_defaults := [], kwarg := Option.none, defaults := [] : PySem.Arguments }, body := PySem.FuncBody.stmts b, scope := { kind := PySem.ScopeKind.function, names := [(PySem.Str.ofString "subject", PySem.NameKind.local), (PySem.Str.ofString "at", PySem.NameKind.local), (PySem.Str.ofString "level", PySem.NameKind.local), (PySem.Str.ofString "len", PySem.NameKind.globalImplicit), (PySem.Str.ofString "OPENING", PySem.NameKind.globalImplicit), (PySem.Str.ofString "CLOSING", PySem.NameKind.globalImplicit)], isGenerator := Bool.false, isCoroutine := Bool.false : PySem.Scope }, globals := 3, closure := [], defaults := PySem.Value.none, kwdefaults := PySem.Value.none, pyModule := PySem.Value.str (PySem.Str.ofString "snobol.primitives") 573, code := PySem.Value.ref 368 : PySem.FuncData } : PySem.Obj }) [_, _, _] (rfl : _ = fB (stAt 45))
noncomputable def k_370 (P : Params) : Obj := { cls := PySem.Value.type "tuple", data := PySem.Data.seq #[] : PySem.Obj }
noncomputable def k_372 (P : Params) : Obj := { cls := PySem.Value.type "tuple", data := PySem.Data.seq #[PySem.Value.str (PySem.Str.ofString "subject") 701, PySem.Value.str (PySem.Str.ofString "at") 702, PySem.Value.str (PySem.Str.ofString "found") 703, PySem.Value.str (PySem.Str.ofString "end") 704] : PySem.Obj }
noncomputable def k_373 (P : Params) : Obj := { cls := PySem.Value.type "tuple", data := PySem.Data.seq #[] : PySem.Obj }
noncomputable def k_375 (P : Params) : Obj := { cls := PySem.Value.type "code", data := PySem.Data.fields #[PySem.Value.str (PySem.Str.ofString "bal_ends") 698, PySem.Value.str (PySem.Str.ofString "bal_ends") 699, PySem.Value.str (PySem.Str.ofString "/claim/cut.py") 700, PySem.Value.int 193 0, PySem.Value.int 2 0, PySem.Value.int 0 0, PySem.Value.int 0 0, PySem.Value.int 3 0, PySem.Value.ref 370, PySem.Value.bool Bool.true, PySem.Value.int 181 0, PySem.Value.ref 371, PySem.Value.none, PySem.Value.ref 372, PySem.Value.ref 373, PySem.Value.ref 374, PySem.Value.int 705 0, PySem.Value.int 193 0, PySem.Value.str (PySem.Str.ofString "/claim/cut.py") 706] : PySem.Obj }
noncomputable def k_376 (P : Params) : Obj := wb (fun b => { cls := PySem.Value.type "function", data := PySem.Data.func { name := PySem.Str.ofString "bal_ends", qualname := PySem.Str.ofString "bal_ends", params := { posonlyargs := [], args := [{ arg := PySem.Str.ofString "subject", annotation := Option.none, pos := { line := 193, col := 13, endLine := 193, endCol := 20 : PySem.Pos } : PySem.Arg }, { arg := PySem.Str.ofString "at", annotation := Option.none, pos := { line := 193, col := 22, endLine := 193, endCol := 24 : PySem.Pos } : PySem.Arg }], vararg := Option.none, kwonlyargs := [], kw_defaults := [], kwarg := Option.none, defaults := [] : PySem.Arguments }, body := PySem.FuncBody.stmts b, scope := { kind := PySem.ScopeKind.function, names := [(PySem.Str.ofString "subject", PySem.NameKind.local), (PySem.Str.ofString "at", PySem.NameKind.local), (PySem.Str.ofString "found", PySem.NameKind.local), (PySem.Str.ofString "end", PySem.NameKind.local), (PySem.Str.ofString "bal_end", PySem.NameKind.globalImplicit)], isGenerator := Bool.false, isCoroutine := Bool.false : PySem.Scope }, globals := 3, closure := [], defaults := PySem.Value.none, kwdefaults := PySem.Value.none, pyModule := PySem.Value.str (PySem.Str.ofString "snobol.primitives") 573, code := PySem.Value.ref 375 : PySem.FuncData } : PySem.Obj }) [_, _, _] (rfl : _ = fB (stAt 46))
noncomputable def k_377 (P : Params) : Obj := { cls := PySem.Value.type "tuple", data := PySem.Data.seq #[] : PySem.Obj }
noncomputable def k_379 (P : Params) : Obj := { cls := PySem.Value.type "tuple", data := PySem.Data.seq #[PySem.Value.str (PySem.Str.ofString "kind") 711, PySem.Value.str (PySem.Str.ofString "subject") 712, PySem.Value.str (PySem.Str.ofString "at") 713, PySem.Value.str (PySem.Str.ofString "told") 714] : PySem.Obj }
noncomputable def k_380 (P : Params) : Obj := { cls := PySem.Value.type "tuple", data := PySem.Data.seq #[] : PySem.Obj }
noncomputable def k_382 (P : Params) : Obj := { cls := PySem.Value.type "code", data := PySem.Data.fields #[PySem.Value.str (PySem.Str.ofString "one_end") 708, PySem.Value.str (PySem.Str.ofString "one_end") 709, PySem.Value.str (PySem.Str.ofString "/claim/cut.py") 710, PySem.Value.int 199 0, PySem.Value.int 4 0, PySem.Value.int 0 0, PySem.Value.int 0 0, PySem.Value.int 3 0, PySem.Value.ref 377, PySem.Value.bool Bool.true, PySem.Value.int 181 0, PySem.Value.ref 378, PySem.Value.none, PySem.Value.ref 379, PySem.Value.ref 380, PySem.Value.ref 381, PySem.Value.int 715 0, PySem.Value.int 199 0, PySem.Value.str (PySem.Str.ofString "/claim/cut.py") 716] : PySem.Obj }
noncomputable def k_383 (P : Params) : Obj := wb (fun b => { cls := PySem.Value.type "function", data := PySem.Data.func { name := PySem.Str.ofString "one_end", qualname := PySem.Str.ofString "one_end", params := { posonlyargs := [], args := [{ arg := PySem.Str.ofString "kind", annotation := Option.none, pos := { line := 199, col := 12, endLine := 199, endCol := 16 : PySem.Pos } : PySem.Arg }, { arg := PySem.Str.ofString "subject", annotation := Option.none, pos := { line := 199, col := 18, endLine := 199, endCol := 25 : PySem.Pos } : PySem.Arg }, { arg := PySem.Str.ofString "at", annotation := Option.none, pos := { line := 199, col := 27, endLine := 199, endCol := 29 : PySem.Pos } : PySem.Arg }, { arg := PySem.Str.ofString "told", annotation := Option.none, pos := { line := 199, col := 31, endLine := 199, endCol := 35 : PySem.Pos } : PySem.Arg }], vararg := Option.none, kwonlyargs := [], kw_defaults := [], kwarg := Option.none, defaults := [] : PySem.Arguments }, body := PySem.FuncBody.stmts b, scope := { kind := PySem.ScopeKind.function, names := [(PySem.Str.ofString "kind", PySem.NameKind.local), (PySem.Str.ofString "subject", PySem.NameKind.local), (PySem.Str.ofString "at", PySem.NameKind.local), (PySem.Str.ofString "told", PySem.NameKind.local), (PySem.Str.ofString "chars_end", PySem.NameKind.globalImplicit), (PySem.Str.ofString "len_end", PySem.NameKind.globalImplicit), (PySem.Str.ofString "pos_end", PySem.NameKind.globalImplicit), (PySem.Str.ofString "rpos_end", PySem.NameKind.globalImplicit), (PySem.Str.ofString "tab_end", PySem.NameKind.globalImplicit), (PySem.Str.ofString "rtab_end", PySem.NameKind.globalImplicit), (PySem.Str.ofString "any_at", PySem.NameKind.globalImplicit), (PySem.Str.ofString "notany_at", PySem.NameKind.globalImplicit), (PySem.Str.ofString "span_end", PySem.NameKind.globalImplicit), (PySem.Str.ofString "break_end", PySem.NameKind.globalImplicit)], isGenerator := Bool.false, isCoroutine := Bool.false : PySem.Scope }, globals := 3, closure := [], defaults := PySem.Value.none, kwdefaults := PySem.Value.none, pyModule := PySem.Value.str (PySem.Str.ofString "snobol.primitives") 573, code := PySem.Value.ref 382 : PySem.FuncData } : PySem.Obj }) [_, _, _, _, _, _, _, _, _, _] (rfl : _ = fB (stAt 47))
noncomputable def k_384 (P : Params) : Obj := { cls := PySem.Value.type "tuple", data := PySem.Data.seq #[] : PySem.Obj }
noncomputable def k_386 (P : Params) : Obj := { cls := PySem.Value.type "tuple", data := PySem.Data.seq #[PySem.Value.str (PySem.Str.ofString "node") 721, PySem.Value.str (PySem.Str.ofString "subject") 722, PySem.Value.str (PySem.Str.ofString "at") 723] : PySem.Obj }
noncomputable def k_387 (P : Params) : Obj := { cls := PySem.Value.type "tuple", data := PySem.Data.seq #[] : PySem.Obj }
noncomputable def k_389 (P : Params) : Obj := { cls := PySem.Value.type "code", data := PySem.Data.fields #[PySem.Value.str (PySem.Str.ofString "plain_end") 718, PySem.Value.str (PySem.Str.ofString "plain_end") 719, PySem.Value.str (PySem.Str.ofString "/claim/cut.py") 720, PySem.Value.int 219 0, PySem.Value.int 3 0, PySem.Value.int 0 0, PySem.Value.int 0 0, PySem.Value.int 3 0, PySem.Value.ref 384, PySem.Value.bool Bool.true, PySem.Value.int 181 0, PySem.Value.ref 385, PySem.Value.none, PySem.Value.ref 386, PySem.Value.ref 387, PySem.Value.ref 388, PySem.Value.int 724 0, PySem.Value.int 219 0, PySem.Value.str (PySem.Str.ofString "/claim/cut.py") 725] : PySem.Obj }
noncomputable def k_390 (P : Params) : Obj := wb (fun b => { cls := PySem.Value.type "function", data := PySem.Data.func { name := PySem.Str.ofString "plain_end", qualname := PySem.Str.ofString "plain_end", params := { posonlyargs := [], args := [{ arg := PySem.Str.ofString "node", annotation := Option.none, pos := { line := 219, col := 14, endLine := 219, endCol := 18 : PySem.Pos } : PySem.Arg }, { arg := PySem.Str.ofString "subject", annotation := Option.none, pos := { line := 219, col := 20, endLine := 219, endCol := 27 : PySem.Pos } : PySem.Arg }, { arg := PySem.Str.ofString "at", annotation := Option.none, pos := { line := 219, col := 29, endLine := 219, endCol := 31 : PySem.Pos } : PySem.Arg }], vararg := Option.none, kwonlyargs := [], kw_defaults := [], kwarg := Option.none, defaults := [] : PySem.Arguments }, body := PySem.FuncBody.stmts b, scope := { kind := PySem.ScopeKind.function, names := [(PySem.Str.ofString "node", PySem.NameKind.local), (PySem.Str.ofString "subject", PySem.NameKind.local), (PySem.Str.ofString "at", PySem.NameKind.local), (PySem.Str.ofString "rem_end", PySem.NameKind.globalImplicit), (PySem.Str.ofString "one_end", PySem.NameKind.globalImplicit)], isGenerator := Bool.false, isCoroutine := Bool.false : PySem.Scope }, globals := 3, closure := [], defaults := PySem.Value.none, kwdefaults := PySem.Value.none, pyModule := PySem.Value.str (PySem.Str.ofString "snobol.primitives") 573, code := PySem.Value.ref 389 : PySem.FuncData } : PySem.Obj }) [_] (rfl : _ = fB (stAt 48))
noncomputable def k_391 (P : Params) : Obj := { cls := PySem.Value.type "tuple", data := PySem.Data.seq #[] : PySem.Obj }
noncomputable def k_393 (P : Params) : Obj := { cls := PySem.Value.type "tuple", data := PySem.Data.seq #[PySem.Value.str (PySem.Str.ofString "node") 734, PySem.Value.str (PySem.Str.ofString "subject") 735, PySem.Value.str (PySem.Str.ofString "is_anchored") 736, PySem.Value.str (PySem.Str.ofString "host") 737, PySem.Value.str (PySem.Str.ofString "begin") 738, PySem.Value.str (PySem.Str.ofString "found") 739] : PySem.Obj }
noncomputable def k_394 (P : Params) : Obj := { cls := PySem.Value.type "tuple", data := PySem.Data.seq #[] : PySem.Obj }
noncomputable def k_396 (P : Params) : Obj := { cls := PySem.Value.type "code", data := PySem.Data.fields #[PySem.Value.str (PySem.Str.ofString "match_plain") 731, PySem.Value.str (PySem.Str.ofString "match_plain") 732, PySem.Value.str (PySem.Str.ofString "/claim/cut.py") 733, PySem.Value.int 223 0, PySem.Value.int 4 0, PySem.Value.int 0 0, PySem.Value.int 0 0, PySem.Value.int 3 0, PySem.Value.ref 391, PySem.Value.bool Bool.true, PySem.Value.int 181 0, PySem.Value.ref 392, PySem.Value.none, PySem.Value.ref 393, PySem.Value.ref 394, PySem.Value.ref 395, PySem.Value.int 740 0, PySem.Value.int 223 0, PySem.Value.str (PySem.Str.ofString "/claim/cut.py") 741] : PySem.Obj }
noncomputable def k_397 (P : Params) : Obj := wb (fun b => { cls := PySem.Value.type "function", data := PySem.Data.func { name := PySem.Str.ofString "match_plain", qualname := PySem.Str.ofString "match_plain", params := { posonlyargs := [], args := [{ arg := PySem.Str.ofString "node", annotation := Option.none, pos := { line := 223, col := 16, endLine := 223, endCol := 20 : PySem.Pos } : PySem.Arg }, { arg := PySem.Str.ofString "subject", annotation := Option.none, pos := { line := 223, col := 22, endLine := 223, endCol := 29 : PySem.Pos } : PySem.Arg }, { arg := PySem.Str.ofString "is_anchored", annotation := Option.none, pos := { line := 223, col := 31, endLine := 223, endCol := 42 : PySem.Pos } : PySem.Arg }, { arg := PySem.Str.ofString "host", annotation := Option.none, pos := { line := 223, col := 44, endLine := 223, endCol := 48 : PySem.Pos } : PySem.Arg }], vararg := Option.none, kwonlyargs := [], kw_defaults := [], kwarg := Option.none, defaults := [] : PySem.Arguments }, body := PySem.FuncBody.stmts b, scope := { kind := PySem.ScopeKind.function, names := [(PySem.Str.ofString "node", PySem.NameKind.local), (PySem.Str.ofString "subject", PySem.NameKind.local), (PySem.Str.ofString "is_anchored", PySem.NameKind.local), (PySem.Str.ofString "host", PySem.NameKind.local), (PySem.Str.ofString "begin", PySem.NameKind.local), (PySem.Str.ofString "found", PySem.NameKind.local), (PySem.Str.ofString "range", PySem.NameKind.globalImplicit), (PySem.Str.ofString "len", PySem.NameKind.globalImplicit), (PySem.Str.ofString "match_at", PySem.NameKind.globalImplicit), (PySem.Str.ofString "LOST", PySem.NameKind.globalImplicit)], isGenerator := Bool.false, isCoroutine := Bool.false : PySem.Scope }, globals := 3, closure := [], defaults := PySem.Value.none, kwdefaults := PySem.Value.none, pyModule := PySem.Value.str (PySem.Str.ofString "snobol.trial") 727, code := PySem.Value.ref 396 : PySem.FuncData } : PySem.Obj }) [_, _] (rfl : _ = fB (stAt 51))
noncomputable def k_398 (P : Params) : Obj := { cls := PySem.Value.type "tuple", data := PySem.Data.seq #[] : PySem.Obj }
noncomputable def k_400 (P : Params) : Obj := { cls := PySem.Value.type "tuple", data := PySem.Data.seq #[PySem.Value.str (PySem.Str.ofString "node") 746, PySem.Value.str (PySem.Str.ofString "subject") 747, PySem.Value.str (PySem.Str.ofString "begin") 748, PySem.Value.str (PySem.Str.ofString "host") 749, PySem.Value.str (PySem.Str.ofString "found") 750] : PySem.Obj }
noncomputable def k_401 (P : Params) : Obj := { cls := PySem.Value.type "tuple", data := PySem.Data.seq #[] : PySem.Obj }
noncomputable def k_403 (P : Params) : Obj := { cls := PySem.Value.type "code", data := PySem.Data.fields #[PySem.Value.str (PySem.Str.ofString "match_at") 743, PySem.Value.str (PySem.Str.ofString "match_at") 744, PySem.Value.str (PySem.Str.ofString "/claim/cut.py") 745, PySem.Value.int 229 0, PySem.Value.int 4 0, PySem.Value.int 0 0, PySem.Value.int 0 0, PySem.Value.int 3 0, PySem.Value.ref 398, PySem.Value.bool Bool.true, PySem.Value.int 181 0, PySem.Value.ref 399, PySem.Value.none, PySem.Value.ref 400, PySem.Value.ref 401, PySem.Value.ref 402, PySem.Value.int 751 0, PySem.Value.int 229 0, PySem.Value.str (PySem.Str.ofString "/claim/cut.py") 752] : PySem.Obj }
noncomputable def k_404 (P : Params) : Obj := wb (fun b => { cls := PySem.Value.type "function", data := PySem.Data.func { name := PySem.Str.ofString "match_at", qualname := PySem.Str.ofString "match_at", params := { posonlyargs := [], args := [{ arg := PySem.Str.ofString "node", annotation := Option.none, pos := { line := 229, col := 13, endLine := 229, endCol := 17 : PySem.Pos } : PySem.Arg }, { arg := PySem.Str.ofString "subject", annotation := Option.none, pos := { line := 229, col := 19, endLine := 229, endCol := 26 : PySem.Pos } : PySem.Arg }, { arg := PySem.Str.ofString "begin", annotation := Option.none, pos := { line := 229, col := 28, endLine := 229, endCol := 33 : PySem.Pos } : PySem.Arg }, { arg := PySem.Str.ofString "host", annotation := Option.none, pos := { line := 229, col := 35, endLine := 229, endCol := 39 : PySem.Pos } : PySem.Arg }], vararg := Option.none, kwonlyargs := [], kw_defaults := [], kwarg := Option.none, defaults := [] : PySem.Arguments }, body := PySem.FuncBody.stmts b, scope := { kind := PySem.ScopeKind.function, names := [(PySem.Str.ofString "node", PySem.NameKind.local), (PySem.Str.ofString "subject", PySem.NameKind.local), (PySem.Str.ofString "begin", PySem.NameKind.local), (PySem.Str.ofString "host", PySem.NameKind.local), (PySem.Str.ofString "found", PySem.NameKind.local), (PySem.Str.ofString "tried", PySem.NameKind.globalImplicit), (PySem.Str.ofString "LOST", PySem.NameKind.globalImplicit)], isGenerator := Bool.false, isCoroutine := Bool.false : PySem.Scope }, globals := 3, closure := [], defaults := PySem.Value.none, kwdefaults := PySem.Value.none, pyModule := PySem.Value.str (PySem.Str.ofString "snobol.trial") 727, code := PySem.Value.ref 403 : PySem.FuncData } : PySem.Obj }) [_, _] (rfl : _ = fB (stAt 52))
noncomputable def k_405 (P : Params) : Obj := { cls := PySem.Value.type "tuple", data := PySem.Data.seq #[] : PySem.Obj }
noncomputable def k_407 (P : Params) : Obj := { cls := PySem.Value.type "tuple", data := PySem.Data.seq #[PySem.Value.str (PySem.Str.ofString "node") 757, PySem.Value.str (PySem.Str.ofString "subject") 758, PySem.Value.str (PySem.Str.ofString "begin") 759, PySem.Value.str (PySem.Str.ofString "host") 760, PySem.Value.str (PySem.Str.ofString "pile") 761, PySem.Value.str (PySem.Str.ofString "way") 762, PySem.Value.str (PySem.Str.ofString "chain") 763, PySem.Value.str (PySem.Str.ofString "at") 764, PySem.Value.str (PySem.Str.ofString "named") 765] : PySem.Obj }
noncomputable def k_408 (P : Params) : Obj := { cls := PySem.Value.type "tuple", data := PySem.Data.seq #[] : PySem.Obj }
noncomputable def k_410 (P : Params) : Obj := { cls := PySem.Value.type "code", data := PySem.Data.fields #[PySem.Value.str (PySem.Str.ofString "tried") 754, PySem.Value.str (PySem.Str.ofString "tried") 755, PySem.Value.str (PySem.Str.ofString "/claim/cut.py") 756, PySem.Value.int 232 0, PySem.Value.int 4 0, PySem.Value.int 0 0, PySem.Value.int 0 0, PySem.Value.int 3 0, PySem.Value.ref 405, PySem.Value.bool Bool.true, PySem.Value.int 181 0, PySem.Value.ref 406, PySem.Value.none, PySem.Value.ref 407, PySem.Value.ref 408, PySem.Value.ref 409, PySem.Value.int 766 0, PySem.Value.int 232 0, PySem.Value.str (PySem.Str.ofString "/claim/cut.py") 767] : PySem.Obj }
noncomputable def k_411 (P : Params) : Obj := wb (fun b => { cls := PySem.Value.type "function", data := PySem.Data.func { name := PySem.Str.ofString "tried", qualname := PySem.Str.ofString "tried", params := { posonlyargs := [], args := [{ arg := PySem.Str.ofString "node", annotation := Option.none, pos := { line := 232, col := 10, endLine := 232, endCol := 14 : PySem.Pos } : PySem.Arg }, { arg := PySem.Str.ofString "subject", annotation := Option.none, pos := { line := 232, col := 16, endLine := 232, endCol := 23 : PySem.Pos } : PySem.Arg }, { arg := PySem.Str.ofString "begin", annotation := Option.none, pos := { line := 232, col := 25, endLine := 232, endCol := 30 : PySem.Pos } : PySem.Arg }, { arg := PySem.Str.ofString "host", annotation := Option.none, pos := { line := 232, col := 32, endLine := 232, endCol := 36 : PySem.Pos } : PySem.Arg }], vararg := Option.none, kwonlyargs := [], kw_defaults := [], kwarg := Option.none, defaults := [] : PySem.Arguments }, body := PySem.FuncBody.stmts b, scope := { kind := PySem.ScopeKind.function, names := [(PySem.Str.ofString "node", PySem.NameKind.local), (PySem.Str.ofString "subject", PySem.NameKind.local), (PySem.Str.ofString "begin", PySem.NameKind.local), (PySem.Str.ofString "host", PySem.NameKind.local), (PySem.Str.ofString "pile", PySem.NameKind.local), (PySem.Str.ofString "way", PySem.NameKind.local), (PySem.Str.ofString "chain", PySem.NameKind.local), (PySem.Str.ofString "at", PySem.NameKind.local), (PySem.Str.ofString "named", PySem.NameKind.local), (PySem.Str.ofString "len", PySem.NameKind.globalImplicit), (PySem.Str.ofString "LOST", PySem.NameKind.globalImplicit), (PySem.Str.ofString "advanced", PySem.NameKind.globalImplicit), (PySem.Str.ofString "list", PySem.NameKind.globalImplicit)], isGenerator := Bool.false, isCoroutine := Bool.false : PySem.Scope }, globals := 3, closure := [], defaults := PySem.Value.none, kwdefaults := PySem.Value.none, pyModule := PySem.Value.str (PySem.Str.ofString "snobol.trial") 727, code := PySem.Value.ref 410 : PySem.FuncData } : PySem.Obj }) [_, _, _] (rfl : _ = fB (stAt 53))
noncomputable def k_412 (P : Params) : Obj := { cls := PySem.Value.type "tuple", data := PySem.Data.seq #[] : PySem.Obj }
noncomputable def k_414 (P : Params) : Obj := { cls := PySem.Value.type "tuple", data := PySem.Data.seq #[PySem.Value.str (PySem.Str.ofString "chain") 772, PySem.Value.str (PySem.Str.ofString "at") 773, PySem.Value.str (PySem.Str.ofString "named") 774, PySem.Value.str (PySem.Str.ofString "subject") 775, PySem.Value.str (PySem.Str.ofString "pile") 776, PySem.Value.str (PySem.Str.ofString "host") 777, PySem.Value.str (PySem.Str.ofString "here") 778, PySem.Value.str (PySem.Str.ofString "rest") 779, PySem.Value.str (PySem.Str.ofString "kind") 780, PySem.Value.str (PySem.Str.ofString "value") 781] : PySem.Obj }
noncomputable def k_415 (P : Params) : Obj := { cls := PySem.Value.type "tuple", data := PySem.Data.seq #[] : PySem.Obj }
noncomputable def k_417 (P : Params) : Obj := { cls := PySem.Value.type "code", data := PySem.Data.fields #[PySem.Value.str (PySem.Str.ofString "advanced") 769, PySem.Value.str (PySem.Str.ofString "advanced") 770, PySem.Value.str (PySem.Str.ofString "/claim/cut.py") 771, PySem.Value.int 250 0, PySem.Value.int 6 0, PySem.Value.int 0 0, PySem.Value.int 0 0, PySem.Value.int 3 0, PySem.Value.ref 412, PySem.Value.bool Bool.true, PySem.Value.int 181 0, PySem.Value.ref 413, PySem.Value.none, PySem.Value.ref 414, PySem.Value.ref 415, PySem.Value.ref 416, PySem.Value.int 782 0, PySem.Value.int 250 0, PySem.Value.str (PySem.Str.ofString "/claim/cut.py") 783] : PySem.Obj }
noncomputable def k_418 (P : Params) : Obj := wb (fun b => { cls := PySem.Value.type "function", data := PySem.Data.func { name := PySem.Str.ofString "advanced", qualname := PySem.Str.ofString "advanced", params := { posonlyargs := [], args := [{ arg := PySem.Str.ofString "chain", annotation := Option.none, pos := { line := 250, col := 13, endLine := 250, endCol := 18 : PySem.Pos } : PySem.Arg }, { arg := PySem.Str.ofString "at", annotation := Option.none, pos := { line := 250, col := 20, endLine := 250, endCol := 22 : PySem.Pos } : PySem.Arg }, { arg := PySem.Str.ofString "named", annotation := Option.none, pos := { line := 250, col := 24, endLine := 250, endCol := 29 : PySem.Pos } : PySem.Arg }, { arg := PySem.Str.ofString "subject", annotation := Option.none, pos := { line := 250, col := 31, endLine := 250, endCol := 38 : PySem.Pos } : PySem.Arg }, { arg := PySem.Str.ofString "pile", annotation := Option.none, pos := { line := 250, col := 40, endLine := 250, endCol := 44 : PySem.Pos } : PySem.Arg }, { arg := PySem.Str.ofString "host", annotation := Option.none, pos := { line := 250, col := 46, endLine := 250, endCol := 50 : PySem.Pos } : PySem.Arg }], vararg := Option.none, kwonlyargs := [], kw_defaults := [], kwarg := Option.none, defaults := [] : PySem.Arguments }, body := PySem.FuncBody.stmts b, scope := { kind := PySem.ScopeKind.function, names := [(PySem.Str.ofString "chain", PySem.NameKind.local), (PySem.Str.ofString "at", PySem.NameKind.local), (PySem.Str.ofString "named", PySem.NameKind.local), (PySem.Str.ofString "subject", PySem.NameKind.local), (PySem.Str.ofString "pile", PySem.NameKind.local), (PySem.Str.ofString "host", PySem.NameKind.local), (PySem.Str.ofString "here", PySem.NameKind.local), (PySem.Str.ofString "rest", PySem.NameKind.local), (PySem.Str.ofString "kind", PySem.NameKind.local), (PySem.Str.ofString "value", PySem.NameKind.local), (PySem.Str.ofString "led_in", PySem.NameKind.globalImplicit), (PySem.Str.ofString "led_out", PySem.NameKind.globalImplicit), (PySem.Str.ofString "is_fail", PySem.NameKind.globalImplicit), (PySem.Str.ofString "pattern_of", PySem.NameKind.globalImplicit), (PySem.Str.ofString "steered", PySem.NameKind.globalImplicit), (PySem.Str.ofString "taken", PySem.NameKind.globalImplicit)], isGenerator := Bool.false, isCoroutine := Bool.false : PySem.Scope }, globals := 3, closure := [], defaults := PySem.Value.none, kwdefaults := PySem.Value.none, pyModule := PySem.Value.str (PySem.Str.ofString "snobol.trial") 727, code := PySem.Value.ref 417 : PySem.FuncData } : PySem.Obj }) [_, _, _, _, _, _, _, _] (rfl : _ = fB (stAt 54))
noncomputable def k_419 (P : Params) : Obj := { cls := PySem.Value.type "tuple", data := PySem.Data.seq #[] : PySem.Obj }
noncomputable def k_421 (P : Params) : Obj := { cls := PySem.Value.type "tuple", data := PySem.Data.seq #[PySem.Value.str (PySem.Str.ofString "here") 788, PySem.Value.str (PySem.Str.ofString "rest") 789, PySem.Value.str (PySem.Str.ofString "at") 790, PySem.Value.str (PySem.Str.ofString "named") 791, PySem.Value.str (PySem.Str.ofString "pile") 792, PySem.Value.str (PySem.Str.ofString "kind") 793] : PySem.Obj }
noncomputable def k_422 (P : Params) : Obj := { cls := PySem.Value.type "tuple", data := PySem.Data.seq #[] : PySem.Obj }
noncomputable def k_424 (P : Params) : Obj := { cls := PySem.Value.type "code", data := PySem.Data.fields #[PySem.Value.str (PySem.Str.ofString "led_in") 785, PySem.Value.str (PySem.Str.ofString "led_in") 786, PySem.Value.str (PySem.Str.ofString "/claim/cut.py") 787, PySem.Value.int 265 0, PySem.Value.int 5 0, PySem.Value.int 0 0, PySem.Value.int 0 0, PySem.Value.int 3 0, PySem.Value.ref 419, PySem.Value.bool Bool.true, PySem.Value.int 181 0, PySem.Value.ref 420, PySem.Value.none, PySem.Value.ref 421, PySem.Value.ref 422, PySem.Value.ref 423, PySem.Value.int 794 0, PySem.Value.int 265 0, PySem.Value.str (PySem.Str.ofString "/claim/cut.py") 795] : PySem.Obj }
noncomputable def k_425 (P : Params) : Obj := wb (fun b => { cls := PySem.Value.type "function", data := PySem.Data.func { name := PySem.Str.ofString "led_in", qualname := PySem.Str.ofString "led_in", params := { posonlyargs := [], args := [{ arg := PySem.Str.ofString "here", annotation := Option.none, pos := { line := 265, col := 11, endLine := 265, endCol := 15 : PySem.Pos } : PySem.Arg }, { arg := PySem.Str.ofString "rest", annotation := Option.none, pos := { line := 265, col := 17, endLine := 265, endCol := 21 : PySem.Pos } : PySem.Arg }, { arg := PySem.Str.ofString "at", annotation := Option.none, pos := { line := 265, col := 23, endLine := 265, endCol := 25 : PySem.Pos } : PySem.Arg }, { arg := PySem.Str.ofString "named", annotation := Option.none, pos := { line := 265, col := 27, endLine := 265, endCol := 32 : PySem.Pos } : PySem.Arg }, { arg := PySem.Str.ofString "pile", annotation := Option.none, pos := { line := 265, col := 34, endLine := 265, endCol := 38 : PySem.Pos } : PySem.Arg }], vararg := Option.none, kwonlyargs := [], kw_defaults := [], kwarg := Option.none, defaults := [] : PySem.Arguments }, body := PySem.FuncBody.stmts b, scope := { kind := PySem.ScopeKind.function, names := [(PySem.Str.ofString "here", PySem.NameKind.local), (PySem.Str.ofString "rest", PySem.NameKind.local), (PySem.Str.ofString "at", PySem.NameKind.local), (PySem.Str.ofString "named", PySem.NameKind.local), (PySem.Str.ofString "pile", PySem.NameKind.local), (PySem.Str.ofString "kind", PySem.NameKind.local)], isGenerator := Bool.false, isCoroutine := Bool.false : PySem.Scope }, globals := 3, closure := [], defaults := PySem.Value.none, kwdefaults := PySem.Value.none, pyModule := PySem.Value.str (PySem.Str.ofString "snobol.trial") 727, code := PySem.Value.ref 424 : PySem.FuncData } : PySem.Obj }) [_, _, _, _, _] (rfl : _ = fB (stAt 55))
noncomputable def k_426 (P : Params) : Obj := { cls := PySem.Value.type "tuple", data := PySem.Data.seq #[] : PySem.Obj }
noncomputable def k_428 (P : Params) : Obj := { cls := PySem.Value.type "tuple", data := PySem.Data.seq #[PySem.Value.str (PySem.Str.ofString "here") 800, PySem.Value.str (PySem.Str.ofString "rest") 801, PySem.Value.str (PySem.Str.ofString "at") 802, PySem.Value.str (PySem.Str.ofString "named") 803, PySem.Value.str (PySem.Str.ofString "subject") 804, PySem.Value.str (PySem.Str.ofString "pile") 805, PySem.Value.str (PySem.Str.ofString "host") 806, PySem.Value.str (PySem.Str.ofString "kind") 807, PySem.Value.str (PySem.Str.ofString "told") 808, PySem.Value.str (PySem.Str.ofString "begin") 809] : PySem.Obj }
noncomputable def k_429 (P : Params) : Obj := { cls := PySem.Value.type "tuple", data := PySem.Data.seq #[] : PySem.Obj }
noncomputable def k_431 (P : Params) : Obj := { cls := PySem.Value.type "code", data := PySem.Data.fields #[PySem.Value.str (PySem.Str.ofString "led_out") 797, PySem.Value.str (PySem.Str.ofString "led_out") 798, PySem.Value.str (PySem.Str.ofString "/claim/cut.py") 799, PySem.Value.int 276 0, PySem.Value.int 7 0, PySem.Value.int 0 0, PySem.Value.int 0 0, PySem.Value.int 3 0, PySem.Value.ref 426, PySem.Value.bool Bool.true, PySem.Value.int 181 0, PySem.Value.ref 427, PySem.Value.none, PySem.Value.ref 428, PySem.Value.ref 429, PySem.Value.ref 430, PySem.Value.int 810 0, PySem.Value.int 276 0, PySem.Value.str (PySem.Str.ofString "/claim/cut.py") 811] : PySem.Obj }
noncomputable def k_432 (P : Params) : Obj := wb (fun b => { cls := PySem.Value.type "function", data := PySem.Data.func { name := PySem.Str.ofString "led_out", qualname := PySem.Str.ofString "led_out", params := { posonlyargs := [], args := [{ arg := PySem.Str.ofString "here", annotation := Option.none, pos := { line := 276, col := 12, endLine := 276, endCol := 16 : PySem.Pos } : PySem.Arg }, { arg := PySem.Str.ofString "rest", annotation := Option.none, pos := { line := 276, col := 18, endLine := 276, endCol := 22 : PySem.Pos } : PySem.Arg }, { arg := PySem.Str.ofString "at", annotation := Option.none, pos := { line := 276, col := 24, endLine := 276, endCol := 26 : PySem.Pos } : PySem.Arg }, { arg := PySem.Str.ofString "named", annotation := Option.none, pos := { line := 276, col := 28, endLine := 276, endCol := 33 : PySem.Pos } : PySem.Arg }, { arg := PySem.Str.ofString "subject", annotation := Option.none, pos := { line := 276, col := 35, endLine := 276, endCol := 42 : PySem.Pos } : PySem.Arg }, { arg := PySem.Str.ofString "pile", annotation := Option.none, pos := { line := 276, col := 44, endLine := 276, endCol := 48 : PySem.Pos } : PySem.Arg }, { arg := PySem.Str.ofString "host", annotation := Option.none, pos := { line := 276, col := 50, endLine := 276, endCol := 54 : PySem.Pos } : PySem.Arg }], vararg := Option.none, kwonlyargs := [], kw_defaults := [], kwarg := Option.none, defaults := [] : PySem.Arguments }, body := PySem.FuncBody.stmts b, scope := { kind := PySem.ScopeKind.function, names := [(PySem.Str.ofString "here", PySem.NameKind.local), (PySem.Str.ofString "rest", PySem.NameKind.local), (PySem.Str.ofString "at", PySem.NameKind.local), (PySem.Str.ofString "named", PySem.NameKind.local), (PySem.Str.ofString "subject", PySem.NameKind.local), (PySem.Str.ofString "pile", PySem.NameKind.local), (PySem.Str.ofString "host", PySem.NameKind.local), (PySem.Str.ofString "kind", PySem.NameKind.local), (PySem.Str.ofString "told", PySem.NameKind.local), (PySem.Str.ofString "begin", PySem.NameKind.local)], isGenerator := Bool.false, isCoroutine := Bool.false : PySem.Scope }, globals := 3, closure := [], defaults := PySem.Value.none, kwdefaults := PySem.Value.none, pyModule := PySem.Value.str (PySem.Str.ofString "snobol.trial") 727, code := PySem.Value.ref 431 : PySem.FuncData } : PySem.Obj }) [_, _, _, _] (rfl : _ = fB (stAt 56))
noncomputable def k_433 (P : Params) : Obj := { cls := PySem.Value.type "tuple", data := PySem.Data.seq #[] : PySem.Obj }
noncomputable def k_435 (P : Params) : Obj := { cls := PySem.Value.type "tuple", data := PySem.Data.seq #[PySem.Value.str (PySem.Str.ofString "chain") 816, PySem.Value.str (PySem.Str.ofString "at") 817, PySem.Value.str (PySem.Str.ofString "named") 818, PySem.Value.str (PySem.Str.ofString "pile") 819, PySem.Value.str (PySem.Str.ofString "kind") 820, PySem.Value.str (PySem.Str.ofString "rest") 821] : PySem.Obj }
noncomputable def k_436 (P : Params) : Obj := { cls := PySem.Value.type "tuple", data := PySem.Data.seq #[] : PySem.Obj }
noncomputable def k_438 (P : Params) : Obj := { cls := PySem.Value.type "code", data := PySem.Data.fields #[PySem.Value.str (PySem.Str.ofString "steered") 813, PySem.Value.str (PySem.Str.ofString "steered") 814, PySem.Value.str (PySem.Str.ofString "/claim/cut.py") 815, PySem.Value.int 283 0, PySem.Value.int 4 0, PySem.Value.int 0 0, PySem.Value.int 0 0, PySem.Value.int 3 0, PySem.Value.ref 433, PySem.Value.bool Bool.true, PySem.Value.int 181 0, PySem.Value.ref 434, PySem.Value.none, PySem.Value.ref 435, PySem.Value.ref 436, PySem.Value.ref 437, PySem.Value.int 822 0, PySem.Value.int 283 0, PySem.Value.str (PySem.Str.ofString "/claim/cut.py") 823] : PySem.Obj }
noncomputable def k_439 (P : Params) : Obj := wb (fun b => { cls := PySem.Value.type "function", data := PySem.Data.func { name := PySem.Str.ofString "steered", qualname := PySem.Str.ofString "steered", params := { posonlyargs := [], args := [{ arg := PySem.Str.ofString "chain", annotation := Option.none, pos := { line := 283, col := 12, endLine := 283, endCol := 17 : PySem.Pos } : PySem.Arg }, { arg := PySem.Str.ofString "at", annotation := Option.none, pos := { line := 283, col := 19, endLine := 283, endCol := 21 : PySem.Pos } : PySem.Arg }, { arg := PySem.Str.ofString "named", annotation := Option.none, pos := { line := 283, col := 23, endLine := 283, endCol := 28 : PySem.Pos } : PySem.Arg }, { arg := PySem.Str.ofString "pile", annotation := Option.none, pos := { line := 283, col := 30, endLine := 283, endCol := 34 : PySem.Pos } : PySem.Arg }], vararg := Option.none, kwonlyargs := [], kw_defaults := [], kwarg := Option.none, defaults := [] : PySem.Arguments }, body := PySem.FuncBody.stmts b, scope := { kind := PySem.ScopeKind.function, names := [(PySem.Str.ofString "chain", PySem.NameKind.local), (PySem.Str.ofString "at", PySem.NameKind.local), (PySem.Str.ofString "named", PySem.NameKind.local), (PySem.Str.ofString "pile", PySem.NameKind.local), (PySem.Str.ofString "kind", PySem.NameKind.local), (PySem.Str.ofString "rest", PySem.NameKind.local), (PySem.Str.ofString "LOST", PySem.NameKind.globalImplicit)], isGenerator := Bool.false, isCoroutine := Bool.false : PySem.Scope }, globals := 3, closure := [], defaults := PySem.Value.none, kwdefaults := PySem.Value.none, pyModule := PySem.Value.str (PySem.Str.ofString "snobol.trial") 727, code := PySem.Value.ref 438 : PySem.FuncData } : PySem.Obj }) [_, _, _, _, _] (rfl : _ = fB (stAt 57))
noncomputable def k_440 (P : Params) : Obj := { cls := PySem.Value.type "tuple", data := PySem.Data.seq #[] : PySem.Obj }
noncomputable def k_442 (P : Params) : Obj := { cls := PySem.Value.type "tuple", data := PySem.Data.seq #[PySem.Value.str (PySem.Str.ofString "here") 828, PySem.Value.str (PySem.Str.ofString "rest") 829, PySem.Value.str (PySem.Str.ofString "at") 830, PySem.Value.str (PySem.Str.ofString "named") 831, PySem.Value.str (PySem.Str.ofString "subject") 832, PySem.Value.str (PySem.Str.ofString "pile") 833, PySem.Value.str (PySem.Str.ofString "host") 834, PySem.Value.str (PySem.Str.ofString "kind") 835, PySem.Value.str (PySem.Str.ofString "ends") 836, PySem.Value.str (PySem.Str.ofString "end") 837, PySem.Value.str (PySem.Str.ofString "plain") 838] : PySem.Obj }
noncomputable def k_443 (P : Params) : Obj := { cls := PySem.Value.type "tuple", data := PySem.Data.seq #[] : PySem.Obj }
noncomputable def k_445 (P : Params) : Obj := { cls := PySem.Value.type "code", data := PySem.Data.fields #[PySem.Value.str (PySem.Str.ofString "taken") 825, PySem.Value.str (PySem.Str.ofString "taken") 826, PySem.Value.str (PySem.Str.ofString "/claim/cut.py") 827, PySem.Value.int 291 0, PySem.Value.int 7 0, PySem.Value.int 0 0, PySem.Value.int 0 0, PySem.Value.int 3 0, PySem.Value.ref 440, PySem.Value.bool Bool.true, PySem.Value.int 181 0, PySem.Value.ref 441, PySem.Value.none, PySem.Value.ref 442, PySem.Value.ref 443, PySem.Value.ref 444, PySem.Value.int 839 0, PySem.Value.int 291 0, PySem.Value.str (PySem.Str.ofString "/claim/cut.py") 840] : PySem.Obj }
noncomputable def k_446 (P : Params) : Obj := wb (fun b => { cls := PySem.Value.type "function", data := PySem.Data.func { name := PySem.Str.ofString "taken", qualname := PySem.Str.ofString "taken", params := { posonlyargs := [], args := [{ arg := PySem.Str.ofString "here", annotation := Option.none, pos := { line := 291, col := 10, endLine := 291, endCol := 14 : PySem.Pos } : PySem.Arg }, { arg := PySem.Str.ofString "rest", annotation := Option.none, pos := { line := 291, col := 16, endLine := 291, endCol := 20 : PySem.Pos } : PySem.Arg }, { arg := PySem.Str.ofString "at", annotation := Option.none, pos := { line := 291, col := 22, endLine := 291, endCol := 24 : PySem.Pos } : PySem.Arg }, { arg := PySem.Str.ofString "named", annotation := Option.none, pos := { line := 291, col := 26, endLine := 291, endCol := 31 : PySem.Pos } : PySem.Arg }, { arg := PySem.Str.ofString "subject", annotation := Option.none, pos := { line := 291, col := 33, endLine := 291, endCol := 40 : PySem.Pos } : PySem.Arg }, { arg := PySem.Str.ofString "pile", annotation := Option.none, pos := { line := 291, col := 42, endLine := 291, endCol := 46 : PySem.Pos } : PySem.Arg }, { arg := PySem.Str.ofString "host", annotation := Option.none, pos := { line := 291, col := 48, endLine := 291, endCol := 52 : PySem.Pos } : PySem.Arg }], vararg := Option.none, kwonlyargs := [], kw_defaults := [], kwarg := Option.none, defaults := [] : PySem.Arguments }, body := PySem.FuncBody.stmts b, scope := { kind := PySem.ScopeKind.function, names := [(PySem.Str.ofString "here", PySem.NameKind.local), (PySem.Str.ofString "rest", PySem.NameKind.local), (PySem.Str.ofString "at", PySem.NameKind.local), (PySem.Str.ofString "named", PySem.NameKind.local), (PySem.Str.ofString "subject", PySem.NameKind.local), (PySem.Str.ofString "pile", PySem.NameKind.local), (PySem.Str.ofString "host", PySem.NameKind.local), (PySem.Str.ofString "kind", PySem.NameKind.local), (PySem.Str.ofString "ends", PySem.NameKind.local), (PySem.Str.ofString "end", PySem.NameKind.local), (PySem.Str.ofString "plain", PySem.NameKind.local), (PySem.Str.ofString "len", PySem.NameKind.globalImplicit), (PySem.Str.ofString "bal_ends", PySem.NameKind.globalImplicit), (PySem.Str.ofString "settled", PySem.NameKind.globalImplicit), (PySem.Str.ofString "plain_end", PySem.NameKind.globalImplicit)], isGenerator := Bool.false, isCoroutine := Bool.false : PySem.Scope }, globals := 3, closure := [], defaults := PySem.Value.none, kwdefaults := PySem.Value.none, pyModule := PySem.Value.str (PySem.Str.ofString "snobol.trial") 727, code := PySem.Value.ref 445 : PySem.FuncData } : PySem.Obj }) [_, _, _, _, _, _, _] (rfl : _ = fB (stAt 58))
noncomputable def k_447 (P : Params) : Obj := { cls := PySem.Value.type "tuple", data := PySem.Data.seq #[] : PySem.Obj }
noncomputable def k_449 (P : Params) : Obj := { cls := PySem.Value.type "tuple", data := PySem.Data.seq #[PySem.Value.str (PySem.Str.ofString "row") 847, PySem.Value.str (PySem.Str.ofString "ahead") 848, PySem.Value.str (PySem.Str.ofString "node") 849, PySem.Value.str (PySem.Str.ofString "text_of") 850, PySem.Value.str (PySem.Str.ofString "later") 851] : PySem.Obj }
noncomputable def k_450 (P : Params) : Obj := { cls := PySem.Value.type "tuple", data := PySem.Data.seq #[] : PySem.Obj }
noncomputable def k_452 (P : Params) : Obj := { cls := PySem.Value.type "code", data := PySem.Data.fields #[PySem.Value.str (PySem.Str.ofString "_law_next") 844, PySem.Value.str (PySem.Str.ofString "_law_next") 845, PySem.Value.str (PySem.Str.ofString "/claim/cut.py") 846, PySem.Value.int 308 0, PySem.Value.int 1 0, PySem.Value.int 0 0, PySem.Value.int 0 0, PySem.Value.int 3 0, PySem.Value.ref 447, PySem.Value.bool Bool.true, PySem.Value.int 181 0, PySem.Value.ref 448, PySem.Value.none, PySem.Value.ref 449, PySem.Value.ref 450, PySem.Value.ref 451, PySem.Value.int 852 0, PySem.Value.int 308 0, PySem.Value.str (PySem.Str.ofString "/claim/cut.py") 853] : PySem.Obj }
noncomputable def k_453 (P : Params) : Obj := wb (fun b => { cls := PySem.Value.type "function", data := PySem.Data.func { name := PySem.Str.ofString "_law_next", qualname := PySem.Str.ofString "_law_next", params := { posonlyargs := [], args := [{ arg := PySem.Str.ofString "row", annotation := Option.none, pos := { line := 308, col := 14, endLine := 308, endCol := 17 : PySem.Pos } : PySem.Arg }], vararg := Option.none, kwonlyargs := [], kw_defaults := [], kwarg := Option.none, defaults := [] : PySem.Arguments }, body := PySem.FuncBody.stmts b, scope := { kind := PySem.ScopeKind.function, names := [(PySem.Str.ofString "row", PySem.NameKind.local), (PySem.Str.ofString "ahead", PySem.NameKind.local), (PySem.Str.ofString "node", PySem.NameKind.local), (PySem.Str.ofString "text_of", PySem.NameKind.local), (PySem.Str.ofString "later", PySem.NameKind.local), (PySem.Str.ofString "NameRef", PySem.NameKind.globalImplicit), (PySem.Str.ofString "replace_once", PySem.NameKind.globalImplicit), (PySem.Str.ofString "match_plain", PySem.NameKind.globalImplicit), (PySem.Str.ofString "PlainHost", PySem.NameKind.globalImplicit), (PySem.Str.ofString "replace_often", PySem.NameKind.globalImplicit)], isGenerator := Bool.false, isCoroutine := Bool.false : PySem.Scope }, globals := 3, closure := [], defaults := PySem.Value.none, kwdefaults := PySem.Value.none, pyModule := PySem.Value.str (PySem.Str.ofString "law_xm0956_01") 842, code := PySem.Value.ref 452 : PySem.FuncData } : PySem.Obj }) [_, _, _, _, _, _] (rfl : _ = fB (stAt 60))
noncomputable def k_454 (P : Params) : Obj := { cls := PySem.Value.type "tuple", data := PySem.Data.seq #[] : PySem.Obj }
noncomputable def k_457 (P : Params) : Obj := { cls := PySem.Value.type "code", data := PySem.Data.fields #[PySem.Value.str (PySem.Str.ofString "law") 855, PySem.Value.str (PySem.Str.ofString "law") 856, PySem.Value.str (PySem.Str.ofString "/claim/cut.py") 857, PySem.Value.int 319 0, PySem.Value.int 1 0, PySem.Value.int 0 0, PySem.Value.int 0 0, PySem.Value.int 3 0, PySem.Value.ref 454, PySem.Value.bool Bool.true, PySem.Value.int 181 0, PySem.Value.ref 455, PySem.Value.none, PySem.Value.none, PySem.Value.none, PySem.Value.ref 456, PySem.Value.int 858 0, PySem.Value.int 319 0, PySem.Value.str (PySem.Str.ofString "/claim/cut.py") 859] : PySem.Obj }
noncomputable def k_458 (P : Params) : Obj := wb (fun b => { cls := PySem.Value.type "function", data := PySem.Data.func { name := PySem.Str.ofString "law", qualname := PySem.Str.ofString "law", params := { posonlyargs := [], args := [{ arg := PySem.Str.ofString "script", annotation := Option.none, pos := { line := 319, col := 8, endLine := 319, endCol := 14 : PySem.Pos } : PySem.Arg }], vararg := Option.none, kwonlyargs := [], kw_defaults := [], kwarg := Option.none, defaults := [] : PySem.Arguments }, body := PySem.FuncBody.stmts b, scope := { kind := PySem.ScopeKind.function, names := [(PySem.Str.ofString "script", PySem.NameKind.local), (PySem.Str.ofString "usual", PySem.NameKind.local), (PySem.Str.ofString "cells", PySem.NameKind.local), (PySem.Str.ofString "many", PySem.NameKind.cell), (PySem.Str.ofString "rows", PySem.NameKind.local), (PySem.Str.ofString "pairs", PySem.NameKind.local), (PySem.Str.ofString "turn", PySem.NameKind.local), (PySem.Str.ofString "later", PySem.NameKind.local), (PySem.Str.ofString "at", PySem.NameKind.local), (PySem.Str.ofString "row", PySem.NameKind.local), (PySem.Str.ofString "is_second", PySem.NameKind.local), (PySem.Str.ofString "goal", PySem.NameKind.local), (PySem.Str.ofString "shifted", PySem.NameKind.local), (PySem.Str.ofString "cold", PySem.NameKind.cell), (PySem.Str.ofString "few", PySem.NameKind.cell), (PySem.Str.ofString "more", PySem.NameKind.cell), (PySem.Str.ofString "goals", PySem.NameKind.local), (PySem.Str.ofString "leads", PySem.NameKind.local), (PySem.Str.ofString "len", PySem.NameKind.globalImplicit), (PySem.Str.ofString "range", PySem.NameKind.globalImplicit), (PySem.Str.ofString "_law_next", PySem.NameKind.globalImplicit), (PySem.Str.ofString "min", PySem.NameKind.globalImplicit), (PySem.Str.ofString "max", PySem.NameKind.globalImplicit), (PySem.Str.ofString "any", PySem.NameKind.globalImplicit)], isGenerator := Bool.false, isCoroutine := Bool.false, more := [(PySem.Str.ofString "fast", PySem.Const.str (PySem.Str.ofString "script")), (PySem.Str.ofString "fast", PySem.Const.str (PySem.Str.ofString "usual")), (PySem.Str.ofString "fast", PySem.Const.str (PySem.Str.ofString "one")), (PySem.Str.ofString "fast", PySem.Const.str (PySem.Str.ofString "cells")), (PySem.Str.ofString "fast", PySem.Const.str (PySem.Str.ofString "many")), (PySem.Str.ofString "fast", PySem.Const.str (PySem.Str.ofString "rows")), (PySem.Str.ofString "fast", PySem.Const.str (PySem.Str.ofString "pairs")), (PySem.Str.ofString "fast", PySem.Const.str (PySem.Str.ofString "turn")), (PySem.Str.ofString "fast", PySem.Const.str (PySem.Str.ofString "later")), (PySem.Str.ofString "fast", PySem.Const.str (PySem.Str.ofString "at")), (PySem.Str.ofString "fast", PySem.Const.str (PySem.Str.ofString "pair")), (PySem.Str.ofString "fast", PySem.Const.str (PySem.Str.ofString "row")), (PySem.Str.ofString "fast", PySem.Const.str (PySem.Str.ofString "is_second")), (PySem.Str.ofString "fast", PySem.Const.str (PySem.Str.ofString "goal")), (PySem.Str.ofString "fast", PySem.Const.str (PySem.Str.ofString "shifted")), (PySem.Str.ofString "fast", PySem.Const.str (PySem.Str.ofString "cold")), (PySem.Str.ofString "fast", PySem.Const.str (PySem.Str.ofString "few")), (PySem.Str.ofString "fast", PySem.Const.str (PySem.Str.ofString "more")), (PySem.Str.ofString "fast", PySem.Const.str (PySem.Str.ofString "goals")), (PySem.Str.ofString "fast", PySem.Const.str (PySem.Str.ofString "leads"))] : PySem.Scope }, globals := 3, closure := [], defaults := PySem.Value.none, kwdefaults := PySem.Value.none, pyModule := PySem.Value.str (PySem.Str.ofString "law_xm0956_01") 842, code := PySem.Value.ref 457 : PySem.FuncData } : PySem.Obj }) [_, _, _, _, _, _, _, _, _, _, _, _] (rfl : _ = fB (stAt 61))
noncomputable def KK (P : Params) : Frag := (nat_lit 2, k_2 P) :: (nat_lit 3, k_3 P) :: (nat_lit 15, k_15 P) :: (nat_lit 17, k_17 P) :: (nat_lit 18, k_18 P) :: (nat_lit 20, k_20 P) :: (nat_lit 21, k_21 P) :: (nat_lit 22, k_22 P) :: (nat_lit 24, k_24 P) :: (nat_lit 25, k_25 P) :: (nat_lit 27, k_27 P) :: (nat_lit 28, k_28 P) :: (nat_lit 29, k_29 P) :: (nat_lit 31, k_31 P) :: (nat_lit 32, k_32 P) :: (nat_lit 34, k_34 P) :: (nat_lit 35, k_35 P) :: (nat_lit 36, k_36 P) :: (nat_lit 38, k_38 P) :: (nat_lit 39, k_39 P) :: (nat_lit 41, k_41 P) :: (nat_lit 42, k_42 P) :: (nat_lit 43, k_43 P) :: (nat_lit 45, k_45 P) :: (nat_lit 46, k_46 P) :: (nat_lit 48, k_48 P) :: (nat_lit 49, k_49 P) :: (nat_lit 50, k_50 P) :: (nat_lit 53, k_53 P) :: (nat_lit 58, k_58 P) :: (nat_lit 59, k_59 P) :: (nat_lit 60, k_60 P) :: (nat_lit 62, k_62 P) :: (nat_lit 63, k_63 P) :: (nat_lit 65, k_65 P) :: (nat_lit 66, k_66 P) :: (nat_lit 67, k_67 P) :: (nat_lit 68, k_68 P) :: (nat_lit 69, k_69 P) :: (nat_lit 70, k_70 P) :: (nat_lit 80, k_80 P) :: (nat_lit 81, k_81 P) :: (nat_lit 82, k_82 P) :: (nat_lit 83, k_83 P) :: (nat_lit 84, k_84 P) :: (nat_lit 94, k_94 P) :: (nat_lit 96, k_96 P) :: (nat_lit 97, k_97 P) :: (nat_lit 99, k_99 P) :: (nat_lit 100, k_100 P) :: (nat_lit 101, k_101 P) :: (nat_lit 102, k_102 P) :: (nat_lit 103, k_103 P) :: (nat_lit 104, k_104 P) :: (nat_lit 105, k_105 P) :: (nat_lit 115, k_115 P) :: (nat_lit 117, k_117 P) :: (nat_lit 118, k_118 P) :: (nat_lit 120, k_120 P) :: (nat_lit 121, k_121 P) :: (nat_lit 122, k_122 P) :: (nat_lit 123, k_123 P) :: (nat_lit 124, k_124 P) :: (nat_lit 125, k_125 P) :: (nat_lit 126, k_126 P) :: (nat_lit 136, k_136 P) :: (nat_lit 138, k_138 P) :: (nat_lit 139, k_139 P) :: (nat_lit 141, k_141 P) :: (nat_lit 142, k_142 P) :: (nat_lit 143, k_143 P) :: (nat_lit 144, k_144 P) :: (nat_lit 145, k_145 P) :: (nat_lit 146, k_146 P) :: (nat_lit 147, k_147 P) :: (nat_lit 150, k_150 P) :: (nat_lit 152, k_152 P) :: (nat_lit 153, k_153 P) :: (nat_lit 155, k_155 P) :: (nat_lit 156, k_156 P) :: (nat_lit 157, k_157 P) :: (nat_lit 159, k_159 P) :: (nat_lit 160, k_160 P) :: (nat_lit 162, k_162 P) :: (nat_lit 163, k_163 P) :: (nat_lit 164, k_164 P) :: (nat_lit 166, k_166 P) :: (nat_lit 167, k_167 P) :: (nat_lit 169, k_169 P) :: (nat_lit 170, k_170 P) :: (nat_lit 171, k_171 P) :: (nat_lit 173, k_173 P) :: (nat_lit 174, k_174 P) :: (nat_lit 176, k_176 P) :: (nat_lit 177, k_177 P) :: (nat_lit 178, k_178 P) :: (nat_lit 180, k_180 P) :: (nat_lit 181, k_181 P) :: (nat_lit 183, k_183 P) :: (nat_lit 184, k_184 P) :: (nat_lit 185, k_185 P) :: (nat_lit 187, k_187 P) :: (nat_lit 188, k_188 P) :: (nat_lit 190, k_190 P) :: (nat_lit 191, k_191 P) :: (nat_lit 192, k_192 P) :: (nat_lit 194, k_194 P) :: (nat_lit 195, k_195 P) :: (nat_lit 197, k_197 P) :: (nat_lit 198, k_198 P) :: (nat_lit 206, k_206 P) :: (nat_lit 208, k_208 P) :: (nat_lit 209, k_209 P) :: (nat_lit 211, k_211 P) :: (nat_lit 212, k_212 P) :: (nat_lit 213, k_213 P) :: (nat_lit 215, k_215 P) :: (nat_lit 216, k_216 P) :: (nat_lit 218, k_218 P) :: (nat_lit 219, k_219 P) :: (nat_lit 220, k_220 P) :: (nat_lit 222, k_222 P) :: (nat_lit 223, k_223 P) :: (nat_lit 225, k_225 P) :: (nat_lit 226, k_226 P) :: (nat_lit 227, k_227 P) :: (nat_lit 229, k_229 P) :: (nat_lit 230, k_230 P) :: (nat_lit 232, k_232 P) :: (nat_lit 233, k_233 P) :: (nat_lit 234, k_234 P) :: (nat_lit 235, k_235 P) :: (nat_lit 236, k_236 P) :: (nat_lit 237, k_237 P) :: (nat_lit 238, k_238 P) :: (nat_lit 241, k_241 P) :: (nat_lit 242, k_242 P) :: (nat_lit 243, k_243 P) :: (nat_lit 244, k_244 P) :: (nat_lit 246, k_246 P) :: (nat_lit 247, k_247 P) :: (nat_lit 249, k_249 P) :: (nat_lit 250, k_250 P) :: (nat_lit 251, k_251 P) :: (nat_lit 253, k_253 P) :: (nat_lit 254, k_254 P) :: (nat_lit 256, k_256 P) :: (nat_lit 257, k_257 P) :: (nat_lit 258, k_258 P) :: (nat_lit 260, k_260 P) :: (nat_lit 261, k_261 P) :: (nat_lit 263, k_263 P) :: (nat_lit 264, k_264 P) :: (nat_lit 265, k_265 P) :: (nat_lit 267, k_267 P) :: (nat_lit 268, k_268 P) :: (nat_lit 270, k_270 P) :: (nat_lit 271, k_271 P) :: (nat_lit 272, k_272 P) :: (nat_lit 274, k_274 P) :: (nat_lit 275, k_275 P) :: (nat_lit 277, k_277 P) :: (nat_lit 278, k_278 P) :: (nat_lit 279, k_279 P) :: (nat_lit 281, k_281 P) :: (nat_lit 282, k_282 P) :: (nat_lit 284, k_284 P) :: (nat_lit 285, k_285 P) :: (nat_lit 286, k_286 P) :: (nat_lit 288, k_288 P) :: (nat_lit 289, k_289 P) :: (nat_lit 291, k_291 P) :: (nat_lit 292, k_292 P) :: (nat_lit 293, k_293 P) :: (nat_lit 295, k_295 P) :: (nat_lit 296, k_296 P) :: (nat_lit 298, k_298 P) :: (nat_lit 299, k_299 P) :: (nat_lit 300, k_300 P) :: (nat_lit 302, k_302 P) :: (nat_lit 303, k_303 P) :: (nat_lit 305, k_305 P) :: (nat_lit 306, k_306 P) :: (nat_lit 307, k_307 P) :: (nat_lit 309, k_309 P) :: (nat_lit 310, k_310 P) :: (nat_lit 312, k_312 P) :: (nat_lit 313, k_313 P) :: (nat_lit 314, k_314 P) :: (nat_lit 316, k_316 P) :: (nat_lit 317, k_317 P) :: (nat_lit 319, k_319 P) :: (nat_lit 320, k_320 P) :: (nat_lit 321, k_321 P) :: (nat_lit 323, k_323 P) :: (nat_lit 324, k_324 P) :: (nat_lit 326, k_326 P) :: (nat_lit 327, k_327 P) :: (nat_lit 328, k_328 P) :: (nat_lit 330, k_330 P) :: (nat_lit 331, k_331 P) :: (nat_lit 333, k_333 P) :: (nat_lit 334, k_334 P) :: (nat_lit 335, k_335 P) :: (nat_lit 337, k_337 P) :: (nat_lit 338, k_338 P) :: (nat_lit 340, k_340 P) :: (nat_lit 341, k_341 P) :: (nat_lit 342, k_342 P) :: (nat_lit 344, k_344 P) :: (nat_lit 345, k_345 P) :: (nat_lit 347, k_347 P) :: (nat_lit 348, k_348 P) :: (nat_lit 349, k_349 P) :: (nat_lit 351, k_351 P) :: (nat_lit 352, k_352 P) :: (nat_lit 354, k_354 P) :: (nat_lit 355, k_355 P) :: (nat_lit 356, k_356 P) :: (nat_lit 358, k_358 P) :: (nat_lit 359, k_359 P) :: (nat_lit 361, k_361 P) :: (nat_lit 362, k_362 P) :: (nat_lit 363, k_363 P) :: (nat_lit 365, k_365 P) :: (nat_lit 366, k_366 P) :: (nat_lit 368, k_368 P) :: (nat_lit 369, k_369 P) :: (nat_lit 370, k_370 P) :: (nat_lit 372, k_372 P) :: (nat_lit 373, k_373 P) :: (nat_lit 375, k_375 P) :: (nat_lit 376, k_376 P) :: (nat_lit 377, k_377 P) :: (nat_lit 379, k_379 P) :: (nat_lit 380, k_380 P) :: (nat_lit 382, k_382 P) :: (nat_lit 383, k_383 P) :: (nat_lit 384, k_384 P) :: (nat_lit 386, k_386 P) :: (nat_lit 387, k_387 P) :: (nat_lit 389, k_389 P) :: (nat_lit 390, k_390 P) :: (nat_lit 391, k_391 P) :: (nat_lit 393, k_393 P) :: (nat_lit 394, k_394 P) :: (nat_lit 396, k_396 P) :: (nat_lit 397, k_397 P) :: (nat_lit 398, k_398 P) :: (nat_lit 400, k_400 P) :: (nat_lit 401, k_401 P) :: (nat_lit 403, k_403 P) :: (nat_lit 404, k_404 P) :: (nat_lit 405, k_405 P) :: (nat_lit 407, k_407 P) :: (nat_lit 408, k_408 P) :: (nat_lit 410, k_410 P) :: (nat_lit 411, k_411 P) :: (nat_lit 412, k_412 P) :: (nat_lit 414, k_414 P) :: (nat_lit 415, k_415 P) :: (nat_lit 417, k_417 P) :: (nat_lit 418, k_418 P) :: (nat_lit 419, k_419 P) :: (nat_lit 421, k_421 P) :: (nat_lit 422, k_422 P) :: (nat_lit 424, k_424 P) :: (nat_lit 425, k_425 P) :: (nat_lit 426, k_426 P) :: (nat_lit 428, k_428 P) :: (nat_lit 429, k_429 P) :: (nat_lit 431, k_431 P) :: (nat_lit 432, k_432 P) :: (nat_lit 433, k_433 P) :: (nat_lit 435, k_435 P) :: (nat_lit 436, k_436 P) :: (nat_lit 438, k_438 P) :: (nat_lit 439, k_439 P) :: (nat_lit 440, k_440 P) :: (nat_lit 442, k_442 P) :: (nat_lit 443, k_443 P) :: (nat_lit 445, k_445 P) :: (nat_lit 446, k_446 P) :: (nat_lit 447, k_447 P) :: (nat_lit 449, k_449 P) :: (nat_lit 450, k_450 P) :: (nat_lit 452, k_452 P) :: (nat_lit 453, k_453 P) :: (nat_lit 454, k_454 P) :: (nat_lit 457, k_457 P) :: (nat_lit 458, k_458 P) :: []


noncomputable abbrev q0 : Pos := { line := 0, col := 0, endLine := 0, endCol := 0 }
noncomputable def eB : Env := { scope := Pg.main.scope, locals := mainNs, globals := mainNs, cells := [], code := PySem.Value.ref 13, frame := some 14 }
noncomputable abbrev cE : Code := .body (behindTheImports Pg) eB
noncomputable def vw : Program := view Pg [1, 2, 3, 4, 5, 7, 8, 9, 10, 11, 12, 13, 14, 15, 16, 17, 18, 20, 22, 23, 24, 26, 27, 28, 29, 31, 32, 33, 34, 35, 36, 37, 38, 39, 40, 41, 42, 43, 44, 45, 46, 47, 48, 50, 51, 52, 53, 54, 55, 56, 57, 58, 60, 61]
noncomputable abbrev ls : List PySem.Str := [PySem.Str.ofString "SnobolError", PySem.Str.ofString "plain_count"]
noncomputable abbrev Xt0 : Shared → Bool := fun s => xlAt vw [] s && recOk (RowW.records PySem.Challenge.rw_xm0956_01.row.toRowW) s
noncomputable abbrev mods := importedModules Pg.main.body
noncomputable def asK : List Addr := [2, 3, 15, 17, 18, 20, 21, 22, 24, 25, 27, 28, 29, 31, 32, 34, 35, 36, 38, 39, 41, 42, 43, 45, 46, 48, 49, 50, 53, 58, 59, 60, 62, 63, 65, 66, 67, 68, 69, 70, 80, 81, 82, 83, 84, 94, 96, 97, 99, 100, 101, 102, 103, 104, 105, 115, 117, 118, 120, 121, 122, 123, 124, 125, 126, 136, 138, 139, 141, 142, 143, 144, 145, 146, 147, 150, 152, 153, 155, 156, 157, 159, 160, 162, 163, 164, 166, 167, 169, 170, 171, 173, 174, 176, 177, 178, 180, 181, 183, 184, 185, 187, 188, 190, 191, 192, 194, 195, 197, 198, 206, 208, 209, 211, 212, 213, 215, 216, 218, 219, 220, 222, 223, 225, 226, 227, 229, 230, 232, 233, 234, 235, 236, 237, 238, 241, 242, 243, 244, 246, 247, 249, 250, 251, 253, 254, 256, 257, 258, 260, 261, 263, 264, 265, 267, 268, 270, 271, 272, 274, 275, 277, 278, 279, 281, 282, 284, 285, 286, 288, 289, 291, 292, 293, 295, 296, 298, 299, 300, 302, 303, 305, 306, 307, 309, 310, 312, 313, 314, 316, 317, 319, 320, 321, 323, 324, 326, 327, 328, 330, 331, 333, 334, 335, 337, 338, 340, 341, 342, 344, 345, 347, 348, 349, 351, 352, 354, 355, 356, 358, 359, 361, 362, 363, 365, 366, 368, 369, 370, 372, 373, 375, 376, 377, 379, 380, 382, 383, 384, 386, 387, 389, 390, 391, 393, 394, 396, 397, 398, 400, 401, 403, 404, 405, 407, 408, 410, 411, 412, 414, 415, 417, 418, 419, 421, 422, 424, 425, 426, 428, 429, 431, 432, 433, 435, 436, 438, 439, 440, 442, 443, 445, 446, 447, 449, 450, 452, 453, 454, 457, 458]
theorem asK_eq (P : Params) : asK = (KK P).map (·.1) := by kernel_rfl
noncomputable abbrev hk : Hook := kmHook KK asK asK_eq [448]
noncomputable abbrev anB : Option Value := some (.ref 6)
noncomputable def sB (w : World) (os : OsState) : SharedT := { tree := tB w.params, n := 15, life := {}, gens := #[], drawn := {}, toks := 187, os := os }
noncomputable def sA (w : World) (os : OsState) : Shared := ⟨hA w.params, #[], {}, 187, os⟩
noncomputable def thA : Thread := ⟨denote treeTable cE, cE, q0, [topFrame q0]⟩
noncomputable def runAll (w : World) (os : OsState) := segRunT treeTable Pg w 11 anB 1 3044 (sB w os) (piecesOf (behindTheImports Pg) eB cE q0 [topFrame q0])
noncomputable def force {α β : Type} (l : List α) (k : List α → β) : β := @List.rec α (fun _ => (List α → β) → β) (fun k => k []) (fun x _ ih k => ih (fun ys => k (x :: ys))) l k
theorem force_eq {α β : Type} (l : List α) (k : List α → β) : force l k = k l := by
  induction l generalizing k with
  | nil => rfl
  | cons x xs ih => exact ih (fun ys => k (x :: ys))
noncomputable def forceT {β : Type} (s : SharedT) (k : Shared → β) : β := force (s.tree.list s.n) (fun l => k ⟨⟨l.toArray, s.life⟩, s.gens, s.drawn, s.toks, s.os⟩)
theorem forceT_eq {β : Type} (s : SharedT) (k : Shared → β) : forceT s k = k s.abs := force_eq _ _
noncomputable abbrev lookA (P : Params) (s : Shared) : Bool := staticsOk mods (boot_heap P) s.heap && namesBound Pg s.heap && gensDone s && laidKept (boot_heap P) s.heap
theorem hd_pre : ∀ w : World, (fun os => topGo treeTable Pg w 11 anB 12 ⟨boot_heap w.params, #[], boot_drawn, boot_toks, os⟩ (topStub Pg)) = fun os => some (sA w os, thA) := by
  intro w; kernel_rfl
theorem hd_block : ∀ w : World, (fun os => segRun treeTable Pg w 11 anB 1 1 (sA w os) (blockOf (behindTheImports Pg) eB cE q0 [topFrame q0])) = fun os => some (.next, (sB w os).abs, cE, q0) := by
  intro w; kernel_rfl
theorem hd_fin (w : World) (s : Shared) (pos : Pos) : topRun treeTable Pg w 11 anB 2 s ⟨doneF .next, cE, pos, [topFrame q0]⟩ = some s := by
  kernel_rfl
theorem hd_one : ∀ w : World, (fun os => (runAll w os).map (fun r => forceT r.2.1 (fun s => (r.1, r.2.2.1, lookA w.params s, hk.obs s)))) = fun os => some (Flow.next, cE, true, hk.val w) := by
  intro w; kernel_rfl
theorem hd_two : ∀ w : World, (fun os => (runAll w os).map (fun r => forceT r.2.1 (fun s => openSeen vw ls mods Xt0 true s))) = fun os => some (openGood vw ls) := by
  intro w; kernel_rfl
theorem hd_run (w : World) (os : OsState) : ∃ s1, topRun treeTable Pg w 11 anB (12 + (1 + (3044 + 2))) ⟨boot_heap w.params, #[], boot_drawn, boot_toks, os⟩ (topStub Pg) = some s1 ∧
    lookA w.params s1 = true ∧ openSeen vw ls mods Xt0 true s1 = openGood vw ls ∧ hk.obs s1 = hk.val w := by
  obtain ⟨r, hr, e⟩ := Option.map_eq_some_iff.mp (congrFun (hd_one w) os)
  obtain ⟨r', hr', e'⟩ := Option.map_eq_some_iff.mp (congrFun (hd_two w) os)
  obtain rfl : r = r' := Option.some.inj (hr.symm.trans hr')
  rw [forceT_eq] at e e'
  obtain ⟨f, s, c, pos⟩ := r
  obtain ⟨e1, e2, e3, e4⟩ : f = Flow.next ∧ c = cE ∧ lookA w.params s.abs = true ∧ hk.obs s.abs = hk.val w := by
    simpa only [Prod.mk.injEq] using e
  subst e1
  subst e2
  refine ⟨s.abs, ?_, e3, e', e4⟩
  have k := piece_app (rest := []) (segRun_of hr) (piece_nil (hd_fin w s.abs pos))
  rw [List.append_nil] at k
  exact go_top (congrFun (hd_pre w) os) (piece_block (congrFun (hd_block w) os) k)
theorem hd_open : ∀ w : World, (fencedOpening treeTable Pg w 6014).map (fun s => (s.heap, s.gens, s.drawn, s.toks)) = some (boot_heap w.params, #[], boot_drawn, boot_toks) :=
  boot_open (by kernel_rfl) (by decide) (fun s => by kernel_rfl)
theorem hd_size (P : Params) : ((boot_heap P).isNs mainGlobals, (boot_heap P).objs.size, (boot_heap P).nsMap mainGlobals "__annotations__") = (true, 11, anB) := by
  kernel_rfl
theorem hd_left : LeftO Pg vw ls Xt0 hk.obs hk.val 6014 := fun w => by
  obtain ⟨⟨h, gs, d, k, os⟩, e, e'⟩ := Option.map_eq_some_iff.mp (hd_open w)
  simp only [Prod.mk.injEq] at e'
  obtain ⟨e1, e2, e3, e4⟩ := e'
  obtain ⟨s1, r, a, b, c⟩ := hd_run w os
  have sz := hd_size w.params
  simp only [Prod.mk.injEq] at sz
  have t : topFrom treeTable Pg w 6014 ⟨h, gs, d, k, os⟩ = some s1 := by
    subst e1
    subst e2
    subst e3
    subst e4
    unfold topFrom
    dsimp only
    rw [sz.1, sz.2.1, sz.2.2]
    show (Option.bind (topRun treeTable Pg w 11 anB 6014 _ (topStub Pg)) _) = _
    rw [show (6014 : Nat) = 12 + (1 + (3044 + 2)) + 2955 from rfl, topRun_mono 2955 _ _ _ _ r]
    show (match lookA w.params s1 with | true => some s1 | false => none) = _
    rw [a]
  show (Option.map _ (Option.bind (fencedOpening treeTable Pg w 6014) _)) = _
  rw [e]
  show (Option.map _ (topFrom treeTable Pg w 6014 ⟨h, gs, d, k, os⟩)) = _
  rw [t]
  exact congrArg some (Prod.ext b c)
end
end Mine
end
section
open PySem PySem.W PyProof.Rows
set_option maxRecDepth 100000
set_option maxHeartbeats 0
namespace Mine
theorem hd_ok : (chainsOk vw && opensWell PySem.Challenge.rw_xm0956_01.row.prog && (frees PySem.Challenge.rw_xm0956_01.row.toRowW && PySem.Challenge.rw_xm0956_01.row.within.isEmpty)) = true := by decide +kernel
theorem hd_bare : PySem.Challenge.rw_xm0956_01.row.prog.bare := ⟨rfl, rfl, rfl, rfl, rfl, by decide +kernel⟩
theorem hd_said : (PySem.Challenge.rw_xm0956_01 : OpenLaw).wellSaid = true := by decide +kernel
theorem hd_well : PySem.Challenge.rw_xm0956_01.row.wellSaid = true → PySem.Challenge.rw_xm0956_01.row.wellSaid = true := fun h => h
end Mine
end
section
open PySem PySem.Spec PySem.Calls PySem.W PyProof.Rows
namespace Mine
noncomputable abbrev Led := List (Addr × Obj)
noncomputable abbrev tup (vs : Array Value) (n : Nat) : Obj := { cls := .type "tuple", data := .seq vs n }

noncomputable def Does (prog : Program) (w : World) (K : Frag) (p : Program) (loose : List Str) (mean : ExcName → Option Value) (mg mb : Str → Option Value) (f : Addr) (dp0 un0 : Nat) (vs : List Value) (news : Led) (Post : Value → Led → Prop) : Prop :=
  ∀ (dp un : Nat) (gd : Option (List Code)) (cn : Str) (cs : Scope) (a : Addr) (ccd : Value) (cl : List (Str × Addr)) (outer : List Env) (A₀ : Around) (base h₀ : Heap) (L : Addr) (m : Str → Option Value) (s : Shared) (Q E : Value → Shared → Prop),
    Below A₀ base outer h₀ → Fr h₀ L s.heap m → K.In h₀ → News h₀ L s.heap news → Top p loose mean mg mb h₀ → cs.kind = .function → dp + dp0 < recursionLimit → un + un0 < cLine →
    (∀ r news' h' tk', Fr h₀ L h' m → News h₀ L h' news' → Post r news' → Q r { s with heap := h', toks := tk' }) →
    wpAny (model prog w) (ktrTop dp un gd cn cs L a ccd cl outer) (call (.ref f) vs) Q E s

theorem News.sub {h₀ h : Heap} {L : Addr} {l l' : Led} (N : News h₀ L h l) (h1 : ∀ q ∈ l', q ∈ l) : News h₀ L h l' := fun p hp => N p (h1 p hp)

theorem Does.use {prog : Program} {w : World} {K : Frag} {p : Program} {loose : List Str} {mean : ExcName → Option Value} {mg mb : Str → Option Value} {f : Addr} {dp0 un0 : Nat} {vs : List Value} {led news : Led} {Post : Value → Led → Prop}
    {dp un : Nat} {gd : Option (List Code)} {cn : Str} {cs : Scope} {a : Addr} {ccd : Value} {cl : List (Str × Addr)} {outer : List Env} {A₀ : Around} {base h₀ : Heap} {L : Addr} {m : Str → Option Value} {s : Shared} {Q E : Value → Shared → Prop}
    (C : Does prog w K p loose mean mg mb f dp0 un0 vs led Post)
    (B : Below A₀ base outer h₀) (F : Fr h₀ L s.heap m) (X : K.In h₀) (N : News h₀ L s.heap news) (T : Top p loose mean mg mb h₀) (hk : cs.kind = .function) (hsub : ∀ q ∈ led, q ∈ news) (hd : dp + dp0 < recursionLimit) (hu : un + un0 < cLine)
    (ret : ∀ r news' h' tk', Fr h₀ L h' m → News h₀ L h' news' → Post r news' → Q r { s with heap := h', toks := tk' }) :
    wpAny (model prog w) (ktrTop dp un gd cn cs L a ccd cl outer) (call (.ref f) vs) Q E s :=
  C dp un gd cn cs a ccd cl outer A₀ base h₀ L m s Q E B F X (News.sub N hsub) T hk hd hu ret

noncomputable def Off (d : Addr) (l : Led) : Prop := ∀ p ∈ l, p.1 ≠ d
theorem Off.nil {d : Addr} : Off d [] := fun _ h => nomatch h
theorem Off.cons {d a : Addr} {o : Obj} {l : Led} (h : a ≠ d) (H : Off d l) : Off d ((a, o) :: l) := fun p hp => by
  rcases List.mem_cons.mp hp with rfl | hp
  · exact h
  · exact H p hp

inductive Dv
  | s (x : Str)
  | i (n : Int)
inductive DvIs : Value → Dv → Prop
  | s {x : Str} {t : Tok} : DvIs (.str x t) (.s x)
  | i {n : Int} {t : Tok} : DvIs (.int n t) (.i n)

inductive NameIn (im : Led) : Value → Str → Prop
  | mk {x dx : Addr} {h1 h2 h3 : Int} {t1 t2 t3 t4 tn : Tok} {nm : Str} : (x, instObj 145 dx) ∈ im →
      (dx, dictOf [⟨h1, .str (Str.ofString "kind") t1, .str (Str.ofString "var") t4⟩, ⟨h2, .str (Str.ofString "owner") t2, .none⟩, ⟨h3, .str (Str.ofString "key") t3, .str nm tn⟩] 3) ∈ im → nm.length ≤ 1000 → NameIn im (.ref x) nm

structure HS where
  vals : List (Str × Dv)
  log : List (Str × Dv)
  steps : Nat

inductive ValsIs : List (Str × Value) → List (Str × Dv) → Prop
  | nil : ValsIs [] []
  | cons {k : Str} {v : Value} {d : Dv} {l : List (Str × Value)} {r : List (Str × Dv)} : DvIs v d → ValsIs l r → ValsIs ((k, v) :: l) ((k, d) :: r)

inductive LogIn (im : Led) : List Value → List (Str × Dv) → Prop
  | nil : LogIn im [] []
  | cons {a : Addr} {k : Str} {t : Tok} {v : Value} {d : Dv} {n : Nat} {l : List Value} {r : List (Str × Dv)} : (a, tup #[.str k t, v] n) ∈ im → DvIs v d → LogIn im l r → LogIn im (.ref a :: l) ((k, d) :: r)

inductive HostIn (prog : Program) (w : World) (im : Led) (x hx vd lg : Addr) : Led → HS → Prop
  | mk {rf : Addr} {o : Obj} {kvs : List (Str × Value)} {its : List Value} {n : Nat} {h1 h2 h3 h4 h5 h6 : Int} {t1 t2 t3 t4 t5 t6 u2 u4 u5 : Tok} {vals log : List (Str × Dv)} {steps : Nat} :
      (x, instObj 236 hx) ∈ im → (rf, listOf #[] 0) ∈ im → o.IsDictOf (PySem.strKind prog w) kvs → ValsIs kvs vals → LogIn im its log →
      hx ≠ vd → hx ≠ lg → vd ≠ lg → vd ≠ hx → lg ≠ hx → lg ≠ vd → Off hx im → Off vd im → Off lg im → (vd == sysModules) = false → vals.length ≤ log.length →
      HostIn prog w im x hx vd lg [(hx, dictOf [⟨h1, .str (Str.ofString "values") t1, .ref vd⟩, ⟨h2, .str (Str.ofString "limit") t2, .int 9999 u2⟩, ⟨h3, .str (Str.ofString "refused") t3, .ref rf⟩, ⟨h4, .str (Str.ofString "width") t4, .int 64 u4⟩, ⟨h5, .str (Str.ofString "steps") t5, .int (steps : Int) u5⟩, ⟨h6, .str (Str.ofString "log") t6, .ref lg⟩] 6), (vd, o), (lg, listOf its.toArray n)]
        ⟨vals, log, steps⟩
theorem in_empty {prog : Program} {w : World} {A : Around} {E : Value → Shared → Prop} {s : Shared} {h₀ : Heap} {L l : Addr} {news : Led} {k : Str} {t : Tok} {Q : Value → Shared → Prop} {n : Nat} (N : News h₀ L s.heap news) (hm : (l, listOf #[] n) ∈ news) (h : Q (.bool false) s) :
    wpAny (model prog w) A (compareOp .In (.str k t) (.ref l)) Q E s := in_list_strs (vs := []) (News.isList N hm) .nil h
theorem ValsIs.length {l : List (Str × Value)} {r : List (Str × Dv)} (h : ValsIs l r) : l.length = r.length := by
  induction h with
  | nil => rfl
  | cons _ _ ih => rw [List.length_cons, List.length_cons, ih]
theorem LogIn.length {im : Led} {l : List Value} {r : List (Str × Dv)} (h : LogIn im l r) : l.length = r.length := by
  induction h with
  | nil => rfl
  | cons _ _ _ ih => rw [List.length_cons, List.length_cons, ih]

noncomputable def putv (l : List (Str × Dv)) (k : Str) (d : Dv) : List (Str × Dv) := if l.any (fun p => decide (p.1 = k)) then l.map (fun p => if p.1 = k then (p.1, d) else p) else l ++ [(k, d)]
theorem putv_len (l : List (Str × Dv)) (k : Str) (d : Dv) : (putv l k d).length ≤ l.length + 1 := by
  unfold putv; split
  · rw [List.length_map]; omega
  · rw [List.length_append]; simp
theorem ValsIs.snoc {l : List (Str × Value)} {r : List (Str × Dv)} {k : Str} {v : Value} {d : Dv} (h : ValsIs l r) (hv : DvIs v d) : ValsIs (l ++ [(k, v)]) (r ++ [(k, d)]) := by
  induction h with
  | nil => exact .cons hv .nil
  | cons a _ ih => exact .cons a ih
theorem ValsIs.any {l : List (Str × Value)} {r : List (Str × Dv)} (k : Str) (h : ValsIs l r) : (l.any fun p => decide (p.1 = k)) = r.any fun p => decide (p.1 = k) := by
  induction h with
  | nil => rfl
  | cons a _ ih => rw [List.any_cons, List.any_cons, ih]
theorem ValsIs.map {l : List (Str × Value)} {r : List (Str × Dv)} {k : Str} {v : Value} {d : Dv} (hv : DvIs v d) (h : ValsIs l r) :
    ValsIs (l.map fun p => if p.1 = k then (p.1, v) else p) (r.map fun p => if p.1 = k then (p.1, d) else p) := by
  induction h with
  | nil => exact .nil
  | @cons k' v' d' l r a _ ih =>
    rw [List.map_cons, List.map_cons]
    by_cases e : k' = k
    · simp only [e, if_true]; exact .cons hv ih
    · simp only [e, if_false]; exact .cons a ih
theorem ValsIs.stored {l : List (Str × Value)} {r : List (Str × Dv)} {k : Str} {v : Value} {d : Dv} (h : ValsIs l r) (hv : DvIs v d) : ValsIs (PySem.stored l k v) (putv r k d) := by
  unfold PySem.stored putv
  rw [h.any]
  split
  · exact h.map hv
  · exact h.snoc hv
theorem LogIn.mono {im im' : Led} {l : List Value} {r : List (Str × Dv)} (h : LogIn im l r) (hs : ∀ q ∈ im, q ∈ im') : LogIn im' l r := by
  induction h with
  | nil => exact .nil
  | cons a b _ ih => exact .cons (hs _ a) b ih
theorem LogIn.snoc {im : Led} {l : List Value} {r : List (Str × Dv)} {a : Addr} {k : Str} {t : Tok} {v : Value} {d : Dv} {n : Nat} (h : LogIn im l r) (hm : (a, tup #[.str k t, v] n) ∈ im) (hv : DvIs v d) : LogIn im (l ++ [.ref a]) (r ++ [(k, d)]) := by
  induction h with
  | nil => exact .cons hm hv .nil
  | cons a b _ ih => exact .cons a b ih
theorem NameIn.mono {im im' : Led} {v : Value} {nm : Str} (h : NameIn im v nm) (hs : ∀ q ∈ im, q ∈ im') : NameIn im' v nm := by
  cases h with
  | mk a b c => exact .mk (hs _ a) (hs _ b) c
theorem mem_31 {a b c d : Addr × Obj} {im fr : Led} : ∀ q ∈ [b, c, d] ++ ((a :: im) ++ fr), q ∈ a :: b :: c :: d :: (im ++ fr) := by
  intro q hq
  simp only [List.cons_append, List.nil_append, List.mem_cons, List.mem_append] at hq ⊢
  rcases hq with h | h | h | h | h | h <;> simp [h]
theorem Off.up {d a : Addr} {o : Obj} {l : Led} (h : d < a) (H : ∀ p ∈ l, p.1 ≠ d) : Off d ((a, o) :: l) := Off.cons (Nat.ne_of_gt h) H
noncomputable def Sep (fr im : Led) : Prop := ∀ f ∈ fr, ∀ q ∈ im, q.1 ≠ f.1
noncomputable def SepH (fr : Led) (hx vd lg : Addr) : Prop := ∀ f ∈ fr, f.1 ≠ hx ∧ f.1 ≠ vd ∧ f.1 ≠ lg
theorem Sep.nil {im : Led} : Sep [] im := fun _ h => nomatch h
theorem SepH.nil {hx vd lg : Addr} : SepH [] hx vd lg := fun _ h => nomatch h
theorem allLt_mem {d : Addr} : ∀ {l : Led}, AllLt d l → ∀ p ∈ l, p.1 < d
  | [], _, _, hp => nomatch hp
  | q :: r, h, p, hp => by
    rcases List.mem_cons.mp hp with rfl | hp
    · exact h.1
    · exact allLt_mem h.2 p hp
theorem allLt_app {d : Addr} {l l' : Led} (h : AllLt d (l ++ l')) : AllLt d l' := allLt_of fun p hp => allLt_mem h p (List.mem_append_right _ hp)
theorem Sep.up {fr im : Led} {a : Addr} {o : Obj} (h : AllLt a fr) (H : Sep fr im) : Sep fr ((a, o) :: im) := fun f hf q hq => by
  rcases List.mem_cons.mp hq with rfl | hq
  · exact Nat.ne_of_gt (allLt_mem h f hf)
  · exact H f hf q hq
theorem off_app {d : Addr} {im fr : Led} (h : ∀ p ∈ im, p.1 ≠ d) (h' : ∀ p ∈ fr, p.1 ≠ d) : ∀ p ∈ im ++ fr, p.1 ≠ d := fun p hp => (List.mem_append.mp hp).elim (h p) (h' p)
noncomputable def HS.assign (H : HS) (nm : Str) (d : Dv) : HS := ⟨putv H.vals nm d, H.log ++ [(nm, d)], H.steps⟩
noncomputable def HS.step (H : HS) : HS := ⟨H.vals, H.log, H.steps + 1⟩
end Mine
end
section
open PySem PySem.Spec PySem.Calls PySem.W PyProof.Rows
namespace Mine
inductive Nd
  | chars (x : Str)
  | rtab (k : Nat)
  | rem
  | cat (a b : Nd)
  | now (a : Nd) (nm : Str)

inductive NodeIn (im : Led) : Value → Nd → Prop
  | chars {a : Addr} {x : Str} {t t' : Tok} {n : Nat} : (a, tup #[.str (Str.ofString "chars") t, .str x t'] n) ∈ im → x.length ≤ 1000 → NodeIn im (.ref a) (.chars x)
  | rtab {a : Addr} {k : Nat} {t t' : Tok} {n : Nat} : (a, tup #[.str (Str.ofString "rtab") t, .int (k : Int) t'] n) ∈ im → k ≤ 1000 → NodeIn im (.ref a) (.rtab k)
  | rem {a : Addr} {t : Tok} {n : Nat} : (a, tup #[.str (Str.ofString "rem") t] n) ∈ im → NodeIn im (.ref a) .rem
  | cat {a : Addr} {t : Tok} {n : Nat} {u v : Value} {x y : Nd} : (a, tup #[.str (Str.ofString "cat") t, u, v] n) ∈ im → NodeIn im u x → NodeIn im v y → NodeIn im (.ref a) (.cat x y)
  | now {a : Addr} {t : Tok} {n : Nat} {u v : Value} {x : Nd} {nm : Str} : (a, tup #[.str (Str.ofString "now") t, u, v] n) ∈ im → NodeIn im u x → NameIn im v nm → NodeIn im (.ref a) (.now x nm)
theorem NodeIn.mono {im im' : Led} {v : Value} {nd : Nd} (h : NodeIn im v nd) (hs : ∀ q ∈ im, q ∈ im') : NodeIn im' v nd := by
  induction h with
  | chars a b => exact .chars (hs _ a) b
  | rtab a b => exact .rtab (hs _ a) b
  | rem a => exact .rem (hs _ a)
  | cat a _ _ i j => exact .cat (hs _ a) i j
  | now a _ c i => exact .now (hs _ a) i (c.mono hs)

inductive It
  | nd (x : Nd)
  | endNow (nm : Str) (b : Nat)
inductive ItIn (im : Led) : Value → It → Prop
  | nd {v : Value} {x : Nd} : NodeIn im v x → ItIn im v (.nd x)
  | endNow {a : Addr} {t t' : Tok} {n : Nat} {v : Value} {nm : Str} {b : Nat} : (a, tup #[.str (Str.ofString "end now") t, v, .int (b : Int) t'] n) ∈ im → NameIn im v nm → b ≤ 1000 → ItIn im (.ref a) (.endNow nm b)
theorem ItIn.mono {im im' : Led} {v : Value} {i : It} (h : ItIn im v i) (hs : ∀ q ∈ im, q ∈ im') : ItIn im' v i := by
  cases h with
  | nd a => exact .nd (a.mono hs)
  | endNow a b c => exact .endNow (hs _ a) (b.mono hs) c
inductive ChainIn (im : Led) : Value → List It → Prop
  | nil : ChainIn im .none []
  | cons {a : Addr} {n : Nat} {u v : Value} {i : It} {r : List It} : (a, tup #[u, v] n) ∈ im → ItIn im u i → ChainIn im v r → ChainIn im (.ref a) (i :: r)
theorem ChainIn.mono {im im' : Led} {v : Value} {l : List It} (h : ChainIn im v l) (hs : ∀ q ∈ im, q ∈ im') : ChainIn im' v l := by
  induction h with
  | nil => exact .nil
  | cons a b _ ih => exact .cons (hs _ a) (b.mono hs) ih
inductive NilIn (im : Led) : Value → Prop
  | mk {a : Addr} {n : Nat} : (a, tup #[] n) ∈ im → NilIn im (.ref a)
theorem NilIn.mono {im im' : Led} {v : Value} (h : NilIn im v) (hs : ∀ q ∈ im, q ∈ im') : NilIn im' v := by
  cases h with
  | mk a => exact .mk (hs _ a)
inductive WayIn (im : Led) : Value → List It × Nat → Prop
  | mk {a : Addr} {n : Nat} {u v : Value} {k : Nat} {t : Tok} {r : List It} : (a, tup #[u, .int (k : Int) t, v] n) ∈ im → ChainIn im u r → NilIn im v → WayIn im (.ref a) (r, k)
theorem WayIn.mono {im im' : Led} {v : Value} {i : List It × Nat} (h : WayIn im v i) (hs : ∀ q ∈ im, q ∈ im') : WayIn im' v i := by
  cases h with
  | mk a b c => exact .mk (hs _ a) (b.mono hs) (c.mono hs)
inductive PileIn (im : Led) : List Value → List (List It × Nat) → Prop
  | nil : PileIn im [] []
  | snoc {l : List Value} {v : Value} {i : List It × Nat} {r : List (List It × Nat)} : WayIn im v i → PileIn im l r → PileIn im (l ++ [v]) (i :: r)
theorem PileIn.mono {im im' : Led} {v : List Value} {i : List (List It × Nat)} (h : PileIn im v i) (hs : ∀ q ∈ im, q ∈ im') : PileIn im' v i := by
  induction h with
  | nil => exact .nil
  | snoc a _ ih => exact .snoc (a.mono hs) ih
theorem PileIn.length {im : Led} {v : List Value} {i : List (List It × Nat)} (h : PileIn im v i) : v.length = i.length := by
  induction h with
  | nil => rfl
  | snoc a _ ih => rw [List.length_append, ih]; rfl
inductive WayOut (im : Led) : Value → Option (List It × Nat) → Prop
  | none : WayOut im .none .none
  | some {v : Value} {i : List It × Nat} : WayIn im v i → WayOut im v (.some i)
theorem HostIn.grow {prog : Program} {w : World} {im im0 mu : Led} {x hx vd lg q : Addr} {o : Obj} {H : HS} (h : HostIn prog w im x hx vd lg mu H) (hl : AllLt q (mu ++ im0)) : HostIn prog w ((q, o) :: im) x hx vd lg mu H := by
  cases h with
  | mk hx_ rf_ vd_ vals_ log_ n1 n2 n3 n4 n5 n6 o1 o2 o3 lo vz =>
    obtain ⟨a, b, c, _⟩ := hl
    exact .mk (.tail _ hx_) (.tail _ rf_) vd_ vals_ (log_.mono fun q hq => .tail _ hq) n1 n2 n3 n4 n5 n6 (Off.up a o1) (Off.up b o2) (Off.up c o3) lo vz
noncomputable def OverP (d : Addr) (l : Led) : Led → Prop
  | [] => True
  | p :: r => d < p.1 ∧ AllLt p.1 l ∧ OverP d l r
theorem HostIn.grows {prog : Program} {w : World} {im im0 mu : Led} {x hx vd lg d : Addr} {H : HS} (h : HostIn prog w im x hx vd lg mu H) : ∀ {e : Led}, OverP d (mu ++ im0) e → HostIn prog w (e ++ im) x hx vd lg mu H
  | [], _ => h
  | (_, _) :: _, ⟨_, b, c⟩ => (HostIn.grows h c).grow b
noncomputable def AdvPost (prog : Program) (w : World) (im fr : Led) (x hx vd lg pl : Addr) (o : Option (List It × Nat)) (pile' : List (List It × Nat)) (H' : HS) (r : Value) (news' : Led) : Prop :=
  ∃ mu' im' its' n', (∀ q ∈ (pl, listOf its'.toArray n') :: (mu' ++ (im' ++ fr)), q ∈ news') ∧ (∀ q ∈ im, q ∈ im') ∧ Off pl im' ∧ Sep fr im' ∧ PileIn im' its' pile' ∧ HostIn prog w im' x hx vd lg mu' H' ∧ WayOut im' r o
theorem OverP.off {d : Addr} {l im : Led} (ho : Off d im) : ∀ {e : Led}, OverP d l e → Off d (e ++ im)
  | [], _ => ho
  | (_, _) :: _, ⟨a, _, c⟩ => Off.cons (Nat.ne_of_gt a) (OverP.off ho c)
theorem OverP.sep {d : Addr} {mu im im0 fr : Led} (ho : Sep fr im) : ∀ {e : Led}, OverP d (mu ++ (im0 ++ fr)) e → Sep fr (e ++ im)
  | [], _ => ho
  | (_, _) :: _, ⟨_, b, c⟩ => (OverP.sep ho c).up (allLt_app (allLt_app b))
theorem mem_shuffle {a : Addr × Obj} {mu im fr e : Led} : ∀ q ∈ a :: (mu ++ ((e ++ im) ++ fr)), q ∈ e ++ (a :: (mu ++ (im ++ fr))) := by
  intro q hq
  simp only [List.mem_cons, List.mem_append] at hq ⊢
  rcases hq with h | h | (h | h) | h <;> simp [h]
theorem advEnd {prog : Program} {w : World} {im mu fr e : Led} {x hx vd lg pl : Addr} {o : Option (List It × Nat)} {pile' : List (List It × Nat)} {H : HS} {r : Value} {its' : List Value} {n' : Nat}
    (hh : HostIn prog w im x hx vd lg mu H) (ho : Off pl im) (hs : Sep fr im) (hE : OverP pl (mu ++ (im ++ fr)) e) (hp : PileIn (e ++ im) its' pile') (hw : WayOut (e ++ im) r o) :
    AdvPost prog w im fr x hx vd lg pl o pile' H r (e ++ ((pl, listOf its'.toArray n') :: (mu ++ (im ++ fr)))) :=
  ⟨mu, e ++ im, its', n', mem_shuffle, fun _ hq => List.mem_append_right _ hq, hE.off ho, hE.sep hs, hp, hh.grows hE, hw⟩
theorem HostIn.offs {prog : Program} {w : World} {im mu fr : Led} {x hx vd lg pl : Addr} {H : HS} (hh : HostIn prog w im x hx vd lg mu H) (ho : Off pl im) (hf : Off pl fr) (h1 : pl ≠ hx ∧ pl ≠ vd ∧ pl ≠ lg) : ∀ q ∈ mu ++ (im ++ fr), q.1 ≠ pl := by
  cases hh with
  | mk hx_ rf_ vd_ vals_ log_ n1 n2 n3 n4 n5 n6 o1 o2 o3 lo vz =>
    refine off_app (fun p hp => ?_) (off_app ho hf)
    simp only [List.mem_cons, List.not_mem_nil, or_false] at hp
    rcases hp with rfl | rfl | rfl
    · exact fun e => h1.1 e.symm
    · exact fun e => h1.2.1 e.symm
    · exact fun e => h1.2.2 e.symm
section
variable {prog prog' : Program} {w w' : World} {A : Around} {E : Value → Shared → Prop} {s : Shared} {K : Frag} {h₀ : Heap} {L x hx vd lg : Addr} {m : Str → Option Value} {news mu im : Led} {H : HS} {pl : Sem Bool} {f : Addr} {name : Str}
theorem hostM {Q : Value × List Value → Shared → Prop} (hh : HostIn prog' w' im x hx vd lg mu H) (F : Fr h₀ L s.heap m) (X₀ : K.In h₀) (N : News h₀ L s.heap news) (hsub : ∀ q ∈ mu ++ im, q ∈ news) (hg : plainGet K 236 name = true)
    (hf : findIn K (.ref 236) name = some (some (.ref f))) (ht : isFn K (.ref f) = true)
    (hl : ∀ (h1 h2 h3 h4 h5 h6 : Int) (t1 t2 t3 t4 t5 t6 : Tok) (v1 v2 v3 v4 v5 v6 : Value), getL name [⟨h1, .str (Str.ofString "values") t1, v1⟩, ⟨h2, .str (Str.ofString "limit") t2, v2⟩, ⟨h3, .str (Str.ofString "refused") t3, v3⟩, ⟨h4, .str (Str.ofString "width") t4, v4⟩, ⟨h5, .str (Str.ofString "steps") t5, v5⟩, ⟨h6, .str (Str.ofString "log") t6, v6⟩] = some none)
    (h : Q (.ref f, [.ref x]) s) : wpAny (model prog w) A (getMethod (.ref x) name pl) Q E s := by
  cases hh with
  | mk hx_ rf_ vd_ vals_ log_ n1 n2 n3 n4 n5 n6 o1 o2 o3 lo vz =>
    exact method_inst F X₀ (InstAt.of_news N (hsub _ (List.mem_append_right _ hx_)) (hsub _ (List.mem_append_left _ (.head _)))) hg hf ht (hl _ _ _ _ _ _ _ _ _ _ _ _ _ _ _ _ _ _) h
theorem notin_Kt {Q : Value → Shared → Prop} {a n : Nat} {y : Str} {u : Tok} {od : Option Addr} {sl : Array (Option Value)} {items : Array Value} {ys : List Str} {b : Bool} (F : Fr h₀ L s.heap m) (X₀ : K.In h₀) (e : K.lookup a = some ⟨.type "tuple", od, .seq items n, sl⟩) (hi : StrsAre items.toList ys) (hb : (ys.any (· == y)) = b)
    (h : Q (.bool (!b)) s) : wpAny (model prog w) A (compareOp .NotIn (.str y u) (.ref a)) Q E s := notin_tuple_strs ⟨_, F.keep _ _ (X₀ _ _ e), rfl, _, rfl⟩ hi (by rw [hb]; exact h)
theorem in_Kt {Q : Value → Shared → Prop} {a n : Nat} {y : Str} {u : Tok} {od : Option Addr} {sl : Array (Option Value)} {items : Array Value} {ys : List Str} {b : Bool} (F : Fr h₀ L s.heap m) (X₀ : K.In h₀) (e : K.lookup a = some ⟨.type "tuple", od, .seq items n, sl⟩) (hi : StrsAre items.toList ys) (hb : (ys.any (· == y)) = b)
    (h : Q (.bool b) s) : wpAny (model prog w) A (compareOp .In (.str y u) (.ref a)) Q E s := in_tuple_strs ⟨_, F.keep _ _ (X₀ _ _ e), rfl, _, rfl⟩ hi (by rw [hb]; exact h)
theorem in_tup_drop {Q : Value → Shared → Prop} {a n : Nat} {y : Str} {u : Tok} {items : Array Value} {ys : List Str} {b : Bool} (N : News h₀ L s.heap ((a, { cls := .type "tuple", data := .seq items n }) :: news)) (hi : StrsAre items.toList ys) (hb : (ys.any (· == y)) = b)
    (h : News h₀ L s.heap news → Q (.bool b) s) : wpAny (model prog w) A (compareOp .In (.str y u) (.ref a)) Q E s := in_tuple_strs (News.isTup N (.head _)) hi (by rw [hb]; exact h (News.sub N fun q hq => .tail _ hq))
theorem tup_i0 {value slice : PySem.Expr} {t : Addr} {r : List Value} {u : Tok} {x : Value} {Q : Value → Shared → Prop} (ht : IsTup s.heap t (x :: r).toArray) (h : Q x s)
    (hs : subscripted slice false (.ref t) (.int 0 u) = operate [.ref t, .int 0 u] (getItem (.ref t) (.int 0 u))) (hg : ∀ r, letTemporaryGo value (.ref t) r = pure ()) :
    wpAny (model prog w) A (subscriptTail value slice (.ref t) (.int 0 u)) Q E s :=
  item_tupleL ht (by decide) (by decide) (j := 0) (by simp [seqIndex?]) rfl h hs hg
theorem tup_i1 {value slice : PySem.Expr} {t : Addr} {r : List Value} {u : Tok} {x y : Value} {Q : Value → Shared → Prop} (ht : IsTup s.heap t (y :: x :: r).toArray) (h : Q x s)
    (hs : subscripted slice false (.ref t) (.int 1 u) = operate [.ref t, .int 1 u] (getItem (.ref t) (.int 1 u))) (hg : ∀ r, letTemporaryGo value (.ref t) r = pure ()) :
    wpAny (model prog w) A (subscriptTail value slice (.ref t) (.int 1 u)) Q E s :=
  item_tupleL ht (by decide) (by decide) (j := 1) (by simp [seqIndex?]; omega) rfl h hs hg
theorem tup_i2 {value slice : PySem.Expr} {t : Addr} {r : List Value} {u : Tok} {x y z : Value} {Q : Value → Shared → Prop} (ht : IsTup s.heap t (y :: z :: x :: r).toArray) (h : Q x s)
    (hs : subscripted slice false (.ref t) (.int 2 u) = operate [.ref t, .int 2 u] (getItem (.ref t) (.int 2 u))) (hg : ∀ r, letTemporaryGo value (.ref t) r = pure ()) :
    wpAny (model prog w) A (subscriptTail value slice (.ref t) (.int 2 u)) Q E s :=
  item_tupleL ht (by decide) (by decide) (j := 2) (by simp [seqIndex?]; omega) rfl h hs hg
end
noncomputable def valD (l : List (Str × Dv)) (k : Str) : Option Dv := (l.find? fun p => decide (p.1 = k)).map (·.2)
noncomputable def endOf (nd : Nd) (sub : Str) (k : Nat) (H : HS) : Option Nat := match nd with
  | .chars x => if Txt.slice sub (some (k : Int)) (some ((k : Int) + (x.length : Nat))) == x then some (k + x.length) else none
  | .rtab n => if k + n ≤ sub.length then some (sub.length - n) else none
  | .rem => some sub.length
  | _ => none
noncomputable def adv (i : It) (rest : List It) (k : Nat) (sub : Str) (pile : List (List It × Nat)) (H : HS) : Option (List It × Nat) × List (List It × Nat) × HS := match i with
  | .endNow nm b => (some (rest, k), pile, H.assign nm (.s (Txt.slice sub (some (b : Int)) (some (k : Int)))))
  | .nd x => match x with
    | .cat a b => (some (.nd a :: .nd b :: rest, k), pile, H)
    | .now a nm => (some (.nd a :: .endNow nm k :: rest, k), pile, H)
    | x => ((endOf x sub k H).map fun e => (rest, e), pile, H)
theorem wayOut_yes {im : Led} {nd : Nd} {sub : Str} {k : Nat} {H : HS} {a : Addr} {u v : Value} {E : Int} {t : Tok} {n : Nat} {rest : List It} (hm : (a, tup #[u, .int E t, v] n) ∈ im) (hu : ChainIn im u rest) (hv : NilIn im v) (he : ∃ e : Nat, endOf nd sub k H = some e ∧ E = (e : Int)) :
    WayOut im (.ref a) ((endOf nd sub k H).map fun e => (rest, e)) := by
  obtain ⟨e, h1, rfl⟩ := he
  rw [h1]
  exact .some (.mk hm hu hv)
theorem wayOut_no {im : Led} {nd : Nd} {sub : Str} {k : Nat} {H : HS} {rest : List It} (he : endOf nd sub k H = Option.none) : WayOut im .none ((endOf nd sub k H).map fun e => (rest, e)) := by
  rw [he]
  exact .none
theorem advEnd2 {prog : Program} {w : World} {im im' mu' fr : Led} {x hx vd lg pl D : Addr} {pile : List (List It × Nat)} {H' : HS} {its : List Value} {n n' : Nat} {rv nv : Value} {rest : List It} {k : Nat} {t : Tok}
    (hh : HostIn prog w im' x hx vd lg mu' H') (hsub : ∀ q ∈ im, q ∈ im') (hs : Sep ((pl, listOf its.toArray n') :: fr) im') (hE : AllLt D (mu' ++ (im' ++ ((pl, listOf its.toArray n') :: fr)))) (hp : PileIn im its pile) (hr : ChainIn im rv rest) (hnv : NilIn im nv) :
    AdvPost prog w im fr x hx vd lg pl (some (rest, k)) pile H' (.ref D) ((D, tup #[rv, .int (k : Int) t, nv] n) :: (mu' ++ (im' ++ ((pl, listOf its.toArray n') :: fr)))) := by
  have hD : pl < D := (allLt_app (allLt_app hE)).1
  refine ⟨mu', (D, tup #[rv, .int (k : Int) t, nv] n) :: im', its, n', ?_, fun q hq => .tail _ (hsub q hq), Off.up hD (hs _ (.head _)), ?_, hp.mono fun q hq => .tail _ (hsub q hq), hh.grow hE, .some (.mk (.head _) (hr.mono fun q hq => .tail _ (hsub q hq)) (hnv.mono fun q hq => .tail _ (hsub q hq)))⟩
  · intro q hq
    simp only [List.mem_cons, List.mem_append] at hq ⊢
    rcases hq with h | h | (h | h) | h <;> simp [h]
  · exact Sep.up (allLt_app (allLt_app hE)).2 fun f hf => hs f (.tail _ hf)
noncomputable def supp (i : It) (H : HS) : Bool := match i with
  | .endNow _ _ => true
  | .nd x => match x with
    | .cat _ _ => true
    | .now _ _ => true
    | .chars _ => true
    | .rtab _ => true
    | .rem => true
noncomputable def go (sub : Str) : Nat → Option (List It × Nat) → List (List It × Nat) → HS → Option (Option Nat × HS)
  | 0, _, _, _ => none
  | n + 1, c, pile, H => match c with
    | none => match pile with
      | [] => some (none, H)
      | p :: ps => if ps.length ≤ 2000 then go sub n (some p) ps H else none
    | some (ch, k) => match ch with
      | [] => some (some k, H)
      | i :: r => if supp i H = true ∧ k ≤ 1000 ∧ H.steps + 1 ≤ 9999 ∧ H.log.length ≤ 9999 ∧ pile.length ≤ 1000 then go sub n (adv i r k sub pile H.step).1 (adv i r k sub pile H.step).2.1 (adv i r k sub pile H.step).2.2 else none
inductive FoundOut (im : Led) : Value → Option Nat → Prop
  | none : FoundOut im .none .none
  | some {a l : Addr} {k n n' : Nat} {t : Tok} : (a, tup #[.int (k : Int) t, .ref l] n) ∈ im → (l, listOf #[] n') ∈ im → FoundOut im (.ref a) (.some k)
noncomputable def TriedPost (prog : Program) (w : World) (im fr : Led) (x hx vd lg : Addr) (res : Option Nat) (H' : HS) (r : Value) (news' : Led) : Prop :=
  ∃ mu' im', (∀ q ∈ mu' ++ (im' ++ fr), q ∈ news') ∧ (∀ q ∈ im, q ∈ im') ∧ Sep fr im' ∧ HostIn prog w im' x hx vd lg mu' H' ∧ FoundOut im' r res
noncomputable def Stop (P : Prop) : Prop := P
theorem stop_intro {P : Prop} (h : Stop P) : P := h
theorem Fr.known3 {h₀ h : Heap} {L : Addr} {m : Str → Option Value} {a b c : Str} {u v z : Value} (F : Fr h₀ L h m) (e1 : m a = some u) (e2 : m b = some v) (e3 : m c = some z) :
    Fr h₀ L h (fun y => if y = a then some u else if y = b then some v else if y = c then some z else m y) := by
  have : (fun y => if y = a then some u else if y = b then some v else if y = c then some z else m y) = m := by
    funext y
    show (if y = a then some u else if y = b then some v else if y = c then some z else m y) = m y
    split
    · next h => rw [h, e1]
    · split
      · next h => rw [h, e2]
      · split
        · next h => rw [h, e3]
        · rfl
  rw [this]; exact F
noncomputable def JO (prog : Program) (w : World) (im0 fr : Led) (x hx vd lg pl : Addr) (sub : Str) (t1 : Tok) (res : Option Nat) (H' : HS) (n : Nat) (m : Str → Option Value) (news : Led) : Prop :=
  ∃ mu im its c pile H, news = (pl, listOf its.toArray c) :: (mu ++ (im ++ fr)) ∧ (∀ q ∈ im0, q ∈ im) ∧ Off pl im ∧ Sep fr im ∧ PileIn im its pile ∧ HostIn prog w im x hx vd lg mu H ∧ go sub n none pile H = some (res, H') ∧
    m (Str.ofString "pile") = some (.ref pl) ∧ m (Str.ofString "subject") = some (.str sub t1) ∧ m (Str.ofString "host") = some (.ref x)
noncomputable def JI (N0 : Nat) (prog : Program) (w : World) (im0 fr : Led) (x hx vd lg pl : Addr) (sub : Str) (t1 : Tok) (res : Option Nat) (H' : HS) (n : Nat) (m : Str → Option Value) (news : Led) : Prop :=
  n ≤ N0 ∧ ∃ mu im its c pile H ch k cv nv t, news = (pl, listOf its.toArray c) :: (mu ++ (im ++ fr)) ∧ (∀ q ∈ im0, q ∈ im) ∧ Off pl im ∧ Sep fr im ∧ PileIn im its pile ∧ HostIn prog w im x hx vd lg mu H ∧ go sub n (some (ch, k)) pile H = some (res, H') ∧ ChainIn im cv ch ∧ NilIn im nv ∧
    m (Str.ofString "pile") = some (.ref pl) ∧ m (Str.ofString "subject") = some (.str sub t1) ∧ m (Str.ofString "host") = some (.ref x) ∧ m (Str.ofString "chain") = some cv ∧ m (Str.ofString "at") = some (.int (k : Int) t) ∧ m (Str.ofString "named") = some nv
theorem Sep.cons {fr im : Led} {a : Addr} {o : Obj} (h : Off a im) (H : Sep fr im) : Sep ((a, o) :: fr) im := fun f hf => by
  rcases List.mem_cons.mp hf with rfl | hf
  · exact h
  · exact H f hf
theorem SepH.cons {fr : Led} {a hx vd lg : Addr} {o : Obj} (h : a ≠ hx ∧ a ≠ vd ∧ a ≠ lg) (H : SepH fr hx vd lg) : SepH ((a, o) :: fr) hx vd lg := fun f hf => by
  rcases List.mem_cons.mp hf with rfl | hf
  · exact h
  · exact H f hf
theorem go_pop {sub : Str} {n : Nat} {p : List It × Nat} {ps : List (List It × Nat)} {H H' : HS} {res : Option Nat} (h : go sub n none (p :: ps) H = some (res, H')) : ∃ n', n = n' + 1 ∧ ps.length ≤ 2000 ∧ go sub n' (some p) ps H = some (res, H') := by
  cases n with
  | zero => cases h
  | succ n =>
    unfold go at h
    dsimp only at h
    split at h
    · next hz => exact ⟨n, rfl, hz, h⟩
    · cases h
theorem go_end {sub : Str} {n : Nat} {H H' : HS} {res : Option Nat} (h : go sub n none [] H = some (res, H')) : res = none ∧ H' = H := by
  cases n with
  | zero => cases h
  | succ n =>
    unfold go at h
    cases h
    exact ⟨rfl, rfl⟩
theorem go_done {sub : Str} {n k : Nat} {pile : List (List It × Nat)} {H H' : HS} {res : Option Nat} (h : go sub n (some ([], k)) pile H = some (res, H')) : res = some k ∧ H' = H := by
  cases n with
  | zero => cases h
  | succ n =>
    unfold go at h
    cases h
    exact ⟨rfl, rfl⟩
theorem go_step {sub : Str} {n k : Nat} {i : It} {r : List It} {pile : List (List It × Nat)} {H H' : HS} {res : Option Nat} (h : go sub n (some (i :: r, k)) pile H = some (res, H')) :
    ∃ n', n = n' + 1 ∧ supp i H = true ∧ k ≤ 1000 ∧ H.steps + 1 ≤ 9999 ∧ H.log.length ≤ 9999 ∧ pile.length ≤ 1000 ∧ go sub n' (adv i r k sub pile H.step).1 (adv i r k sub pile H.step).2.1 (adv i r k sub pile H.step).2.2 = some (res, H') := by
  cases n with
  | zero => cases h
  | succ n =>
    unfold go at h
    dsimp only at h
    split at h
    · next hz => exact ⟨n, rfl, hz.1, hz.2.1, hz.2.2.1, hz.2.2.2.1, hz.2.2.2.2, h⟩
    · cases h
theorem last_snoc (v : Value) : ∀ l : List Value, kl_last (l ++ [v]) = some (l, v)
  | [] => rfl
  | x :: r => by
    show (match kl_last (r ++ [v]) with | some (p, y) => some (x :: p, y) | none => some ([], x)) = _
    rw [last_snoc v r]
theorem len_led {prog : Program} {w : World} {A : Around} {E : Value → Shared → Prop} {s : Shared} {h₀ : Heap} {L a n : Nat} {news : Led} {its : List Value} {Q : Value → Shared → Prop} (N : News h₀ L s.heap news) (hm : (a, listOf its.toArray n) ∈ news) (hz : its.length ≤ 100000)
    (h : Q (.int its.length (s.toks + 1)) { s with toks := s.toks + 1 + 1 }) : wpAny (model prog w) A (call (.builtin "len") [.ref a]) Q E s :=
  len_list (News.isList N hm) (by rw [List.size_toArray]; omega) (by rw [List.size_toArray]; exact h)
theorem pop_led {prog : Program} {w : World} {A : Around} {E : Value → Shared → Prop} {s : Shared} {h₀ : Heap} {L D n : Nat} {m : Str → Option Value} {news news' : Led} {l : List Value} {v : Value} {Q : Value → Shared → Prop} (F : Fr h₀ L s.heap m) (N : News h₀ L s.heap news)
    (U : Upd D (listOf (l ++ [v]).toArray n) (listOf l.toArray (n + 1)) news news') (hz : l.length ≤ 100000) (h : ∀ h', Fr h₀ L h' m → News h₀ L h' news' → Q v { s with heap := h' }) : wpAny (model prog w) A (call (.builtin "list.pop") [.ref D]) Q E s :=
  kl_pop F N (last_snoc v l) U (by rw [sizeLine_eq]; show (l ++ [v]).length ≤ _; rw [List.length_append]; simp; omega) h
theorem Fr.known6 {h₀ h : Heap} {L : Addr} {m : Str → Option Value} {a b c a' b' c' : Str} {u v z u' v' z' : Value} (F : Fr h₀ L h m) (e1 : m a = some u) (e2 : m b = some v) (e3 : m c = some z) (e4 : m a' = some u') (e5 : m b' = some v') (e6 : m c' = some z') :
    Fr h₀ L h (fun y => if y = a then some u else if y = b then some v else if y = c then some z else if y = a' then some u' else if y = b' then some v' else if y = c' then some z' else m y) := by
  have : (fun y => if y = a then some u else if y = b then some v else if y = c then some z else if y = a' then some u' else if y = b' then some v' else if y = c' then some z' else m y) = m := by
    funext y
    show (if y = a then some u else if y = b then some v else if y = c then some z else if y = a' then some u' else if y = b' then some v' else if y = c' then some z' else m y) = m y
    repeat' split
    · next h => rw [h, e1]
    · next h => rw [h, e2]
    · next h => rw [h, e3]
    · next h => rw [h, e4]
    · next h => rw [h, e5]
    · next h => rw [h, e6]
    · rfl
  rw [this]; exact F
theorem eq_tup_str {prog : Program} {w : World} {A : Around} {E : Value → Shared → Prop} {s : Shared} {h₀ : Heap} {L a n : Nat} {news : Led} {its : Array Value} {y : Str} {u : Tok} {Q : Value → Shared → Prop} (N : News h₀ L s.heap news) (hm : (a, tup its n) ∈ news) (hu : A.units < cLine)
    (h : Q (.bool false) s) : wpAny (model prog w) A (compareOp .Eq (.ref a) (.str y u)) Q E s :=
  cmp_ofEq (PySem.SeqAt.RcAt.tuple_str y u (items := its) (News.isTup N hm) hu prog w E Q h)
noncomputable def OverA (l : Led) : Led → Prop
  | [] => True
  | p :: r => AllLt p.1 l ∧ OverA l r
theorem HostIn.growsA {prog : Program} {w : World} {im im0 mu : Led} {x hx vd lg : Addr} {H : HS} (h : HostIn prog w im x hx vd lg mu H) : ∀ {e : Led}, OverA (mu ++ im0) e → HostIn prog w (e ++ im) x hx vd lg mu H
  | [], _ => h
  | (_, _) :: _, ⟨b, c⟩ => (HostIn.growsA h c).grow b
theorem OverA.sep {mu im im0 fr : Led} (ho : Sep fr im) : ∀ {e : Led}, OverA (mu ++ (im0 ++ fr)) e → Sep fr (e ++ im)
  | [], _ => ho
  | (_, _) :: _, ⟨b, c⟩ => (OverA.sep ho c).up (allLt_app (allLt_app b))
theorem mem_shuf2 {a : Addr × Obj} {mu im fr e : Led} : ∀ q ∈ a :: (mu ++ ((e ++ im) ++ fr)), q ∈ a :: (e ++ (mu ++ (im ++ fr))) := by
  intro q hq
  simp only [List.mem_cons, List.mem_append] at hq ⊢
  rcases hq with h | h | (h | h) | h <;> simp [h]
theorem mem_shuf3 {a : Addr × Obj} {mu im fr e : Led} : ∀ q ∈ mu ++ ((e ++ im) ++ fr), q ∈ e ++ (a :: (mu ++ (im ++ fr))) := by
  intro q hq
  simp only [List.mem_cons, List.mem_append] at hq ⊢
  rcases hq with h | (h | h) | h <;> simp [h]
section
variable {h₀ : Heap} {L : Addr} {s s₃ : Shared} {J : Nat → (Str → Option Value) → Led → Prop} {Q : Flow → Shared → Prop} {n : Nat}
theorem ws_brk (h : Q .next s₃) : WhileStep2 h₀ L s J Q n .brk s₃ := h
theorem ws_ret {v : Value} (h : Q (.ret v) s₃) : WhileStep2 h₀ L s J Q n (.ret v) s₃ := h
theorem ws_next {h' : Heap} {tk : Nat} {m₂ : Str → Option Value} {news₂ : Led} {n' : Nat} (F : Fr h₀ L h' m₂) (N : News h₀ L h' news₂) (hn : n' < n) (hJ : J n' m₂ news₂) : WhileStep2 h₀ L s J Q n .next { s with heap := h', toks := tk } := ⟨h', tk, m₂, news₂, n', rfl, F, N, hn, hJ⟩
end
inductive FoundIn (im : Led) : Value → Option (Nat × Nat) → Prop
  | none : FoundIn im .none .none
  | some {a l : Addr} {b k n n' : Nat} {t t' : Tok} : (a, tup #[.int (b : Int) t, .int (k : Int) t', .ref l] n) ∈ im → (l, listOf #[] n') ∈ im → FoundIn im (.ref a) (.some (b, k))
noncomputable def MatchPost (prog : Program) (w : World) (im fr : Led) (x hx vd lg : Addr) (res : Option (Nat × Nat)) (H' : HS) (r : Value) (news' : Led) : Prop :=
  ∃ mu' im', (∀ q ∈ mu' ++ (im' ++ fr), q ∈ news') ∧ (∀ q ∈ im, q ∈ im') ∧ Sep fr im' ∧ HostIn prog w im' x hx vd lg mu' H' ∧ FoundIn im' r res
noncomputable def mloop (sub : Str) (nd : Nd) (fuel : Nat) : Nat → Nat → HS → Option (Option (Nat × Nat) × HS)
  | 0, _, H => some (none, H)
  | c + 1, b, H => match go sub fuel (some ([.nd nd], b)) [] H with
    | none => none
    | some (res, H') => match res with
      | none => mloop sub nd fuel c (b + 1) H'
      | some k => some (some (b, k), H')
theorem mem_one {a : Addr × Obj} {mu im fr : Led} : ∀ q ∈ mu ++ ((a :: im) ++ fr), q ∈ a :: (mu ++ (im ++ fr)) := by
  intro q hq
  simp only [List.mem_cons, List.mem_append] at hq ⊢
  rcases hq with h | (h | h) | h <;> simp [h]
noncomputable def RStep (h₀ : Heap) (L I : Addr) (ro : Obj) (J : (Str → Option Value) → Led → Prop) (s : Shared) (Q : Flow → Shared → Prop) (f : Flow) (s₂ : Shared) : Prop :=
  match f with
  | .ret v => Q (.ret v) s₂
  | .brk => Q .next s₂
  | _ => ∃ h' tk m' news', s₂ = { s with heap := h', toks := tk } ∧ Fr h₀ L h' m' ∧ News h₀ L h' ((I, ro) :: news') ∧ Off I news' ∧ J m' news'
section
variable {h₀ : Heap} {L I : Addr} {ro : Obj} {J : (Str → Option Value) → Led → Prop} {s s₂ : Shared} {Q : Flow → Shared → Prop}
theorem rs_ret {v : Value} (h : Q (.ret v) s₂) : RStep h₀ L I ro J s Q (.ret v) s₂ := h
theorem rs_brk (h : Q .next s₂) : RStep h₀ L I ro J s Q .brk s₂ := h
theorem rs_next {h' : Heap} {tk : Nat} {m' : Str → Option Value} {news' : Led} (F : Fr h₀ L h' m') (N : News h₀ L h' ((I, ro) :: news')) (ho : Off I news') (hj : J m' news') : RStep h₀ L I ro J s Q .next { s with heap := h', toks := tk } := ⟨h', tk, m', news', rfl, F, N, ho, hj⟩
theorem rs_cont {h' : Heap} {tk : Nat} {m' : Str → Option Value} {news' : Led} (F : Fr h₀ L h' m') (N : News h₀ L h' ((I, ro) :: news')) (ho : Off I news') (hj : J m' news') : RStep h₀ L I ro J s Q .cont { s with heap := h', toks := tk } := ⟨h', tk, m', news', rfl, F, N, ho, hj⟩
end
section
variable {prog : Program} {w : World} {A : Around} {E : Value → Shared → Prop} {s : Shared} {env : Env} {h₀ : Heap} {x : Str} {body : List Stmt} {Q : Flow → Shared → Prop}
theorem range_loop {r : Addr} {a b : Int} {t u v : Tok} {m₀ : Str → Option Value} {news news₀ : Led} (J : Nat → (Str → Option Value) → Led → Prop)
    (hh : A.handled = none) (F : Fr h₀ env.locals s.heap m₀) (N : News h₀ env.locals s.heap news) (hr : (r, ({ cls := .type "range", dict := none, data := .fields #[.int a t, .int b u, .int 1 v], slots := #[] } : Obj)) ∈ news)
    (hsm : Builtin.Range.small a b 1 = true) (cnt : Nat) (hc : Builtin.Range.rangeSize a b 1 = (cnt : Int)) (hsub : ∀ q ∈ news₀, q ∈ news) (hj : J 0 m₀ news₀)
    (turn : ∀ i t m₁ news₁ I ro h tk, i < cnt → Off I news₁ → J i m₁ news₁ → Fr h₀ env.locals h (fun y => if y = x then some (.int (a + (i : Int)) t) else m₁ y) → News h₀ env.locals h ((I, ro) :: news₁) →
      wpAny (model prog w) A (execs body env) (RStep h₀ env.locals I ro (J (i + 1)) { s with heap := h, toks := tk } Q) E { s with heap := h, toks := tk })
    (done : ∀ m₁ news₁ h tk, J cnt m₁ news₁ → Fr h₀ env.locals h m₁ → News h₀ env.locals h news₁ → Q .next { s with heap := h, toks := tk }) :
    wpAny (model prog w) A (pyIter (.ref r)) (fun it s₂ => LoopAtV prog w A h₀ env x body Q E it s₂) E s := by
  refine wpAny_pyIter_range (N _ hr).1 hsm ?_
  have W := Walks.range (prog := prog) (w := w) hh s.heap.objs.size a 1 cnt
  have N₀ := News.sub N hsub
  refine ⟨_, _, _, cnt, _, _, m₀, news₀, J, rfl, W, ?_, ?_, ?_, ?_, F.push _, (fun p hp => ⟨Heap.get?_push_of_some _ (N₀ p hp).1, (N₀ p hp).2⟩), hj, ?_, ?_⟩
  · intro hm
    exact absurd F.ns.lt (List.mem_singleton.mp hm ▸ Nat.lt_irrefl _)
  · intro b hb
    rw [List.mem_singleton.mp hb]
    exact next_is_new F
  · intro p hp hI
    exact absurd (Heap.lt_size (N₀ p hp).1) ((List.mem_singleton.mp hI) ▸ Nat.lt_irrefl _)
  · show IsRangeIter _ _ _ _ _
    have := Heap.get?_push_size (h := s.heap) (o := { cls := .type "range_iterator", data := .fields #[rawInt a, rawInt (Builtin.Range.rangeSize a b 1), rawInt 1] }) rfl
    have e1 : a + ((0 : Nat) : Int) * 1 = a := by omega
    have e2 : (cnt : Int) - ((0 : Nat) : Int) = cnt := by omega
    rw [e1, e2, ← hc]
    exact this
  · rintro i v m₁ news₁ s₁ own ⟨hh', tk', rfl⟩ hi ⟨ti, rfl⟩ hJ hnw hown hown' hall hst F₁ N₁
    obtain ⟨ro, hI⟩ : ∃ ro, hh'.get? s.heap.objs.size = some ro := ⟨_, hst⟩
    have hmem := hall s.heap.objs.size (List.mem_singleton.mpr rfl) (next_is_new F) _ hI
    rw [Int.mul_one] at F₁
    have N₂ : News h₀ env.locals hh' ((s.heap.objs.size, ro) :: news₁) := News.sub N₁ fun q hq => by
      rcases List.mem_cons.mp hq with rfl | hq
      · exact List.mem_append_left _ hmem
      · exact List.mem_append_right _ hq
    have ho : Off s.heap.objs.size news₁ := fun q hq e => hnw q hq (List.mem_singleton.mpr e)
    refine wpAny_mono (turn i ti m₁ news₁ _ ro hh' tk' hi ho hJ F₁ N₂) (fun f s₂ p => ?_) fun _ _ e => e
    have fin : (∃ h' tk m' news', s₂ = { s with heap := h', toks := tk } ∧ Fr h₀ env.locals h' m' ∧ News h₀ env.locals h' ((s.heap.objs.size, ro) :: news') ∧ Off s.heap.objs.size news' ∧ J (i + 1) m' news') →
        LoopStepU h₀ env.locals [s.heap.objs.size] own (J (i + 1)) { s with heap := hh', toks := tk' } .next s₂ := by
      rintro ⟨h', tk, m', news', rfl, F', N', ho', hj'⟩
      refine ⟨rfl, h', tk, m', news', rfl, F', News.sub N' fun q hq => ?_, fun q hq hI => ho' q hq (List.mem_singleton.mp hI), hj'⟩
      rcases List.mem_append.mp hq with hq | hq
      · have e1 := List.mem_singleton.mp (hown q hq)
        have e2 := hown' q hq
        rw [e1, hI] at e2
        have : q = (s.heap.objs.size, ro) := Prod.ext e1 (Option.some.inj e2).symm
        rw [this]; exact .head _
      · exact .tail _ hq
    cases f with
    | ret v => exact .ret p
    | brk => exact .brk p
    | next => exact .next (fin p)
    | cont => exact .cont (fin p)
  · rintro h' tk m' news' F' N' _ hJ
    exact done m' news' h' tk hJ F' N'
end
theorem known3_eq {m : Str → Option Value} {a b c : Str} {u v z : Value} (e1 : m a = some u) (e2 : m b = some v) (e3 : m c = some z) :
    m = (fun y => if y = a then some u else if y = b then some v else if y = c then some z else m y) := by
  funext y
  show m y = (if y = a then some u else if y = b then some v else if y = c then some z else m y)
  repeat' split
  · next h => rw [h, e1]
  · next h => rw [h, e2]
  · next h => rw [h, e3]
  · rfl
noncomputable def JM (prog : Program) (w : World) (im0 fr : Led) (x hx vd lg : Addr) (nv : Value) (sub : Str) (t1 : Tok) (nd : Nd) (fuel : Nat) (res : Option (Nat × Nat)) (H' : HS) (cnt i : Nat) (m : Str → Option Value) (news : Led) : Prop :=
  ∃ mu im H, news = mu ++ (im ++ fr) ∧ (∀ q ∈ im0, q ∈ im) ∧ Sep fr im ∧ HostIn prog w im x hx vd lg mu H ∧ i ≤ cnt ∧ mloop sub nd fuel (cnt - i) i H = some (res, H') ∧
    m (Str.ofString "node") = some nv ∧ m (Str.ofString "subject") = some (.str sub t1) ∧ m (Str.ofString "host") = some (.ref x)
theorem HostIn.addrs {prog : Program} {w : World} {im mu l : Led} {x hx vd lg I : Addr} {H : HS} (h : HostIn prog w im x hx vd lg mu H) (ho : Off I (mu ++ l)) : I ≠ hx ∧ I ≠ vd ∧ I ≠ lg := by
  cases h with
  | mk => exact ⟨fun e => ho _ (.head _) e.symm, fun e => ho _ (.tail _ (.head _)) e.symm, fun e => ho _ (.tail _ (.tail _ (.head _))) e.symm⟩
theorem mloop_turn {sub : Str} {nd : Nd} {fuel c b : Nat} {H H' : HS} {res : Option (Nat × Nat)} (h : mloop sub nd fuel (c + 1) b H = some (res, H')) :
    ∃ r1 H1, go sub fuel (some ([.nd nd], b)) [] H = some (r1, H1) ∧ ((r1 = none ∧ mloop sub nd fuel c (b + 1) H1 = some (res, H')) ∨ ∃ k, r1 = some k ∧ res = some (b, k) ∧ H' = H1) := by
  unfold mloop at h
  split at h
  · cases h
  · next r1 H1 e =>
    refine ⟨r1, H1, e, ?_⟩
    split at h
    · exact .inl ⟨rfl, h⟩
    · cases h; exact .inr ⟨_, rfl, rfl, rfl⟩
theorem range1_N {prog : Program} {w : World} {A : Around} {E : Value → Shared → Prop} {s : Shared} {h₀ : Heap} {L : Addr} {m : Str → Option Value} {news : Led} {n : Int} {t : Tok} {Q : Value → Shared → Prop} (F : Fr h₀ L s.heap m) (N : News h₀ L s.heap news)
    (h : ∀ r h' tk t₁ v₁, Fr h₀ L h' m → News h₀ L h' ((r, ({ cls := .type "range", dict := none, data := .fields #[.int 0 t₁, .int n t, .int 1 v₁], slots := #[] } : Obj)) :: news) → (∀ p ∈ news, p.1 < r) → Q (.ref r) { s with heap := h', toks := tk }) :
    wpAny (model prog w) A (call (.type "range") [.int n t]) Q E s :=
  call_range_1 (h _ _ _ _ _ (F.push _) (N.push F _) fun p hp => Heap.lt_size (N p hp).1)
section
variable {prog prog' : Program} {w w' : World} {A : Around} {E : Value → Shared → Prop} {s : Shared} {K : Frag} {h₀ : Heap} {L x hx vd lg : Addr} {m : Str → Option Value} {news mu im : Led} {H : HS} {expr : Bool} {f : Addr} {name : Str}
theorem hostA {Q : Value → Shared → Prop} (hh : HostIn prog' w' im x hx vd lg mu H) (F : Fr h₀ L s.heap m) (X₀ : K.In h₀) (N : News h₀ L s.heap news) (hsub : ∀ q ∈ mu ++ im, q ∈ news) (hg : plainGet K 236 name = true) (hhd : hasDictIn K 236 = true)
    (hf : findIn K (.ref 236) name = some (some (.ref f))) (ht : isFn K (.ref f) = true) (hgf : specialIn K (.ref f) "__get__" = some (some (.builtin "function.__get__"))) (htk : takesIn K (.ref f) = some false) (hc : copiedNames.contains name = false)
    (hl : ∀ (h1 h2 h3 h4 h5 h6 : Int) (t1 t2 t3 t4 t5 t6 : Tok) (v1 v2 v3 v4 v5 v6 : Value), getL name [⟨h1, .str (Str.ofString "values") t1, v1⟩, ⟨h2, .str (Str.ofString "limit") t2, v2⟩, ⟨h3, .str (Str.ofString "refused") t3, v3⟩, ⟨h4, .str (Str.ofString "width") t4, v4⟩, ⟨h5, .str (Str.ofString "steps") t5, v5⟩, ⟨h6, .str (Str.ofString "log") t6, v6⟩] = some none)
    (h : ∀ q h', Fr h₀ L h' m → News h₀ L h' ((q, methodObj (.ref f) (.ref x)) :: news) → (∀ p ∈ news, p.1 < q) → Q (.ref q) { s with heap := h', toks := s.toks + 1 }) : wpAny (model prog w) A (getAttr (.ref x) name expr) Q E s := by
  cases hh with
  | mk hx_ rf_ vd_ vals_ log_ n1 n2 n3 n4 n5 n6 o1 o2 o3 lo vz =>
    exact kbm_bound F X₀ N (InstAt.of_news N (hsub _ (List.mem_append_right _ hx_)) (hsub _ (List.mem_append_left _ (.head _)))) hg hhd hf ht hgf htk hc (hl _ _ _ _ _ _ _ _ _ _ _ _ _ _ _ _ _ _) h
end
noncomputable def splice (sub : Str) (b k : Nat) (txt : Str) : Str := Txt.slice sub none (some (b : Int)) ++ txt ++ Txt.slice sub (some (k : Int)) none
noncomputable def TextPost (prog : Program) (w : World) (im fr : Led) (x hx vd lg : Addr) (txt : Str) (H : HS) (r : Value) (news' : Led) : Prop :=
  ∃ mu' im', (∀ q ∈ mu' ++ (im' ++ fr), q ∈ news') ∧ (∀ q ∈ im, q ∈ im') ∧ Sep fr im' ∧ HostIn prog w im' x hx vd lg mu' H ∧ ∃ t, r = .str txt t
inductive StrOut : Value → Option Str → Prop
  | none : StrOut .none .none
  | some {x : Str} {t : Tok} : StrOut (.str x t) (.some x)
noncomputable def RoPost (prog : Program) (w : World) (im fr : Led) (x hx vd lg : Addr) (res : Option Str) (H' : HS) (r : Value) (news' : Led) : Prop :=
  ∃ mu' im', (∀ q ∈ mu' ++ (im' ++ fr), q ∈ news') ∧ (∀ q ∈ im, q ∈ im') ∧ Sep fr im' ∧ HostIn prog w im' x hx vd lg mu' H' ∧ StrOut r res
noncomputable def LStep (h₀ : Heap) (L I ax : Addr) (ro lo : Obj) (J : (Str → Option Value) → Led → Prop) (s : Shared) (Q : Flow → Shared → Prop) (f : Flow) (s₂ : Shared) : Prop :=
  match f with
  | .ret v => Q (.ret v) s₂
  | .brk => Q .next s₂
  | _ => ∃ h' tk m' news', s₂ = { s with heap := h', toks := tk } ∧ Fr h₀ L h' m' ∧ News h₀ L h' ((I, ro) :: (ax, lo) :: news') ∧ Off I news' ∧ J m' news'
section
variable {h₀ : Heap} {L I ax : Addr} {ro lo : Obj} {J : (Str → Option Value) → Led → Prop} {s s₂ : Shared} {Q : Flow → Shared → Prop}
theorem ls_ret {v : Value} (h : Q (.ret v) s₂) : LStep h₀ L I ax ro lo J s Q (.ret v) s₂ := h
theorem ls_next {h' : Heap} {tk : Nat} {m' : Str → Option Value} {news' : Led} (F : Fr h₀ L h' m') (N : News h₀ L h' ((I, ro) :: (ax, lo) :: news')) (ho : Off I news') (hj : J m' news') : LStep h₀ L I ax ro lo J s Q .next { s with heap := h', toks := tk } := ⟨h', tk, m', news', rfl, F, N, ho, hj⟩
end
section
variable {prog : Program} {w : World} {A : Around} {E : Value → Shared → Prop} {s : Shared} {env : Env} {h₀ : Heap} {target : PySem.Expr} {body : List Stmt} {Q : Flow → Shared → Prop}
theorem list_turns {ax n : Nat} {vs : List Value} {m₀ : Str → Option Value} {news news₀ : Led} (J : Nat → (Str → Option Value) → Led → Prop)
    (hh : A.handled = none) (F : Fr h₀ env.locals s.heap m₀) (N : News h₀ env.locals s.heap news) (hm : (ax, listOf vs.toArray n) ∈ news) (hsub : ∀ q ∈ news₀, q ∈ news) (hj : J 0 m₀ news₀)
    (turn : ∀ i v m₁ news₁ I ro h tk, vs[i]? = some v → I ≠ ax → Off I news₁ → J i m₁ news₁ → Fr h₀ env.locals h m₁ → News h₀ env.locals h ((I, ro) :: (ax, listOf vs.toArray n) :: news₁) →
      wpAny (model prog w) A (assign target env v) (fun _ s₃ => wpAny (model prog w) A (execs body env) (LStep h₀ env.locals I ax ro (listOf vs.toArray n) (J (i + 1)) { s with heap := h, toks := tk } Q) E s₃) E { s with heap := h, toks := tk })
    (done : ∀ m₁ news₁ h tk, J vs.length m₁ news₁ → Fr h₀ env.locals h m₁ → News h₀ env.locals h news₁ → Q .next { s with heap := h, toks := tk }) :
    wpAny (model prog w) A (pyIter (.ref ax)) (fun it s₂ => TurnsAt prog w A h₀ env target body Q E it s₂) E s := by
  have hls : s.heap.IsList ax vs.toArray := News.isList N hm
  have hlt : ax < s.heap.objs.size := Heap.lt_size (N _ hm).1
  have hne : ax ≠ s.heap.objs.size := Nat.ne_of_lt hlt
  have hax0 : h₀.get? ax = none := (N _ hm).2.2
  refine wpAny_pyIter_list hls ?_
  have W := Walks.list (prog := prog) (w := w) hh s.heap.objs.size ax hne vs.toArray
  have N₀ := News.sub N hsub
  have W' := KTurns.ofWalks (target := target) W fun i v s Q E st q => letGo_listiter st.1 q
  have hsz : vs.toArray.size = vs.length := by simp
  rw [hsz] at W'
  let J' : Nat → (Str → Option Value) → Led → Prop := fun i m₁ news₁ => J i m₁ news₁
  refine ⟨_, _, _, vs.length, _, _, _, m₀, (ax, listOf vs.toArray n) :: news₀, fun i m₁ l => ∃ l', l = (ax, listOf vs.toArray n) :: l' ∧ J i m₁ l', rfl, W', ?_, ?_, ?_, ⟨⟨_, Heap.get?_push_size _ rfl, rfl, rfl⟩, hls.at fun o e => Heap.get?_push_of_some _ e⟩, F.push _, ?_, ⟨_, rfl, hj⟩, ?_, ?_⟩
  · intro h
    rcases List.mem_cons.mp h with e | h
    · exact absurd F.ns.lt (e ▸ Nat.lt_irrefl _)
    · exact (N _ hm).2.1 (List.mem_singleton.mp h).symm
  · intro b hb
    rw [List.mem_singleton.mp hb]
    exact next_is_new F
  · intro p hp hI
    have e := List.mem_singleton.mp hI
    rcases List.mem_cons.mp hp with rfl | hp
    · exact hne e
    · exact absurd (Heap.lt_size (N₀ p hp).1) (e ▸ Nat.lt_irrefl _)
  · intro p hp
    rcases List.mem_cons.mp hp with rfl | hp
    · exact ⟨Heap.get?_push_of_some _ (N _ hm).1, (N _ hm).2⟩
    · exact ⟨Heap.get?_push_of_some _ (N₀ p hp).1, (N₀ p hp).2⟩
  · rintro i v m₁ news₁ hh' tk' own hi hP ⟨l', rfl, hJ⟩ hnw hown hown' hall hst F₁ N₁
    obtain ⟨ro, hI⟩ : ∃ ro, hh'.get? s.heap.objs.size = some ro := by
      obtain ⟨o, ho, _⟩ := hst.1
      exact ⟨o, ho⟩
    have hmem := hall s.heap.objs.size (List.mem_cons.mpr (.inl rfl)) (next_is_new F) _ hI
    have hv : vs[i]? = some v := by
      have : vs.toArray[i]? = some v := hP
      simpa using this
    have N₂ : News h₀ env.locals hh' ((s.heap.objs.size, ro) :: (ax, listOf vs.toArray n) :: l') := News.sub N₁ fun q hq => by
      rcases List.mem_cons.mp hq with rfl | hq
      · exact List.mem_append_left _ hmem
      · exact List.mem_append_right _ hq
    have ho : Off s.heap.objs.size l' := fun q hq e => hnw q (.tail _ hq) (List.mem_singleton.mpr e)
    refine wpAny_mono (turn i v m₁ l' _ ro hh' tk' hv (Ne.symm hne) ho hJ F₁ N₂) (fun _ s₃ p => wpAny_mono p (fun f s₂ p => ?_) fun _ _ e => e) fun _ _ e => e
    have fin : (∃ h' tk m' news', s₂ = { s with heap := h', toks := tk } ∧ Fr h₀ env.locals h' m' ∧ News h₀ env.locals h' ((s.heap.objs.size, ro) :: (ax, listOf vs.toArray n) :: news') ∧ Off s.heap.objs.size news' ∧ J (i + 1) m' news') →
        LoopStepU h₀ env.locals [s.heap.objs.size] own (fun m₁ l => ∃ l', l = (ax, listOf vs.toArray n) :: l' ∧ J (i + 1) m₁ l') { s with heap := hh', toks := tk' } .next s₂ := by
      rintro ⟨h', tk, m', news', rfl, F', N', ho', hj'⟩
      refine ⟨rfl, h', tk, m', (ax, listOf vs.toArray n) :: news', rfl, F', News.sub N' fun q hq => ?_, fun q hq hI2 => ?_, news', rfl, hj'⟩
      · rcases List.mem_append.mp hq with hq | hq
        · rcases List.mem_cons.mp (hown q hq) with e1 | e1
          · have e2 := hown' q hq
            rw [e1, hI] at e2
            have : q = (s.heap.objs.size, ro) := Prod.ext e1 (Option.some.inj e2).symm
            rw [this]; exact .head _
          · have e1 := List.mem_singleton.mp e1
            have e2 := hown' q hq
            rw [e1, (N₂ _ (.tail _ (.head _))).1] at e2
            have : q = (ax, listOf vs.toArray n) := Prod.ext e1 (Option.some.inj e2).symm
            rw [this]; exact .tail _ (.head _)
        · exact .tail _ hq
      · have e := List.mem_singleton.mp hI2
        rcases List.mem_cons.mp hq with rfl | hq
        · exact hne e
        · exact ho' q hq e
    cases f with
    | ret v => exact .ret p
    | brk => exact .brk p
    | next => exact .next (fin p)
    | cont => exact .cont (fin p)
  · rintro h' tk m' news' F' N' _ ⟨l', rfl, hJ⟩
    exact done m' l' h' tk hJ F' (News.sub N' fun q hq => .tail _ hq)
end
theorem lookup_mem {v : Value} {y : Str} : ∀ {ps : List (Str × Value)}, ps.lookup y = some v → (y, v) ∈ ps
  | [], h => nomatch h
  | (a, b) :: r, h => by
    rw [List.lookup_cons] at h
    by_cases e : (y == a) = true
    · rw [e] at h
      cases h
      rw [beq_iff_eq.mp e]; exact .head _
    · have e' : (y == a) = false := by simpa using e
      rw [e'] at h
      exact .tail _ (lookup_mem h)
theorem knownL {m : Str → Option Value} (ps : List (Str × Value)) (h : ∀ p ∈ ps, m p.1 = some p.2) : m = fun y => match ps.lookup y with | some v => some v | none => m y := by
  funext y
  show m y = match ps.lookup y with | some v => some v | none => m y
  cases e : ps.lookup y with
  | none => rfl
  | some v => exact h _ (lookup_mem e)
theorem allP_nil {α : Type} {P : α → Prop} : ∀ p ∈ ([] : List α), P p := fun _ h => nomatch h
theorem allP_cons {α : Type} {P : α → Prop} {a : α} {l : List α} (h : P a) (H : ∀ p ∈ l, P p) : ∀ p ∈ a :: l, P p := fun p hp => by
  rcases List.mem_cons.mp hp with rfl | hp
  · exact h
  · exact H p hp
noncomputable def roften (nd : Nd) (anch : Bool) (fuel : Nat) (tok : HS → Bool) (txt : HS → Str) : Nat → Nat → Str → HS → Option ((Str × Nat) × HS)
  | 0, many, sub, H => some ((sub, many), H)
  | c + 1, many, sub, H => if sub.length ≤ 1000 then match mloop sub nd fuel (if anch then 1 else sub.length + 1) 0 H with
    | none => none
    | some (res, H') => match res with
      | none => some ((sub, many), H')
      | some r => if tok H' = true ∧ (txt H').length ≤ 1000 then roften nd anch fuel tok txt c (many + 1) (splice sub r.1 r.2 (txt H')) H' else none
    else none
theorem roften_turn {nd : Nd} {anch : Bool} {fuel c many : Nat} {tok : HS → Bool} {txt : HS → Str} {sub : Str} {H H' : HS} {res : Str × Nat} (h : roften nd anch fuel tok txt (c + 1) many sub H = some (res, H')) :
    sub.length ≤ 1000 ∧ ∃ r1 H1, mloop sub nd fuel (if anch then 1 else sub.length + 1) 0 H = some (r1, H1) ∧ ((r1 = none ∧ res = (sub, many) ∧ H' = H1) ∨ ∃ r, r1 = some r ∧ tok H1 = true ∧ (txt H1).length ≤ 1000 ∧ roften nd anch fuel tok txt c (many + 1) (splice sub r.1 r.2 (txt H1)) H1 = some (res, H')) := by
  unfold roften at h
  split at h
  · next hz =>
    refine ⟨hz, ?_⟩
    split at h
    · cases h
    · next r1 H1 e =>
      refine ⟨r1, H1, e, ?_⟩
      split at h
      · cases h; exact .inl ⟨rfl, rfl, rfl⟩
      · next r =>
        split at h
        · next hq => exact .inr ⟨r, rfl, hq.1, hq.2, h⟩
        · cases h
  · cases h
noncomputable def RfPost (prog : Program) (w : World) (im fr : Led) (x hx vd lg : Addr) (res : Str × Nat) (H' : HS) (r : Value) (news' : Led) : Prop :=
  ∃ mu' im', (∀ q ∈ mu' ++ (im' ++ fr), q ∈ news') ∧ (∀ q ∈ im, q ∈ im') ∧ Sep fr im' ∧ HostIn prog w im' x hx vd lg mu' H' ∧ ∃ a n t t', r = .ref a ∧ (a, tup #[.str res.1 t, .int (res.2 : Int) t'] n) ∈ im'
noncomputable def JR (prog : Program) (w : World) (im0 fr : Led) (x hx vd lg tf : Addr) (nv : Value) (nd : Nd) (anch : Bool) (fuel : Nat) (tok : HS → Bool) (txt : HS → Str) (most : Nat) (tm : Tok) (res : Str × Nat) (H' : HS) (n : Nat) (m : Str → Option Value) (news : Led) : Prop :=
  ∃ mu im H sub many t1 t2, news = mu ++ (im ++ fr) ∧ (∀ q ∈ im0, q ∈ im) ∧ Sep fr im ∧ HostIn prog w im x hx vd lg mu H ∧ many + n = most ∧ roften nd anch fuel tok txt n many sub H = some (res, H') ∧
    (∀ p ∈ [(Str.ofString "matcher", Value.ref 397), (Str.ofString "node", nv), (Str.ofString "subject", Value.str sub t1), (Str.ofString "is_anchored", Value.bool anch), (Str.ofString "host", Value.ref x), (Str.ofString "text_of", Value.ref tf), (Str.ofString "most", Value.int (most : Int) tm), (Str.ofString "many", Value.int (many : Int) t2)], m p.1 = some p.2)
theorem Fr.tok {h₀ h : Heap} {L : Addr} {m : Str → Option Value} (_F : Fr h₀ L h m) (x : Str) (v : Tok → Value) (e : ∃ t, m x = some (v t)) : ∃ t, m x = some (v t) := e
end Mine
end
section
open PySem PySem.Spec PySem.Calls PySem.W PyProof.Rows
namespace Mine
noncomputable abbrev lit {α : Type} (b : α) {c : α} (_ : c = b) : α := b
noncomputable def fC (s : Stmt) : Scope := match s with | .FunctionDef (scope := b) .. => b | _ => default
noncomputable def wB (s : Stmt) : List Stmt := match s with | .While (body := b) .. => b | _ => []
noncomputable abbrev lawTop (dp un : Nat) (gd : Option (List Code)) (outer : List Env) : Around := { handled := none, depth := dp, frames := some outer, guards := gd, units := un }
theorem valsIs_at {k : Str} {d : Dv} : ∀ {l : List (Str × Value)} {r : List (Str × Dv)}, ValsIs l r → valD r k = some d → ∃ v, PySem.valueAt l k = some v ∧ DvIs v d
  | _, _, .nil, h => by cases h
  | _, _, .cons (k := k') (v := v) (d := d') (l := l) (r := r) a b, h => by
    unfold valD at h
    unfold PySem.valueAt
    rw [List.find?_cons] at h ⊢
    by_cases e : k' = k
    · simp only [e, decide_true, Option.map_some] at h ⊢
      cases h
      exact ⟨v, rfl, a⟩
    · simp only [e, decide_false] at h ⊢
      exact valsIs_at b h
theorem valsIs_str {k a : Str} {l : List (Str × Value)} {r : List (Str × Dv)} (H : ValsIs l r) (h : valD r k = some (.s a)) : ∃ t, PySem.valueAt l k = some (.str a t) := by
  obtain ⟨v, e, d⟩ := valsIs_at H h
  cases d
  exact ⟨_, e⟩
theorem hostNew {prog : Program} {w : World} {im : Led} {x hx vd lg rf : Nat} {o : Obj} {h1 h2 h3 h4 h5 h6 : Int} {t1 t2 t3 t4 t5 t6 u2 u4 u5 : Tok} (hd : o.IsDictOf (PySem.strKind prog w) []) (lo : (vd == sysModules) = false) (a : AllLt vd im) (b : vd < rf) (c : rf < hx) (d : hx < x) (e : x < lg) :
    HostIn prog w ((x, instObj 236 hx) :: (rf, listOf #[] 0) :: im) x hx vd lg [(hx, dictOf [⟨h1, .str (Str.ofString "values") t1, .ref vd⟩, ⟨h2, .str (Str.ofString "limit") t2, .int 9999 u2⟩, ⟨h3, .str (Str.ofString "refused") t3, .ref rf⟩, ⟨h4, .str (Str.ofString "width") t4, .int 64 u4⟩, ⟨h5, .str (Str.ofString "steps") t5, .int 0 u5⟩, ⟨h6, .str (Str.ofString "log") t6, .ref lg⟩] 6), (vd, o), (lg, listOf #[] 0)] ⟨[], [], 0⟩ := by
  have m := allLt_mem a
  refine HostIn.mk (its := []) (.head _) (.tail _ (.head _)) hd .nil .nil (Nat.ne_of_gt (by omega)) (Nat.ne_of_lt (by omega)) (Nat.ne_of_lt (by omega)) (Nat.ne_of_lt (by omega)) (Nat.ne_of_gt (by omega)) (Nat.ne_of_gt (by omega)) ?_ ?_ ?_ lo (Nat.le_refl _)
  · exact Off.cons (Nat.ne_of_gt d) (Off.cons (Nat.ne_of_lt c) fun p hp => Nat.ne_of_lt (Nat.lt_trans (m p hp) (by omega)))
  · exact Off.cons (Nat.ne_of_gt (by omega)) (Off.cons (Nat.ne_of_gt b) fun p hp => Nat.ne_of_lt (m p hp))
  · exact Off.cons (Nat.ne_of_lt e) (Off.cons (Nat.ne_of_lt (by omega)) fun p hp => Nat.ne_of_lt (Nat.lt_trans (m p hp) (by omega)))
theorem kda_get {prog : Program} {w : World} {A : Around} {E : Value → Shared → Prop} {s : Shared} {h₀ : Heap} {L d : Addr} {news : Led} {o : Obj} {kvs : List (Str × Value)} {k : Str} {tk : Tok} {v : Value} {Q : Value → Shared → Prop} (N : News h₀ L s.heap news) (hp : (d, o) ∈ news) (hd : o.IsDictOf (PySem.strKind prog w) kvs) (hl : PySem.valueAt kvs k = some v) (h : Q v { s with toks := s.toks + 1 }) :
    wpAny (model prog w) A (getItem (.ref d) (.str k tk)) Q E s := wpAny_getItem_of (strKind_is _ _ _ _) (kda_dict N hp hd).mapOf hl h
theorem News.headO {h₀ h : Heap} {L a : Addr} {o : Obj} {l : Led} (N : News h₀ L h ((a, o) :: l)) : ∃ o', o' = o ∧ News h₀ L h ((a, o') :: l) := ⟨o, rfl, N⟩
theorem three_cells {a b c : Int} (ha : 0 ≤ a) (hb : 0 ≤ b) (hc : 0 ≤ c) (ns : List Int) : ∃ c0 c1 c2 : Int, (List.map (fun k' => if k' < 0 then -k' else k') (List.take 3 ns) ++ List.drop (↑(List.take 3 ns).length : Int).toNat [a, b, c]) = [c0, c1, c2] ∧ 0 ≤ c0 ∧ 0 ≤ c1 ∧ 0 ≤ c2 := by
  have ab : ∀ x : Int, 0 ≤ (if x < 0 then -x else x) := by intro x; split <;> omega
  rcases ns with _ | ⟨x, _ | ⟨y, _ | ⟨z, r⟩⟩⟩
  · exact ⟨a, b, c, rfl, ha, hb, hc⟩
  · exact ⟨_, b, c, rfl, ab _, hb, hc⟩
  · exact ⟨_, _, c, rfl, ab _, ab _, hc⟩
  · exact ⟨_, _, _, rfl, ab _, ab _, ab _⟩
theorem ints_three {vs : List Value} {a b c : Int} (h : IntsAre vs [a, b, c]) : ∃ t0 t1 t2, vs = [.int a t0, .int b t1, .int c t2] := by
  cases h with
  | cons _ _ h =>
    cases h with
    | cons _ _ h =>
      cases h with
      | cons _ _ h =>
        cases h
        exact ⟨_, _, _, rfl⟩
inductive TfIs (K : Frag) (im : Led) (tf : Addr) : Prop
  | led {oc : Value} {od : Option Addr} {fd : FuncData} {sl : Array (Option Value)} : (tf, (⟨oc, od, .func fd, sl⟩ : Obj)) ∈ im → TfIs K im tf
  | top {oc : Value} {od : Option Addr} {fd : FuncData} {sl : Array (Option Value)} : K.lookup tf = some ⟨oc, od, .func fd, sl⟩ → TfIs K im tf
theorem TfIs.mono {K : Frag} {im im' : Led} {tf : Addr} (h : TfIs K im tf) (hs : ∀ q ∈ im, q ∈ im') : TfIs K im' tf := by
  cases h with
  | led a => exact .led (hs _ a)
  | top a => exact .top a
theorem TfIs.fn {K : Frag} {im : Led} {tf L : Addr} {h₀ h : Heap} {m : Str → Option Value} {news : Led} (H : TfIs K im tf) (F : Fr h₀ L h m) (X : K.In h₀) (N : News h₀ L h news) (hs : ∀ o, (tf, o) ∈ im → (tf, o) ∈ news) : FnAt tf h := by
  cases H with
  | led a => exact FnAt.of N (hs _ a)
  | top a => exact ⟨_, _, _, _, F.keep _ _ (X _ _ a)⟩
end Mine
end
section
open PySem PySem.Spec PySem.Calls PySem.W PyProof.Rows
namespace Mine
theorem fill_Host : (fun (_ : OpenLaw) (_ : Params → Frag) => True) PySem.Challenge.rw_xm0956_01 KK := by k_fill; trivial
local macro_rules | `(tactic| k_all) => `(tactic| assumption)
local macro_rules | `(tactic| k_mem) => `(tactic| first | assumption | (refine' List.mem_cons_of_mem _ ?_; k_mem))
local macro_rules | `(tactic| walk_at "compareOp In str ref") => `(tactic| (k_here; (with_reducible show wpAny _ _ (compareOp CmpOp.In (Value.str _ _) (Value.ref _)) _ _ _); (with_unfolding_all refine' in_empty ?k1 ?k2 ?_; (case k1 => k_asm); (case k2 => k_mem); k_whole)))
local macro_rules | `(tactic| walk_at "setItem ref str") => `(tactic| (k_here; k_dflt (refine' kda_set (knd := PySem.strKind _ _) ?F ?N ?U ?d (strKind_is _ _ _ _) ?z ?_; (case F => k_asm); (case N => k_asm); (case U => k_updF); (case d => k_asm); (case z => (rw [sizeLine_eq]; omega))); intro h' o' F' N' hd'; (try dsimp only at N')))
section
variable {prog : Program} {w : World} {p : Program} {loose : List Str} {mean : ExcName → Option Value} {mg mb : Str → Option Value}
set_option maxRecDepth 100000
set_option maxHeartbeats 4000000
theorem step_does {im mu fr : Led} {x hx vd lg : Addr} {H : HS} (hh : HostIn prog w im x hx vd lg mu H) (hsp : Sep fr im) (hsh : SepH fr hx vd lg) (hs : H.steps + 1 ≤ 9999) :
    Does prog w (KK w.params) p loose mean mg mb 233 20 200 [.ref x] (mu ++ (im ++ fr))
      (fun r news' => ∃ mu', (∀ q ∈ mu' ++ (im ++ fr), q ∈ news') ∧ HostIn prog w im x hx vd lg mu' H.step ∧ r = .none) := by
  unfold Does
  intro dp un gd cn cs a ccd cl outer A₀ base h₀ L m s Q E B F X N T hk hdp hun hret
  cases hh with
  | mk hx_ rf_ vd_ vals_ log_ n1 n2 n3 n4 n5 n6 o1 o2 o3 lo vz =>
  have hz1 := vals_.length
  have hz2 := log_.length
  simp only [List.cons_append, List.nil_append] at N
  unfold Off at o1 o2 o3
  have p1 := off_app o1 fun p hp => (hsh p hp).1
  have p2 := off_app o2 fun p hp => (hsh p hp).2.1
  have p3 := off_app o3 fun p hp => (hsh p hp).2.2
  dsimp only at hs
  refine wpAny_call ?_
  k_dflt ktr_enter
  k_steps
  exact hret _ _ _ _ (by assumption) (by assumption) ⟨_, fun q hq => hq, .mk hx_ rf_ vd_ vals_ log_ n1 n2 n3 n4 n5 n6 o1 o2 o3 lo vz, rfl⟩
theorem assign_does {im mu fr : Led} {x hx vd lg : Addr} {H : HS} {rv v : Value} {nm : Str} {d : Dv} (hh : HostIn prog w im x hx vd lg mu H) (hsp : Sep fr im) (hsh : SepH fr hx vd lg) (hs : H.log.length ≤ 9999) (hr : NameIn im rv nm) (hv : DvIs v d) :
    Does prog w (KK w.params) p loose mean mg mb 226 20 200 [.ref x, rv, v] (mu ++ (im ++ fr))
      (fun r news' => ∃ mu' im', (∀ q ∈ mu' ++ (im' ++ fr), q ∈ news') ∧ (∀ q ∈ im, q ∈ im') ∧ Sep fr im' ∧ HostIn prog w im' x hx vd lg mu' (H.assign nm d) ∧ r = .bool true) := by
  unfold Does
  intro dp un gd cn cs a ccd cl outer A₀ base h₀ L m s Q E B F X N T hk hdp hun hret
  cases hh with
  | mk hx_ rf_ vd_ vals_ log_ n1 n2 n3 n4 n5 n6 o1 o2 o3 lo vz =>
  have hz1 := vals_.length
  have hz2 := log_.length
  cases hr with
  | mk hm1 hm2 hln =>
  simp only [List.cons_append, List.nil_append] at N
  unfold Off at o1 o2 o3
  have p1 := off_app o1 fun p hp => (hsh p hp).1
  have p2 := off_app o2 fun p hp => (hsh p hp).2.1
  have p3 := off_app o3 fun p hp => (hsh p hp).2.2
  dsimp only at hs
  refine wpAny_call ?_
  k_dflt ktr_enter
  k_steps
  (with_reducible rename News h₀ L _ _ => kN)
  (rename _ < _ ∧ _ < _ ∧ _ < _ ∧ AllLt _ _ => l1)
  simp only [List.push_toArray] at kN
  refine hret _ _ _ _ (by assumption) kN ⟨_, _, mem_31, fun q hq => .tail _ hq, Sep.up (allLt_app l1.2.2.2) hsp, ?_, rfl⟩
  exact HostIn.mk (.tail _ hx_) (.tail _ rf_) (by assumption) (vals_.stored hv) ((log_.mono fun q hq => .tail _ hq).snoc (.head _) hv) n1 n2 n3 n4 n5 n6 (Off.up l1.1 o1) (Off.up l1.2.1 o2) (Off.up l1.2.2.1 o3) lo (Nat.le_trans (putv_len _ _ _) (by rw [List.length_append]; exact Nat.succ_le_succ vz))
end
end Mine
end
section
open PySem PySem.Spec PySem.Calls PySem.W PyProof.Rows
namespace Mine
local macro_rules | `(tactic| k_all) => `(tactic| assumption)
local macro_rules | `(tactic| k_mem) => `(tactic| first | assumption | (refine' List.mem_cons_of_mem _ ?_; k_mem))
local macro_rules | `(tactic| walk_at "call ref") => `(tactic| (k_here; (with_reducible show wpAny _ _ (call (Value.ref _) _) _ _ _); k_dflt (refine wpAny_call ?_; (refine' code_def ?k1 ?k2 ?k3 ?k4 ?k5 ?kA ?kF ?kK ?k6 ?k7 ?k8 ?k9 ?kB ?_ ?c2 ?c3 ?c4 ?c5; (case kA => exact rfl); (case kF => exact rfl); (case kK => exact rfl); (case k1 => k_asm); (case k2 => k_asm); (case k3 => k_asm); (case k4 => k_asm); (case k5 => k_asm); (case k6 => k_is); (case k7 => k_is); (case k8 => ktr_room); (case k9 => exact BindsTo.of_eq rfl); (case c5 => decide); (case kB => exact locs rfl); (case c2 => exact rfl); (case c3 => exact rfl); (case c4 => exact rfl); k_whole; intro g' L' h' FG' F' N' B' X' T'; (try dsimp only); (try k_fold)))))
local macro_rules | `(tactic| walk_at "compareOp NotIn str ref") => `(tactic| (k_here; (with_reducible show wpAny _ _ (compareOp CmpOp.NotIn (Value.str _ _) (Value.ref _)) _ _ _); k_dflt (refine' notin_Kt ?k1 ?k2 ?k3 ?k4 ?k5 ?_; (case k1 => k_asm); (case k2 => k_asm); (case k3 => k_is); (case k4 => kde_strs); (case k5 => exact rfl); k_whole)))
local macro_rules | `(tactic| walk_at "getMethod ref") => `(tactic| (k_here; k_dflt (refine' hostM ?hh ?k1 ?k2 ?k3 ?hs ?k5 ?k6 ?k7 ?k8 ?_; (case hh => assumption); (case k1 => k_asm); (case k2 => k_asm); (case k3 => k_asm); (case hs => (intro q hq; simp only [List.mem_cons, List.mem_append] at hq ⊢; rcases hq with h | h <;> simp [h])); (case k5 => k_is); (case k6 => k_is); (case k7 => k_is); (case k8 => (intros; rfl)); k_whole)))
local macro_rules | `(tactic| walk_at "call ref") => `(tactic| (k_here; (with_reducible show wpAny _ _ (call (Value.ref 226) _) _ _ _); k_dflt (refine' Does.use (assign_does ?hh ?hsp ?hsh ?hs ?hr ?hv) ?k1 ?k2 ?k3 ?k4 ?k5 ?k6 ?k7 ?k8 ?k9 ?_; (case hh => assumption); (case hsp => assumption); (case hsh => assumption); (case hs => assumption); (case hr => assumption); (case hv => first | exact DvIs.i | exact DvIs.s); (case k1 => k_asm); (case k2 => k_asm); (case k3 => k_asm); (case k4 => k_asm); (case k5 => k_asm); (case k6 => exact rfl); (case k7 => (intro q hq; simp only [List.mem_cons, List.mem_append] at hq ⊢; rcases hq with h | h | h | h <;> simp [h])); (case k8 => ktr_room); (case k9 => ktr_units); k_whole); (intro r' led' h' tk' F' N' P'); (obtain ⟨mu', im', Pm, Ps, Psep, Ph, Pe⟩ := P'); (subst Pe); (replace N' := News.sub N' Pm); clear Pm; (try dsimp only); (try k_sweep)))
local macro_rules | `(tactic| walk_at "subscriptTail Name Constant ref int") => `(tactic| (k_here; k_dflt ((first | ((with_reducible show wpAny _ _ (subscriptTail _ _ (Value.ref _) (Value.int 0 _)) _ _ _); refine' tup_i0 ?k1 ?_ ?k7 ?k8) | ((with_reducible show wpAny _ _ (subscriptTail _ _ (Value.ref _) (Value.int 1 _)) _ _ _); refine' tup_i1 ?k1 ?_ ?k7 ?k8) | ((with_reducible show wpAny _ _ (subscriptTail _ _ (Value.ref _) (Value.int 2 _)) _ _ _); refine' tup_i2 ?k1 ?_ ?k7 ?k8)); (case k1 => exact News.isTup (by k_asm) (by k_mem)); (case k7 => with_unfolding_all rfl); (case k8 => intro _; with_unfolding_all rfl))))
local macro_rules | `(tactic| walk_at "compareOp In str ref") => `(tactic| (k_here; (with_reducible show wpAny _ _ (compareOp CmpOp.In (Value.str _ _) (Value.ref _)) _ _ _); (with_reducible rename News _ _ _ _ => NR); k_dflt (refine' in_tup_drop NR ?k2 ?k3 ?_; (case k2 => kde_strs); (case k3 => exact rfl)); clear NR; intro N'))
section
variable {prog : Program} {w : World} {p : Program} {loose : List Str} {mean : ExcName → Option Value} {mg mb : Str → Option Value}
set_option maxRecDepth 100000
set_option maxHeartbeats 4000000
theorem adv_cat {im mu fr : Led} {x hx vd lg pl c : Addr} {H : HS} {hv rv nv : Value} {nc n : Nat} {a b : Nd} {rest : List It} {k : Nat} {t1 t2 : Tok} {sub : Str} {its : List Value} {pile : List (List It × Nat)}
    (hc : (c, tup #[hv, rv] nc) ∈ im) (hi : NodeIn im hv (.cat a b)) (hr : ChainIn im rv rest) (hnv : NilIn im nv) (hh : HostIn prog w im x hx vd lg mu H) (hp : PileIn im its pile) (ho : Off pl im) (hof : Off pl fr) (hs : Sep fr im) (hsh : SepH fr hx vd lg) (hpl : pl ≠ hx ∧ pl ≠ vd ∧ pl ≠ lg) (hk : k ≤ 1000) (hsub : sub.length ≤ 1000) (hz : pile.length ≤ 1000) (hlog : H.log.length ≤ 9999) :
    Does prog w (KK w.params) p loose mean mg mb 418 40 400 [.ref c, .int (k : Int) t1, nv, .str sub t2, .ref pl, .ref x] ((pl, listOf its.toArray n) :: (mu ++ (im ++ fr)))
      (AdvPost prog w im fr x hx vd lg pl (adv (.nd (.cat a b)) rest k sub pile H).1 (adv (.nd (.cat a b)) rest k sub pile H).2.1 (adv (.nd (.cat a b)) rest k sub pile H).2.2) := by
  unfold Does
  intro dp un gd cn cs aa ccd cl outer A₀ base h₀ L m s Q E B F X N T hkk hdp hun hret
  have hz1 := hp.length
  have hoffs := hh.offs ho hof hpl
  cases hnv with
  | mk hnv =>
  cases hi with
  | cat hm ha hb =>
  refine wpAny_call ?_
  k_dflt ktr_enter
  k_steps
  all_goals (with_reducible rename News h₀ L _ _ => kN)
  all_goals (try simp only [List.push_toArray] at kN)
  all_goals first
    | refine hret _ _ _ _ (by assumption) kN (advEnd (e := [_, _]) hh ho hs ?_ ?_ ?_)
    | refine hret _ _ _ _ (by assumption) kN (advEnd (e := [_, _, _]) hh ho hs ?_ ?_ ?_)
    | refine hret _ _ _ _ (by assumption) kN (advEnd (e := [_, _, _, _]) hh ho hs ?_ ?_ ?_)
    | refine hret _ _ _ _ (by assumption) kN (advEnd (e := [_, _, _, _, _]) hh ho hs ?_ ?_ ?_)
    | refine hret _ _ _ _ (by assumption) kN (advEnd (e := [_, _, _, _, _, _]) hh ho hs ?_ ?_ ?_)
    | refine hret _ _ _ _ (by assumption) kN (advEnd (e := [_]) hh ho hs ?_ ?_ ?_)
    | refine hret _ _ _ _ (by assumption) kN (advEnd (e := []) hh ho hs ?_ ?_ ?_)
  all_goals (try simp only [List.cons_append, List.nil_append])
  all_goals first
    | ktd_rel
    | (simp only [OverP]; repeat' (first | exact trivial | tbn_find | (refine ltN ?_; omega) | apply And.intro))
theorem adv_now {im mu fr : Led} {x hx vd lg pl c : Addr} {H : HS} {hv rv nv : Value} {nc n : Nat} {a : Nd} {nm : Str} {rest : List It} {k : Nat} {t1 t2 : Tok} {sub : Str} {its : List Value} {pile : List (List It × Nat)}
    (hc : (c, tup #[hv, rv] nc) ∈ im) (hi : NodeIn im hv (.now a nm)) (hr : ChainIn im rv rest) (hnv : NilIn im nv) (hh : HostIn prog w im x hx vd lg mu H) (hp : PileIn im its pile) (ho : Off pl im) (hof : Off pl fr) (hs : Sep fr im) (hsh : SepH fr hx vd lg) (hpl : pl ≠ hx ∧ pl ≠ vd ∧ pl ≠ lg) (hk : k ≤ 1000) (hsub : sub.length ≤ 1000) (hz : pile.length ≤ 1000) (hlog : H.log.length ≤ 9999) :
    Does prog w (KK w.params) p loose mean mg mb 418 40 400 [.ref c, .int (k : Int) t1, nv, .str sub t2, .ref pl, .ref x] ((pl, listOf its.toArray n) :: (mu ++ (im ++ fr)))
      (AdvPost prog w im fr x hx vd lg pl (adv (.nd (.now a nm)) rest k sub pile H).1 (adv (.nd (.now a nm)) rest k sub pile H).2.1 (adv (.nd (.now a nm)) rest k sub pile H).2.2) := by
  unfold Does
  intro dp un gd cn cs aa ccd cl outer A₀ base h₀ L m s Q E B F X N T hkk hdp hun hret
  have hz1 := hp.length
  have hoffs := hh.offs ho hof hpl
  cases hnv with
  | mk hnv =>
  cases hi with
  | now hm ha hb =>
  refine wpAny_call ?_
  k_dflt ktr_enter
  k_steps
  all_goals (with_reducible rename News h₀ L _ _ => kN)
  all_goals (try simp only [List.push_toArray] at kN)
  all_goals first
    | refine hret _ _ _ _ (by assumption) kN (advEnd (e := [_, _]) hh ho hs ?_ ?_ ?_)
    | refine hret _ _ _ _ (by assumption) kN (advEnd (e := [_, _, _]) hh ho hs ?_ ?_ ?_)
    | refine hret _ _ _ _ (by assumption) kN (advEnd (e := [_, _, _, _]) hh ho hs ?_ ?_ ?_)
    | refine hret _ _ _ _ (by assumption) kN (advEnd (e := [_, _, _, _, _]) hh ho hs ?_ ?_ ?_)
    | refine hret _ _ _ _ (by assumption) kN (advEnd (e := [_, _, _, _, _, _]) hh ho hs ?_ ?_ ?_)
    | refine hret _ _ _ _ (by assumption) kN (advEnd (e := [_]) hh ho hs ?_ ?_ ?_)
    | refine hret _ _ _ _ (by assumption) kN (advEnd (e := []) hh ho hs ?_ ?_ ?_)
  all_goals (try simp only [List.cons_append, List.nil_append])
  all_goals first
    | ktd_rel
    | (simp only [OverP]; repeat' (first | exact trivial | tbn_find | (refine ltN ?_; omega) | apply And.intro))
theorem adv_chars {im mu fr : Led} {x hx vd lg pl c : Addr} {H : HS} {hv rv nv : Value} {nc n : Nat} {y : Str} {rest : List It} {k : Nat} {t1 t2 : Tok} {sub : Str} {its : List Value} {pile : List (List It × Nat)}
    (hc : (c, tup #[hv, rv] nc) ∈ im) (hi : NodeIn im hv (.chars y)) (hr : ChainIn im rv rest) (hnv : NilIn im nv) (hh : HostIn prog w im x hx vd lg mu H) (hp : PileIn im its pile) (ho : Off pl im) (hof : Off pl fr) (hs : Sep fr im) (hsh : SepH fr hx vd lg) (hpl : pl ≠ hx ∧ pl ≠ vd ∧ pl ≠ lg) (hk : k ≤ 1000) (hsub : sub.length ≤ 1000) (hz : pile.length ≤ 1000) (hlog : H.log.length ≤ 9999) :
    Does prog w (KK w.params) p loose mean mg mb 418 40 400 [.ref c, .int (k : Int) t1, nv, .str sub t2, .ref pl, .ref x] ((pl, listOf its.toArray n) :: (mu ++ (im ++ fr)))
      (AdvPost prog w im fr x hx vd lg pl (adv (.nd (.chars y)) rest k sub pile H).1 (adv (.nd (.chars y)) rest k sub pile H).2.1 (adv (.nd (.chars y)) rest k sub pile H).2.2) := by
  unfold Does
  intro dp un gd cn cs aa ccd cl outer A₀ base h₀ L m s Q E B F X N T hkk hdp hun hret
  have hz1 := hp.length
  have hoffs := hh.offs ho hof hpl
  cases hnv with
  | mk hnv =>
  cases hi with
  | chars hm hl =>
  refine wpAny_call ?_
  k_dflt ktr_enter
  k_steps
  all_goals (with_reducible rename News h₀ L _ _ => kN)
  all_goals (try simp only [List.push_toArray] at kN)
  all_goals first
    | refine hret _ _ _ _ (by assumption) kN (advEnd (e := [_, _]) hh ho hs ?_ ?_ ?_)
    | refine hret _ _ _ _ (by assumption) kN (advEnd (e := [_, _, _]) hh ho hs ?_ ?_ ?_)
    | refine hret _ _ _ _ (by assumption) kN (advEnd (e := [_, _, _, _]) hh ho hs ?_ ?_ ?_)
    | refine hret _ _ _ _ (by assumption) kN (advEnd (e := [_, _, _, _, _]) hh ho hs ?_ ?_ ?_)
    | refine hret _ _ _ _ (by assumption) kN (advEnd (e := [_, _, _, _, _, _]) hh ho hs ?_ ?_ ?_)
    | refine hret _ _ _ _ (by assumption) kN (advEnd (e := [_]) hh ho hs ?_ ?_ ?_)
    | refine hret _ _ _ _ (by assumption) kN (advEnd (e := []) hh ho hs ?_ ?_ ?_)
  all_goals first
    | exact hp.mono fun q hq => List.mem_append_right _ hq
    | exact wayOut_yes (nd := .chars y) (sub := sub) (k := k) (H := H) (.head _) (hr.mono fun q hq => List.mem_append_right _ hq) (.mk (List.mem_append_right _ hnv)) (by
        simp only [endOf]
        first
          | exact ⟨_, rfl, rfl⟩
          | exact ⟨_, if_pos (by assumption), by omega⟩
          | exact ⟨_, if_pos (by omega), by omega⟩
          | exact ⟨_, if_pos ⟨by omega, by assumption⟩, by omega⟩)
    | exact wayOut_no (nd := .chars y) (sub := sub) (k := k) (H := H) (by
        simp only [endOf]
        first
          | exact if_neg (ne_true_of_eq_false (by assumption))
          | exact if_neg (by omega)
          | exact if_neg fun h => absurd h.2 (ne_true_of_eq_false (by assumption)))
    | (simp only [OverP]; repeat' (first | exact trivial | tbn_find | (refine ltN ?_; omega) | apply And.intro))
theorem adv_rtab {im mu fr : Led} {x hx vd lg pl c : Addr} {H : HS} {hv rv nv : Value} {nc n : Nat} {j : Nat} {rest : List It} {k : Nat} {t1 t2 : Tok} {sub : Str} {its : List Value} {pile : List (List It × Nat)}
    (hc : (c, tup #[hv, rv] nc) ∈ im) (hi : NodeIn im hv (.rtab j)) (hr : ChainIn im rv rest) (hnv : NilIn im nv) (hh : HostIn prog w im x hx vd lg mu H) (hp : PileIn im its pile) (ho : Off pl im) (hof : Off pl fr) (hs : Sep fr im) (hsh : SepH fr hx vd lg) (hpl : pl ≠ hx ∧ pl ≠ vd ∧ pl ≠ lg) (hk : k ≤ 1000) (hsub : sub.length ≤ 1000) (hz : pile.length ≤ 1000) (hlog : H.log.length ≤ 9999) :
    Does prog w (KK w.params) p loose mean mg mb 418 40 400 [.ref c, .int (k : Int) t1, nv, .str sub t2, .ref pl, .ref x] ((pl, listOf its.toArray n) :: (mu ++ (im ++ fr)))
      (AdvPost prog w im fr x hx vd lg pl (adv (.nd (.rtab j)) rest k sub pile H).1 (adv (.nd (.rtab j)) rest k sub pile H).2.1 (adv (.nd (.rtab j)) rest k sub pile H).2.2) := by
  unfold Does
  intro dp un gd cn cs aa ccd cl outer A₀ base h₀ L m s Q E B F X N T hkk hdp hun hret
  have hz1 := hp.length
  have hoffs := hh.offs ho hof hpl
  cases hnv with
  | mk hnv =>
  cases hi with
  | rtab hm hl =>
  refine wpAny_call ?_
  k_dflt ktr_enter
  k_steps
  all_goals (with_reducible rename News h₀ L _ _ => kN)
  all_goals (try simp only [List.push_toArray] at kN)
  all_goals first
    | refine hret _ _ _ _ (by assumption) kN (advEnd (e := [_, _]) hh ho hs ?_ ?_ ?_)
    | refine hret _ _ _ _ (by assumption) kN (advEnd (e := [_, _, _]) hh ho hs ?_ ?_ ?_)
    | refine hret _ _ _ _ (by assumption) kN (advEnd (e := [_, _, _, _]) hh ho hs ?_ ?_ ?_)
    | refine hret _ _ _ _ (by assumption) kN (advEnd (e := [_, _, _, _, _]) hh ho hs ?_ ?_ ?_)
    | refine hret _ _ _ _ (by assumption) kN (advEnd (e := [_, _, _, _, _, _]) hh ho hs ?_ ?_ ?_)
    | refine hret _ _ _ _ (by assumption) kN (advEnd (e := [_]) hh ho hs ?_ ?_ ?_)
    | refine hret _ _ _ _ (by assumption) kN (advEnd (e := []) hh ho hs ?_ ?_ ?_)
  all_goals first
    | exact hp.mono fun q hq => List.mem_append_right _ hq
    | exact wayOut_yes (nd := .rtab j) (sub := sub) (k := k) (H := H) (.head _) (hr.mono fun q hq => List.mem_append_right _ hq) (.mk (List.mem_append_right _ hnv)) (by
        simp only [endOf]
        first
          | exact ⟨_, rfl, rfl⟩
          | exact ⟨_, if_pos (by assumption), by omega⟩
          | exact ⟨_, if_pos (by omega), by omega⟩
          | exact ⟨_, if_pos ⟨by omega, by assumption⟩, by omega⟩)
    | exact wayOut_no (nd := .rtab j) (sub := sub) (k := k) (H := H) (by
        simp only [endOf]
        first
          | exact if_neg (ne_true_of_eq_false (by assumption))
          | exact if_neg (by omega)
          | exact if_neg fun h => absurd h.2 (ne_true_of_eq_false (by assumption)))
    | (simp only [OverP]; repeat' (first | exact trivial | tbn_find | (refine ltN ?_; omega) | apply And.intro))
theorem adv_rem {im mu fr : Led} {x hx vd lg pl c : Addr} {H : HS} {hv rv nv : Value} {nc n : Nat}  {rest : List It} {k : Nat} {t1 t2 : Tok} {sub : Str} {its : List Value} {pile : List (List It × Nat)}
    (hc : (c, tup #[hv, rv] nc) ∈ im) (hi : NodeIn im hv (.rem)) (hr : ChainIn im rv rest) (hnv : NilIn im nv) (hh : HostIn prog w im x hx vd lg mu H) (hp : PileIn im its pile) (ho : Off pl im) (hof : Off pl fr) (hs : Sep fr im) (hsh : SepH fr hx vd lg) (hpl : pl ≠ hx ∧ pl ≠ vd ∧ pl ≠ lg) (hk : k ≤ 1000) (hsub : sub.length ≤ 1000) (hz : pile.length ≤ 1000) (hlog : H.log.length ≤ 9999) :
    Does prog w (KK w.params) p loose mean mg mb 418 40 400 [.ref c, .int (k : Int) t1, nv, .str sub t2, .ref pl, .ref x] ((pl, listOf its.toArray n) :: (mu ++ (im ++ fr)))
      (AdvPost prog w im fr x hx vd lg pl (adv (.nd .rem) rest k sub pile H).1 (adv (.nd .rem) rest k sub pile H).2.1 (adv (.nd .rem) rest k sub pile H).2.2) := by
  unfold Does
  intro dp un gd cn cs aa ccd cl outer A₀ base h₀ L m s Q E B F X N T hkk hdp hun hret
  have hz1 := hp.length
  have hoffs := hh.offs ho hof hpl
  cases hnv with
  | mk hnv =>
  cases hi with
  | rem hm =>
  refine wpAny_call ?_
  k_dflt ktr_enter
  k_steps
  all_goals (with_reducible rename News h₀ L _ _ => kN)
  all_goals (try simp only [List.push_toArray] at kN)
  all_goals first
    | refine hret _ _ _ _ (by assumption) kN (advEnd (e := [_, _]) hh ho hs ?_ ?_ ?_)
    | refine hret _ _ _ _ (by assumption) kN (advEnd (e := [_, _, _]) hh ho hs ?_ ?_ ?_)
    | refine hret _ _ _ _ (by assumption) kN (advEnd (e := [_, _, _, _]) hh ho hs ?_ ?_ ?_)
    | refine hret _ _ _ _ (by assumption) kN (advEnd (e := [_, _, _, _, _]) hh ho hs ?_ ?_ ?_)
    | refine hret _ _ _ _ (by assumption) kN (advEnd (e := [_, _, _, _, _, _]) hh ho hs ?_ ?_ ?_)
    | refine hret _ _ _ _ (by assumption) kN (advEnd (e := [_]) hh ho hs ?_ ?_ ?_)
    | refine hret _ _ _ _ (by assumption) kN (advEnd (e := []) hh ho hs ?_ ?_ ?_)
  all_goals first
    | exact hp.mono fun q hq => List.mem_append_right _ hq
    | exact wayOut_yes (nd := .rem) (sub := sub) (k := k) (H := H) (.head _) (hr.mono fun q hq => List.mem_append_right _ hq) (.mk (List.mem_append_right _ hnv)) (by
        simp only [endOf]
        first
          | exact ⟨_, rfl, rfl⟩
          | exact ⟨_, if_pos (by assumption), by omega⟩
          | exact ⟨_, if_pos (by omega), by omega⟩
          | exact ⟨_, if_pos ⟨by omega, by assumption⟩, by omega⟩)
    | exact wayOut_no (nd := .rem) (sub := sub) (k := k) (H := H) (by
        simp only [endOf]
        first
          | exact if_neg (ne_true_of_eq_false (by assumption))
          | exact if_neg (by omega)
          | exact if_neg fun h => absurd h.2 (ne_true_of_eq_false (by assumption)))
    | (simp only [OverP]; repeat' (first | exact trivial | tbn_find | (refine ltN ?_; omega) | apply And.intro))
theorem adv_endNow {im mu fr : Led} {x hx vd lg pl c : Addr} {H : HS} {hv rv nv : Value} {nc n : Nat} {nm : Str} {b : Nat} {rest : List It} {k : Nat} {t1 t2 : Tok} {sub : Str} {its : List Value} {pile : List (List It × Nat)}
    (hc : (c, tup #[hv, rv] nc) ∈ im) (hi : ItIn im hv (.endNow nm b)) (hr : ChainIn im rv rest) (hnv : NilIn im nv) (hh : HostIn prog w im x hx vd lg mu H) (hp : PileIn im its pile) (ho : Off pl im) (hof : Off pl fr) (hs : Sep fr im) (hsh : SepH fr hx vd lg) (hpl : pl ≠ hx ∧ pl ≠ vd ∧ pl ≠ lg) (hk : k ≤ 1000) (hsub : sub.length ≤ 1000) (hz : pile.length ≤ 1000) (hlog : H.log.length ≤ 9999) :
    Does prog w (KK w.params) p loose mean mg mb 418 40 400 [.ref c, .int (k : Int) t1, nv, .str sub t2, .ref pl, .ref x] ((pl, listOf its.toArray n) :: (mu ++ (im ++ fr)))
      (AdvPost prog w im fr x hx vd lg pl (adv (.endNow nm b) rest k sub pile H).1 (adv (.endNow nm b) rest k sub pile H).2.1 (adv (.endNow nm b) rest k sub pile H).2.2) := by
  unfold Does
  intro dp un gd cn cs aa ccd cl outer A₀ base h₀ L m s Q E B F X N T hkk hdp hun hret
  have hz1 := hp.length
  have hoffs := hh.offs ho hof hpl
  cases hnv with
  | mk hnv =>
  cases hi with
  | endNow hm hb hl =>
  have hs' : Sep ((pl, listOf its.toArray n) :: fr) im := fun f hf => by
    rcases List.mem_cons.mp hf with rfl | hf
    · exact ho
    · exact hs f hf
  have hsh' : SepH ((pl, listOf its.toArray n) :: fr) hx vd lg := fun f hf => by
    rcases List.mem_cons.mp hf with rfl | hf
    · exact hpl
    · exact hsh f hf
  clear hs hsh
  refine wpAny_call ?_
  k_dflt ktr_enter
  k_steps
  (with_reducible rename News h₀ L _ _ => kN)
  exact hret _ _ _ _ (by assumption) kN (advEnd2 (by assumption) (by assumption) (by assumption) (allLt_of (by assumption)) hp hr (.mk hnv))
theorem adv_does {im mu fr : Led} {x hx vd lg pl c : Addr} {H : HS} {hv rv nv : Value} {nc n : Nat} {i : It} {rest : List It} {k : Nat} {t1 t2 : Tok} {sub : Str} {its : List Value} {pile : List (List It × Nat)}
    (hc : (c, tup #[hv, rv] nc) ∈ im) (hi : ItIn im hv i) (hsu : supp i H = true) (hr : ChainIn im rv rest) (hnv : NilIn im nv) (hh : HostIn prog w im x hx vd lg mu H) (hp : PileIn im its pile) (ho : Off pl im) (hof : Off pl fr) (hs : Sep fr im) (hsh : SepH fr hx vd lg) (hpl : pl ≠ hx ∧ pl ≠ vd ∧ pl ≠ lg) (hk : k ≤ 1000) (hsub : sub.length ≤ 1000) (hz : pile.length ≤ 1000) (hlog : H.log.length ≤ 9999) :
    Does prog w (KK w.params) p loose mean mg mb 418 40 400 [.ref c, .int (k : Int) t1, nv, .str sub t2, .ref pl, .ref x] ((pl, listOf its.toArray n) :: (mu ++ (im ++ fr)))
      (AdvPost prog w im fr x hx vd lg pl (adv i rest k sub pile H).1 (adv i rest k sub pile H).2.1 (adv i rest k sub pile H).2.2) := by
  cases i with
  | endNow nm b => exact adv_endNow hc hi hr hnv hh hp ho hof hs hsh hpl hk hsub hz hlog
  | nd y =>
    cases hi with
    | nd hi =>
      cases y
      all_goals first
        | exact absurd hsu Bool.false_ne_true
        | exact adv_cat hc hi hr hnv hh hp ho hof hs hsh hpl hk hsub hz hlog
        | exact adv_now hc hi hr hnv hh hp ho hof hs hsh hpl hk hsub hz hlog
        | exact adv_chars hc hi hr hnv hh hp ho hof hs hsh hpl hk hsub hz hlog
        | exact adv_rtab hc hi hr hnv hh hp ho hof hs hsh hpl hk hsub hz hlog
        | exact adv_rem hc hi hr hnv hh hp ho hof hs hsh hpl hk hsub hz hlog
end
end Mine
end
section
open PySem PySem.Spec PySem.Calls PySem.W PyProof.Rows
open Mine
local macro_rules | `(tactic| k_all) => `(tactic| assumption)
local macro_rules | `(tactic| k_mem) => `(tactic| first | assumption | (refine' List.mem_cons_of_mem _ ?_; k_mem))
local macro_rules | `(tactic| walk_at "call ref") => `(tactic| (k_here; (with_reducible show wpAny _ _ (call (Value.ref _) _) _ _ _); k_dflt (refine wpAny_call ?_; (refine' code_def ?k1 ?k2 ?k3 ?k4 ?k5 ?kA ?kF ?kK ?k6 ?k7 ?k8 ?k9 ?kB ?_ ?c2 ?c3 ?c4 ?c5; (case kA => exact rfl); (case kF => exact rfl); (case kK => exact rfl); (case k1 => k_asm); (case k2 => k_asm); (case k3 => k_asm); (case k4 => k_asm); (case k5 => k_asm); (case k6 => k_is); (case k7 => k_is); (case k8 => ktr_room); (case k9 => exact BindsTo.of_eq rfl); (case c5 => decide); (case kB => exact locs rfl); (case c2 => exact rfl); (case c3 => exact rfl); (case c4 => exact rfl); k_whole; intro g' L' h' FG' F' N' B' X' T'; (try dsimp only); (try k_fold)))))
local macro_rules | `(tactic| walk_at "compareOp NotIn str ref") => `(tactic| (k_here; (with_reducible show wpAny _ _ (compareOp CmpOp.NotIn (Value.str _ _) (Value.ref _)) _ _ _); k_dflt (refine' notin_Kt ?k1 ?k2 ?k3 ?k4 ?k5 ?_; (case k1 => k_asm); (case k2 => k_asm); (case k3 => k_is); (case k4 => kde_strs); (case k5 => exact rfl); k_whole)))
local macro_rules | `(tactic| walk_at "getMethod ref") => `(tactic| (k_here; k_dflt (refine' hostM ?hh ?k1 ?k2 ?k3 ?hs ?k5 ?k6 ?k7 ?k8 ?_; (case hh => assumption); (case k1 => k_asm); (case k2 => k_asm); (case k3 => k_asm); (case hs => (intro q hq; simp only [List.mem_cons, List.mem_append] at hq ⊢; rcases hq with h | h <;> simp [h])); (case k5 => k_is); (case k6 => k_is); (case k7 => k_is); (case k8 => (intros; rfl)); k_whole)))
local macro_rules | `(tactic| walk_at "call ref") => `(tactic| (k_here; (with_reducible show wpAny _ _ (call (Value.ref 226) _) _ _ _); k_dflt (refine' Does.use (assign_does ?hh ?hsp ?hsh ?hs ?hr ?hv) ?k1 ?k2 ?k3 ?k4 ?k5 ?k6 ?k7 ?k8 ?k9 ?_; (case hh => assumption); (case hsp => assumption); (case hsh => assumption); (case hs => assumption); (case hr => assumption); (case hv => first | exact DvIs.i | exact DvIs.s); (case k1 => k_asm); (case k2 => k_asm); (case k3 => k_asm); (case k4 => k_asm); (case k5 => k_asm); (case k6 => exact rfl); (case k7 => (intro q hq; simp only [List.mem_cons, List.mem_append] at hq ⊢; rcases hq with h | h | h | h <;> simp [h])); (case k8 => ktr_room); (case k9 => ktr_units); k_whole); (intro r' led' h' tk' F' N' P'); (obtain ⟨mu', im', Pm, Ps, Psep, Ph, Pe⟩ := P'); (subst Pe); (replace N' := News.sub N' Pm); clear Pm; (try dsimp only); (try k_sweep)))
local macro_rules | `(tactic| walk_at "exec While") => `(tactic| (k_here; refine stop_intro ?_))
local macro_rules | `(tactic| walk_at "call builtin:len") => `(tactic| (k_here; (with_reducible show wpAny _ _ (call (Value.builtin "len") [Value.ref _]) _ _ _); k_dflt (refine' len_led ?k1 ?k2 ?k3 ?_; (case k1 => k_asm); (case k2 => k_mem); (case k3 => (first | omega | (simp only [List.length_append, List.length_cons, List.length_nil]; omega))); k_whole)))
local macro_rules | `(tactic| walk_at "call builtin:list.pop") => `(tactic| (k_here; (with_reducible show wpAny _ _ (call (Value.builtin _) [Value.ref _]) _ _ _); k_dflt (refine' pop_led ?k1 ?k2 ?k3 ?k4 ?_; (case k1 => k_asm); (case k2 => k_asm); (case k3 => k_upd); (case k4 => omega)); intro h' F' N'; (try k_sweep)))
local macro_rules | `(tactic| walk_at "call ref") => `(tactic| (k_here; (with_reducible show wpAny _ _ (call (Value.ref 233) _) _ _ _); k_dflt (refine' Does.use (step_does ?hh ?hsp ?hsh ?hs) ?k1 ?k2 ?k3 ?k4 ?k5 ?k6 ?k7 ?k8 ?k9 ?_; (case hh => assumption); (case hsp => assumption); (case hsh => assumption); (case hs => assumption); (case k1 => k_asm); (case k2 => k_asm); (case k3 => k_asm); (case k4 => k_asm); (case k5 => k_asm); (case k6 => exact rfl); (case k7 => (intro q hq; simp only [List.mem_cons, List.mem_append] at hq ⊢; rcases hq with h | h | h | h <;> simp [h])); (case k8 => ktr_room); (case k9 => ktr_units); k_whole); (intro r' led' h' tk' F' N' P'); (obtain ⟨mu', Pm, Ph, Pe⟩ := P'); (subst Pe); (replace N' := News.sub N' Pm); clear Pm; (try dsimp only); (try k_sweep)))
local macro_rules | `(tactic| walk_at "call ref") => `(tactic| (k_here; (with_reducible show wpAny _ _ (call (Value.ref 418) _) _ _ _); refine stop_intro ?_))
local macro_rules | `(tactic| walk_at "compareOp Eq ref str") => `(tactic| (k_here; (with_reducible show wpAny _ _ (compareOp CmpOp.Eq (Value.ref _) (Value.str _ _)) _ _ _); k_dflt (refine' eq_tup_str ?k1 ?k2 ?k3 ?_; (case k1 => k_asm); (case k2 => k_mem); (case k3 => ktr_units); k_whole)))
section
open PySem PySem.Spec PySem.Calls PySem.W PyProof.Rows
namespace Mine
section
variable {prog : Program} {w : World} {p : Program} {loose : List Str} {mean : ExcName → Option Value} {mg mb : Str → Option Value}
set_option maxRecDepth 100000
set_option maxHeartbeats 4000000
theorem tried_does {im mu fr : Led} {x hx vd lg : Addr} {H H' : HS} {nv : Value} {nd : Nd} {b fuel : Nat} {t1 t2 : Tok} {sub : Str} {res : Option Nat}
    (hn : NodeIn im nv nd) (hh : HostIn prog w im x hx vd lg mu H) (hs : Sep fr im) (hsh : SepH fr hx vd lg) (hb : b ≤ 1000) (hsub : sub.length ≤ 1000) (hgo : go sub fuel (some ([.nd nd], b)) [] H = some (res, H')) :
    Does prog w (KK w.params) p loose mean mg mb 411 80 800 [nv, .str sub t1, .int (b : Int) t2, .ref x] (mu ++ (im ++ fr)) (TriedPost prog w im fr x hx vd lg res H') := by
  unfold Does
  intro dp un gd cn cs aa ccd cl outer A₀ base h₀ L m s Q E B F X N T hkk hdp hun hret
  refine wpAny_call ?_
  k_dflt ktr_enter
  k_steps
  rename_i pl _ l1 _ kF kN
  unfold Stop
  have hoff : ∀ q ∈ mu ++ (im ++ fr), q.1 ≠ pl := fun q hq => Nat.ne_of_lt (allLt_mem l1.2.2.2 q hq)
  have hpl : pl ≠ hx ∧ pl ≠ vd ∧ pl ≠ lg := by
    cases hh with
    | mk => exact ⟨fun e => hoff _ (.head _) e.symm, fun e => hoff _ (.tail _ (.head _)) e.symm, fun e => hoff _ (.tail _ (.tail _ (.head _))) e.symm⟩
  have hof : Off pl fr := fun q hq => hoff q (List.mem_append_right _ (List.mem_append_right _ hq))
  have hoim : Off pl im := fun q hq => hoff q (List.mem_append_right _ (List.mem_append_left _ hq))
  have kN2 := News.sub (l' := (pl, _) :: (mu ++ (([_, _, _] ++ im) ++ fr))) kN mem_shuf2
  refine While_inv2 (JO prog w im fr x hx vd lg pl sub t1 res H') kF (n₀ := fuel + 1) kN2 ⟨mu, _, [_], 0, [([.nd nd], b)], H, rfl, fun q hq => List.mem_append_right _ hq,
    Off.cons (Nat.ne_of_lt l1.1) (Off.cons (Nat.ne_of_lt l1.2.1) (Off.cons (Nat.ne_of_lt l1.2.2.1) hoim)), OverA.sep (mu := mu) (im0 := im) hs ?_, .snoc (l := []) (.mk (.head _) (.cons (.tail _ (.tail _ (.head _))) (.nd (hn.mono fun q hq => List.mem_append_right _ hq)) .nil) (.mk (.tail _ (.head _)))) .nil, hh.growsA (im0 := im ++ fr) ?_, ?_, rfl, rfl, rfl⟩ ?_ ?_
  · simp only [OverA]
    repeat' (first | exact trivial | tbn_find | exact allLt_of (by assumption) | apply And.intro)
  · simp only [OverA]
    repeat' (first | exact trivial | tbn_find | exact allLt_of (by assumption) | apply And.intro)
  · exact hgo
  · rintro n m₁ news₁ h₁ tk₁ F₁ N₁ ⟨mu1, im1, its, c, pile, H1, rfl, hsub1, ho1, hs1, hp1, hh1, hgo1, e1, e2, e3⟩
    have F₂ := Fr.known3 F₁ e1 e2 e3
    clear F₁ l1 hoff kF kN
    have hoffs := hh1.offs ho1 hof hpl
    have hs1' := Sep.cons (o := listOf its.toArray c) ho1 hs1
    cases hp1 with
    | nil =>
      obtain ⟨rfl, rfl⟩ := go_end hgo1
      k_steps
      exact hret _ _ _ _ (by assumption) (by assumption) ⟨mu1, im1, fun q hq => .tail _ hq, hsub1, hs1, hh1, .none⟩
    | @snoc l v i r hw hp1 =>
      cases hw with
      | @mk a na u v' k1 t r1 hm hc hnn =>
      have hz0 := hp1.length
      obtain ⟨n, rfl, hz1, hgo2⟩ := go_pop hgo1
      have hz2 : (l ++ [Value.ref a]).length = l.length + 1 := by simp
      k_steps
      · rename_i kF kN
        unfold Stop
        refine While_inv2 (JI n prog w im fr x hx vd lg pl sub t1 res H') kF (n₀ := n) kN ⟨Nat.le_refl _, mu1, im1, l, c + 1, r, H1, r1, k1, u, v', t, rfl, hsub1, ho1, hs1, hp1, hh1, hgo2, hc, hnn, rfl, rfl, rfl, rfl, rfl, rfl⟩ ?_ ?_
        · rintro n2 m₂ news₂ h₂ tk₂ F₃ N₃ ⟨hle, mu2, im2, its2, c2, pile2, H2, ch2, k2, cv2, nv2, t2', rfl, hsub2, ho2, hs2, hp2, hh2, hgo3, hc2, hnn2, e11, e12, e13, e14, e15, e16⟩
          have F₄ := Fr.known6 F₃ e11 e12 e13 e14 e15 e16
          clear F₃ kF kN hh1 hs1' hs1 hoffs hs
          have hoffs := hh2.offs ho2 hof hpl
          have hs2' := Sep.cons (o := listOf its2.toArray c2) ho2 hs2
          have hsh' := SepH.cons (a := pl) (o := listOf its2.toArray c2) hpl hsh
          clear hs2 hsh hh
          cases hc2 with
          | nil =>
            obtain ⟨rfl, rfl⟩ := go_done hgo3
            cases hnn2 with
            | mk hnn2 =>
            k_steps
            refine ws_ret ?_
            dsimp only
            k_steps
            (with_reducible rename News h₀ L _ _ => kN)
            refine hret _ _ _ _ (by assumption) kN ⟨mu2, [_, _] ++ im2, mem_shuf3 (e := [_, _]), fun q hq => List.mem_append_right _ (hsub2 q hq), OverA.sep (mu := mu2) (im0 := im2) (fun f hf => hs2' f (.tail _ hf)) ?_, hh2.growsA (im0 := im2 ++ fr) ?_, .some (.head _) (.tail _ (.head _))⟩
            · simp only [OverA]
              repeat' (first | exact trivial | tbn_find | exact allLt_of (by assumption) | apply And.intro)
            · simp only [OverA]
              repeat' (first | exact trivial | tbn_find | exact allLt_of (by assumption) | apply And.intro)
          | @cons cc nn uu vv ii rr hcm hci hcr =>
            obtain ⟨n3, rfl, hsup, hk1, hst, hlg, hpz, hgo4⟩ := go_step hgo3
            k_steps
            unfold Stop
            refine Does.use (adv_does (n := c2) (H := H2.step) hcm hci hsup hcr hnn2 (by assumption) hp2 ho2 hof (fun f hf => hs2' f (.tail _ hf)) (fun f hf => hsh' f (.tail _ hf)) hpl hk1 hsub hpz hlg) (by assumption) (by assumption) (by assumption) (by assumption) (by assumption) rfl ?_ (by ktr_room) (by ktr_units) ?_
            · intro q hq
              simp only [List.mem_cons, List.mem_append] at hq ⊢
              rcases hq with h | h | h | h <;> simp [h]
            · intro r5 news5 h5 tk5 F5 N5 P5
              obtain ⟨mu5, im5, its5, c5, hm5, hsub5, ho5, hs5, hp5, hh5, hw5⟩ := P5
              replace N5 := News.sub N5 hm5
              clear hm5
              k_sweep
              generalize (adv ii rr k2 sub pile2 H2.step).1 = oo at hw5 hgo4
              generalize (adv ii rr k2 sub pile2 H2.step).2.1 = pp at hp5 hgo4
              generalize (adv ii rr k2 sub pile2 H2.step).2.2 = HH at hh5 hgo4
              cases hw5 with
              | none =>
                k_steps
                refine ws_brk ?_
                dsimp only
                k_steps
                exact ws_next (n' := n3) (by assumption) (by assumption) (by omega) ⟨mu5, im5, its5, c5, pp, HH, rfl, fun q hq => hsub5 q (hsub2 q hq), ho5, hs5, hp5, hh5, hgo4, rfl, rfl, rfl⟩
              | some hw5 =>
                cases hw5 with
                | @mk a6 n6 u6 v6 k6 t6 r6 hm6 hc6 hnn6 =>
                k_steps
                exact ws_next (n' := n3) (by assumption) (by assumption) (by omega) ⟨by omega, mu5, im5, its5, c5, pp, HH, r6, k6, u6, v6, t6, rfl, fun q hq => hsub5 q (hsub2 q hq), ho5, hs5, hp5, hh5, hgo4, hc6, hnn6, rfl, rfl, rfl, rfl, rfl, rfl⟩
        · first | passes_own | with_unfolding_all passes_own
  · first | passes_own | with_unfolding_all passes_own
end
end Mine
end
section
open PySem PySem.Spec PySem.Calls PySem.W PyProof.Rows
open Mine
local macro_rules | `(tactic| walk_at "call type:range") => `(tactic| (k_here; (with_reducible show wpAny _ _ (call (Value.type "range") [Value.int _ _]) _ _ _); k_dflt (refine' range1_N ?k1 ?k2 ?_; (case k1 => k_asm); (case k2 => k_asm); k_whole); intro r' h' tk' t1' t2' F' N' l1; (try k_lt l1); (try k_sweep)))
local macro_rules | `(tactic| walk_at "pyIter ref") => `(tactic| (k_here; refine stop_intro ?_))
local macro_rules | `(tactic| walk_at "call ref") => `(tactic| (k_here; (with_reducible show wpAny _ _ (call (Value.ref 411) _) _ _ _); refine stop_intro ?_))
local macro_rules | `(tactic| walk_at "call ref") => `(tactic| (k_here; (with_reducible show wpAny _ _ (call (Value.ref 404) _) _ _ _); refine stop_intro ?_))
section
open PySem PySem.Spec PySem.Calls PySem.W PyProof.Rows
namespace Mine
section
variable {prog : Program} {w : World} {p : Program} {loose : List Str} {mean : ExcName → Option Value} {mg mb : Str → Option Value}
set_option maxRecDepth 100000
set_option maxHeartbeats 4000000
theorem match_at_does {im mu fr : Led} {x hx vd lg : Addr} {H H' : HS} {nv : Value} {nd : Nd} {b fuel : Nat} {t1 t2 : Tok} {sub : Str} {res : Option Nat}
    (hn : NodeIn im nv nd) (hh : HostIn prog w im x hx vd lg mu H) (hs : Sep fr im) (hsh : SepH fr hx vd lg) (hb : b ≤ 1000) (hsub : sub.length ≤ 1000) (hgo : go sub fuel (some ([.nd nd], b)) [] H = some (res, H')) :
    Does prog w (KK w.params) p loose mean mg mb 404 90 900 [nv, .str sub t1, .int (b : Int) t2, .ref x] (mu ++ (im ++ fr)) (MatchPost prog w im fr x hx vd lg (res.map fun k => (b, k)) H') := by
  unfold Does
  intro dp un gd cn cs aa ccd cl outer A₀ base h₀ L m s Q E B F X N T hkk hdp hun hret
  refine wpAny_call ?_
  k_dflt ktr_enter
  k_steps
  unfold Stop
  refine Does.use (tried_does hn hh hs hsh hb hsub hgo) (by assumption) (by assumption) (by assumption) (by assumption) (by assumption) rfl (fun q hq => hq) (by ktr_room) (by ktr_units) ?_
  intro r5 news5 h5 tk5 F5 N5 P5
  obtain ⟨mu5, im5, hm5, hsub5, hs5, hh5, hf5⟩ := P5
  replace N5 := News.sub N5 hm5
  clear hm5
  k_sweep
  cases hf5 with
  | none =>
    k_steps
    exact hret _ _ _ _ (by assumption) (by assumption) ⟨mu5, im5, fun q hq => hq, hsub5, hs5, hh5, .none⟩
  | some ha hl =>
    k_steps
    (with_reducible rename News h₀ L _ _ => kN)
    exact hret _ _ _ _ (by assumption) kN ⟨mu5, _ :: im5, mem_one, fun q hq => .tail _ (hsub5 q hq), Sep.up (allLt_app (allLt_app (allLt_of (by assumption)))) hs5, hh5.grow (im0 := im5 ++ fr) (allLt_of (by assumption)), .some (.head _) (.tail _ hl)⟩
theorem match_plain_does {im mu fr : Led} {x hx vd lg : Addr} {H H' : HS} {nv : Value} {nd : Nd} {fuel : Nat} {anch : Bool} {t1 : Tok} {sub : Str} {res : Option (Nat × Nat)}
    (hn : NodeIn im nv nd) (hh : HostIn prog w im x hx vd lg mu H) (hs : Sep fr im) (hsh : SepH fr hx vd lg) (hsub : sub.length ≤ 1000) (hgo : mloop sub nd fuel (if anch then 1 else sub.length + 1) 0 H = some (res, H')) :
    Does prog w (KK w.params) p loose mean mg mb 397 100 1000 [nv, .str sub t1, .bool anch, .ref x] (mu ++ (im ++ fr)) (MatchPost prog w im fr x hx vd lg res H') := by
  unfold Does
  intro dp un gd cn cs aa ccd cl outer A₀ base h₀ L m s Q E B F X N T hkk hdp hun hret
  refine wpAny_call ?_
  k_dflt ktr_enter
  have cnt1 : (if anch then 1 else sub.length + 1) ≤ 2000 := by split <;> omega
  generalize hcn : (if anch then 1 else sub.length + 1) = cnt at cnt1 hgo
  cases anch with
  | true =>
    k_steps
    rename_i kF kN l1
    unfold Stop
    refine range_loop (JM prog w im fr x hx vd lg nv sub t1 nd fuel res H' cnt) rfl kF kN (.head _) (small_one (by omega) (by omega) (by omega) (by omega)) cnt (by rw [rangeSize_nat]; simp at hcn; omega) (fun q hq => .tail _ hq) ⟨mu, im, H, rfl, fun _ h => h, hs, hh, Nat.zero_le _, hgo, rfl, rfl, rfl⟩ ?_ ?_
    · rintro i ti m₁ news₁ I ro h₁ tk₁ hi hoI ⟨mu1, im1, H1, rfl, hsub1, hs1, hh1, hle, hml, e1, e2, e3⟩ F₁ N₁
      rw [known3_eq e1 e2 e3] at F₁
      clear kF kN hh hs
      have hI := hh1.addrs hoI
      have hoi : Off I im1 := fun q hq => hoI q (List.mem_append_right _ (List.mem_append_left _ hq))
      have hof : Off I fr := fun q hq => hoI q (List.mem_append_right _ (List.mem_append_right _ hq))
      obtain ⟨c, hc⟩ : ∃ c, cnt - i = c + 1 := ⟨cnt - i - 1, by omega⟩
      rw [hc] at hml
      obtain ⟨r1, H2, hg1, hres⟩ := mloop_turn hml
      have eI : (0 : Int) + (i : Int) = (i : Int) := by omega
      rw [eI] at F₁
      k_steps
      unfold Stop
      refine Does.use (match_at_does (fr := (I, ro) :: fr) (hn.mono hsub1) hh1 (Sep.cons hoi hs1) (SepH.cons hI hsh) (by simp at hcn; omega) hsub hg1) (by assumption) (by assumption) (by assumption) (by assumption) (by assumption) rfl ?_ (by ktr_room) (by ktr_units) ?_
      · intro q hq
        simp only [List.mem_cons, List.mem_append] at hq ⊢
        rcases hq with h | h | h | h <;> simp [h]
      · intro r5 news5 h5 tk5 F5 N5 P5
        obtain ⟨mu5, im5, hm5, hsub5, hs5, hh5, hf5⟩ := P5
        replace N5 := News.sub N5 hm5
        clear hm5
        k_sweep
        have hoff5 := hh5.offs (hs5 _ (.head _)) hof hI
        rcases hres with ⟨rfl, hrest⟩ | ⟨k5, rfl, rfl, rfl⟩
        · cases hf5 with
          | none =>
            k_steps
            (with_reducible rename News _ _ _ _ => kN)
            refine rs_next (by assumption) (News.sub kN ?_) hoff5 ⟨mu5, im5, H2, rfl, fun q hq => hsub5 q (hsub1 q hq), fun f hf => hs5 f (.tail _ hf), hh5, by omega, ?_, rfl, rfl, rfl⟩
            · intro q hq
              simp only [List.mem_cons, List.mem_append] at hq ⊢
              rcases hq with h | h | h | h <;> simp [h]
            · have : cnt - (i + 1) = c := by omega
              rw [this]; exact hrest
        · cases hf5 with
          | some ha hl =>
            k_steps
            refine rs_ret ?_
            dsimp only
            k_steps
            (with_reducible rename News h₀ L _ _ => kN)
            exact hret _ _ _ _ (by assumption) kN ⟨mu5, im5, fun q hq => (by
              simp only [List.mem_cons, List.mem_append] at hq ⊢
              rcases hq with h | h | h <;> simp [h]), fun q hq => hsub5 q (hsub1 q hq), fun f hf => hs5 f (.tail _ hf), hh5, .some ha hl⟩
    · rintro m₁ news₁ h₁ tk₁ ⟨mu1, im1, H1, rfl, hsub1, hs1, hh1, hle, hml, e1, e2, e3⟩ F₁ N₁
      rw [Nat.sub_self] at hml
      unfold mloop at hml
      cases hml
      k_steps
      exact hret _ _ _ _ (by assumption) (by assumption) ⟨mu1, im1, fun q hq => hq, hsub1, hs1, hh1, .none⟩
  | false =>
    k_steps
    rename_i kF kN l1
    unfold Stop
    refine range_loop (JM prog w im fr x hx vd lg nv sub t1 nd fuel res H' cnt) rfl kF kN (.head _) (small_one (by omega) (by omega) (by omega) (by omega)) cnt (by rw [rangeSize_nat]; simp at hcn; omega) (fun q hq => .tail _ hq) ⟨mu, im, H, rfl, fun _ h => h, hs, hh, Nat.zero_le _, hgo, rfl, rfl, rfl⟩ ?_ ?_
    · rintro i ti m₁ news₁ I ro h₁ tk₁ hi hoI ⟨mu1, im1, H1, rfl, hsub1, hs1, hh1, hle, hml, e1, e2, e3⟩ F₁ N₁
      rw [known3_eq e1 e2 e3] at F₁
      clear kF kN hh hs
      have hI := hh1.addrs hoI
      have hoi : Off I im1 := fun q hq => hoI q (List.mem_append_right _ (List.mem_append_left _ hq))
      have hof : Off I fr := fun q hq => hoI q (List.mem_append_right _ (List.mem_append_right _ hq))
      obtain ⟨c, hc⟩ : ∃ c, cnt - i = c + 1 := ⟨cnt - i - 1, by omega⟩
      rw [hc] at hml
      obtain ⟨r1, H2, hg1, hres⟩ := mloop_turn hml
      have eI : (0 : Int) + (i : Int) = (i : Int) := by omega
      rw [eI] at F₁
      k_steps
      unfold Stop
      refine Does.use (match_at_does (fr := (I, ro) :: fr) (hn.mono hsub1) hh1 (Sep.cons hoi hs1) (SepH.cons hI hsh) (by simp at hcn; omega) hsub hg1) (by assumption) (by assumption) (by assumption) (by assumption) (by assumption) rfl ?_ (by ktr_room) (by ktr_units) ?_
      · intro q hq
        simp only [List.mem_cons, List.mem_append] at hq ⊢
        rcases hq with h | h | h | h <;> simp [h]
      · intro r5 news5 h5 tk5 F5 N5 P5
        obtain ⟨mu5, im5, hm5, hsub5, hs5, hh5, hf5⟩ := P5
        replace N5 := News.sub N5 hm5
        clear hm5
        k_sweep
        have hoff5 := hh5.offs (hs5 _ (.head _)) hof hI
        rcases hres with ⟨rfl, hrest⟩ | ⟨k5, rfl, rfl, rfl⟩
        · cases hf5 with
          | none =>
            k_steps
            (with_reducible rename News _ _ _ _ => kN)
            refine rs_next (by assumption) (News.sub kN ?_) hoff5 ⟨mu5, im5, H2, rfl, fun q hq => hsub5 q (hsub1 q hq), fun f hf => hs5 f (.tail _ hf), hh5, by omega, ?_, rfl, rfl, rfl⟩
            · intro q hq
              simp only [List.mem_cons, List.mem_append] at hq ⊢
              rcases hq with h | h | h | h <;> simp [h]
            · have : cnt - (i + 1) = c := by omega
              rw [this]; exact hrest
        · cases hf5 with
          | some ha hl =>
            k_steps
            refine rs_ret ?_
            dsimp only
            k_steps
            (with_reducible rename News h₀ L _ _ => kN)
            exact hret _ _ _ _ (by assumption) kN ⟨mu5, im5, fun q hq => (by
              simp only [List.mem_cons, List.mem_append] at hq ⊢
              rcases hq with h | h | h <;> simp [h]), fun q hq => hsub5 q (hsub1 q hq), fun f hf => hs5 f (.tail _ hf), hh5, .some ha hl⟩
    · rintro m₁ news₁ h₁ tk₁ ⟨mu1, im1, H1, rfl, hsub1, hs1, hh1, hle, hml, e1, e2, e3⟩ F₁ N₁
      rw [Nat.sub_self] at hml
      unfold mloop at hml
      cases hml
      k_steps
      exact hret _ _ _ _ (by assumption) (by assumption) ⟨mu1, im1, fun q hq => hq, hsub1, hs1, hh1, .none⟩
end
end Mine
end
section
open PySem PySem.Spec PySem.Calls PySem.W PyProof.Rows
open Mine
local macro_rules | `(tactic| walk_at "callWith ref") => `(tactic| (k_here; k_dflt (refine' callWith_F ?k1 ?_; (case k1 => exact TfIs.fn (K := KK _) (by assumption) (by k_asm) (by k_asm) (by k_asm) (by (intro o ho; simp only [List.mem_cons, List.mem_append]; simp [ho]))); k_whole)))
local macro_rules | `(tactic| walk_at "FnAt") => `(tactic| (k_dflt (exact TfIs.fn (K := KK _) (by assumption) (by k_asm) (by k_asm) (by k_asm) (by (intro o ho; simp only [List.mem_cons, List.mem_append]; simp [ho])))))
local macro_rules | `(tactic| walk_at "getAttr ref") => `(tactic| (k_here; k_dflt (refine' hostA ?hh ?k1 ?k2 ?k3 ?hs ?k5 ?k6 ?k7 ?k8 ?k9 ?k10 ?k11 ?k12 ?_; (case hh => assumption); (case k1 => k_asm); (case k2 => k_asm); (case k3 => k_asm); (case hs => (intro q hq; simp only [List.mem_cons, List.mem_append] at hq ⊢; rcases hq with h | h <;> simp [h])); (case k5 => k_is); (case k6 => k_is); (case k7 => k_is); (case k8 => k_is); (case k9 => k_is); (case k10 => k_is); (case k11 => decide +kernel); (case k12 => (intros; rfl)); k_whole); intro q' h' F' N' l1; (try k_lt l1); (try k_sweep)))
local macro_rules | `(tactic| walk_at "exec For") => `(tactic| (k_here; (with_reducible show wpAny _ _ (exec (Stmt.For (PySem.Expr.Tuple _ _ _) _ _ _ _) _) _ _ _); (with_unfolding_all refine' For_turns ?F ?_; (case F => k_asm))))
local macro_rules | `(tactic| walk_at "call ref") => `(tactic| (k_here; (with_reducible show wpAny _ _ (call (Value.ref _) [Value.ref _]) _ _ _); refine stop_intro ?_))
section
open PySem PySem.Spec PySem.Calls PySem.W PyProof.Rows
namespace Mine
local macro_rules | `(tactic| walk_at "call ref") => `(tactic| (k_here; (with_reducible show wpAny _ _ (call (Value.ref 397) _) _ _ _); refine stop_intro ?_))
section
variable {prog : Program} {w : World} {p : Program} {loose : List Str} {mean : ExcName → Option Value} {mg mb : Str → Option Value}
set_option maxRecDepth 100000
set_option maxHeartbeats 4000000
theorem replace_once_does {im mu fr : Led} {x hx vd lg tf : Addr} {H H' : HS} {nv : Value} {nd : Nd} {fuel : Nat} {anch : Bool} {t1 : Tok} {sub txt : Str} {res : Option (Nat × Nat)}
    (hn : NodeIn im nv nd) (hh : HostIn prog w im x hx vd lg mu H) (hs : Sep fr im) (hsh : SepH fr hx vd lg) (hsub : sub.length ≤ 1000) (htxt : txt.length ≤ 1000) (hgo : mloop sub nd fuel (if anch then 1 else sub.length + 1) 0 H = some (res, H'))
    (htf : TfIs (KK w.params) im tf) (hT : res ≠ none → ∀ mu' im', (∀ q ∈ im, q ∈ im') → Sep fr im' → HostIn prog w im' x hx vd lg mu' H' → Does prog w (KK w.params) p loose mean mg mb tf 50 500 [.ref x] (mu' ++ (im' ++ fr)) (TextPost prog w im' fr x hx vd lg txt H')) :
    Does prog w (KK w.params) p loose mean mg mb 42 120 1200 [.ref 397, nv, .str sub t1, .bool anch, .ref x, .ref tf] (mu ++ (im ++ fr)) (RoPost prog w im fr x hx vd lg (res.map fun r => splice sub r.1 r.2 txt) H') := by
  unfold Does
  intro dp un gd cn cs aa ccd cl outer A₀ base h₀ L m s Q E B F X N T hkk hdp hun hret
  refine wpAny_call ?_
  k_dflt ktr_enter
  k_steps
  unfold Stop
  refine Does.use (match_plain_does hn hh hs hsh hsub hgo) (by assumption) (by assumption) (by assumption) (by assumption) (by assumption) rfl (fun q hq => hq) (by ktr_room) (by ktr_units) ?_
  intro r5 news5 h5 tk5 F5 N5 P5
  obtain ⟨mu5, im5, hm5, hsub5, hs5, hh5, hf5⟩ := P5
  replace N5 := News.sub N5 hm5
  clear hm5
  k_sweep
  cases hf5 with
  | none =>
    k_steps
    exact hret _ _ _ _ (by assumption) (by assumption) ⟨mu5, im5, fun q hq => hq, hsub5, hs5, hh5, .none⟩
  | some ha hl =>
    have htf5 := htf.mono hsub5
    clear hh
    k_steps
    (with_reducible rename Fr _ _ _ _ => kF)
    (with_reducible rename News _ _ _ _ => kN)
    unfold Stop
    refine list_turns (vs := []) (fun _ m' l' => l' = _ ∧ m' = _) rfl kF kN (by k_mem) (fun q hq => hq) ⟨rfl, rfl⟩ ?_ ?_
    · intro i v m₁ news₁ I ro h₁ tk₁ hv
      exact absurd hv (by simp)
    · rintro m₁ news₁ h₁ tk₁ ⟨rfl, rfl⟩ F₁ N₁
      k_steps
      unfold Stop
      refine Does.use (hT (by simp) mu5 im5 hsub5 hs5 hh5) (by assumption) (by assumption) (by assumption) (by assumption) (by assumption) rfl (fun q hq => .tail _ hq) (by ktr_room) (by ktr_units) ?_
      intro r7 news7 h7 tk7 F7 N7 P7
      obtain ⟨mu7, im7, hm7, hsub7, hs7, hh7, t7, rfl⟩ := P7
      replace N7 := News.sub N7 hm7
      clear hm7 hh5
      k_sweep
      have ha7 := hsub7 _ ha
      clear ha
      k_steps
      (with_reducible rename News h₀ L _ _ => kN)
      exact hret _ _ _ _ (by assumption) kN ⟨mu7, im7, fun q hq => .tail _ hq, fun q hq => hsub7 q (hsub5 q hq), hs7, hh7, .some⟩
end
end Mine
end
section
open PySem PySem.Spec PySem.Calls PySem.W PyProof.Rows
namespace Mine
local macro_rules | `(tactic| walk_at "no such key") => `(tactic| fail)
local macro_rules | `(tactic| walk_at "call ref") => `(tactic| (k_here; (with_reducible show wpAny _ _ (call (Value.ref 42) _) _ _ _); refine stop_intro ?_))
section
variable {prog : Program} {w : World} {p : Program} {loose : List Str} {mean : ExcName → Option Value} {mg mb : Str → Option Value}
set_option maxRecDepth 100000
set_option maxHeartbeats 4000000
theorem replace_often_does {im mu fr : Led} {x hx vd lg tf : Addr} {H H' : HS} {nv : Value} {nd : Nd} {fuel most : Nat} {anch : Bool} {t1 tm : Tok} {sub : Str} {tok : HS → Bool} {txt : HS → Str} {res : Str × Nat}
    (hn : NodeIn im nv nd) (hh : HostIn prog w im x hx vd lg mu H) (hs : Sep fr im) (hsh : SepH fr hx vd lg) (hgo : roften nd anch fuel tok txt most 0 sub H = some (res, H'))
    (htf : TfIs (KK w.params) im tf) (hT : ∀ H1, tok H1 = true → ∀ mu' im', (∀ q ∈ im, q ∈ im') → Sep fr im' → HostIn prog w im' x hx vd lg mu' H1 → Does prog w (KK w.params) p loose mean mg mb tf 50 500 [.ref x] (mu' ++ (im' ++ fr)) (TextPost prog w im' fr x hx vd lg (txt H1) H1)) :
    Does prog w (KK w.params) p loose mean mg mb 49 140 1400 [.ref 397, nv, .str sub t1, .bool anch, .ref x, .ref tf, .int (most : Int) tm] (mu ++ (im ++ fr)) (RfPost prog w im fr x hx vd lg res H') := by
  unfold Does
  intro dp un gd cn cs aa ccd cl outer A₀ base h₀ L m s Q E B F X N T hkk hdp hun hret
  refine wpAny_call ?_
  k_dflt ktr_enter
  k_steps
  unfold Stop
  (with_reducible rename Fr _ _ _ _ => kF)
  (with_reducible rename News _ _ _ _ => kN)
  obtain ⟨u0, hu0⟩ := Fr.tok kF (Str.ofString "many") (fun t => Value.int ((0 : Nat) : Int) t) ⟨_, rfl⟩
  refine While_inv2 (JR prog w im fr x hx vd lg tf nv nd anch fuel tok txt most tm res H') kF (n₀ := most) kN ⟨mu, im, H, sub, 0, t1, u0, rfl, fun _ h => h, hs, hh, by omega, hgo, ?_⟩ ?_ ?_
  · exact allP_cons rfl (allP_cons rfl (allP_cons rfl (allP_cons rfl (allP_cons rfl (allP_cons rfl (allP_cons rfl (allP_cons hu0 allP_nil)))))))
  · rintro n m₁ news₁ h₁ tk₁ F₁ N₁ ⟨mu1, im1, H1, sub1, many, u1, u2, rfl, hsub1, hs1, hh1, hle, hro, hm1⟩
    rw [knownL _ hm1] at F₁
    clear kF kN hh hs
    cases n with
    | zero =>
      unfold roften at hro
      cases hro
      k_steps
      (with_reducible rename News h₀ L _ _ => kN)
      exact hret _ _ _ _ (by assumption) kN ⟨mu1, _ :: im1, mem_one, fun q hq => .tail _ (hsub1 q hq), Sep.up (allLt_app (allLt_app (allLt_of (by assumption)))) hs1, hh1.grow (im0 := im1 ++ fr) (allLt_of (by assumption)), _, _, _, _, rfl, .head _⟩
    | succ n =>
      obtain ⟨hz, r1, H2, hml, hres⟩ := roften_turn hro
      k_steps
      unfold Stop
      rcases hres with ⟨rfl, rfl, rfl⟩ | ⟨r, rfl, htk, htl, hrest⟩
      · refine Does.use (replace_once_does (txt := Str.ofString "") (hn.mono hsub1) hh1 hs1 hsh hz (by decide) hml (htf.mono hsub1) (fun h => absurd rfl h)) (by assumption) (by assumption) (by assumption) (by assumption) (by assumption) rfl (fun q hq => hq) (by ktr_room) (by ktr_units) ?_
        intro r5 news5 h5 tk5 F5 N5 P5
        obtain ⟨mu5, im5, hm5, hsub5, hs5, hh5, hf5⟩ := P5
        replace N5 := News.sub N5 hm5
        clear hm5
        k_sweep
        cases hf5 with
        | none =>
          k_steps
          refine ws_ret ?_
          dsimp only
          k_steps
          (with_reducible rename News h₀ L _ _ => kN)
          exact hret _ _ _ _ (by assumption) kN ⟨mu5, _ :: im5, mem_one, fun q hq => .tail _ (hsub5 q (hsub1 q hq)), Sep.up (allLt_app (allLt_app (allLt_of (by assumption)))) hs5, hh5.grow (im0 := im5 ++ fr) (allLt_of (by assumption)), _, _, _, _, rfl, .head _⟩
      · refine Does.use (replace_once_does (txt := txt H2) (hn.mono hsub1) hh1 hs1 hsh hz htl hml (htf.mono hsub1) (fun _ mu' im' h1 h2 h3 => hT H2 htk mu' im' (fun q hq => h1 q (hsub1 q hq)) h2 h3)) (by assumption) (by assumption) (by assumption) (by assumption) (by assumption) rfl (fun q hq => hq) (by ktr_room) (by ktr_units) ?_
        intro r5 news5 h5 tk5 F5 N5 P5
        obtain ⟨mu5, im5, hm5, hsub5, hs5, hh5, hf5⟩ := P5
        replace N5 := News.sub N5 hm5
        clear hm5
        k_sweep
        cases hf5 with
        | some =>
          k_steps
          (with_reducible rename Fr _ _ _ _ => kF)
          (with_reducible rename News _ _ _ _ => kN)
          obtain ⟨u3, hu3⟩ := Fr.tok kF (Str.ofString "subject") (fun t => Value.str (splice sub1 r.1 r.2 (txt H2)) t) ⟨_, rfl⟩
          obtain ⟨u4, hu4⟩ := Fr.tok kF (Str.ofString "many") (fun t => Value.int ((many + 1 : Nat) : Int) t) ⟨_, rfl⟩
          exact ws_next (n' := n) kF (News.sub kN fun q hq => .tail _ hq) (by omega) ⟨mu5, im5, H2, _, many + 1, u3, u4, rfl, fun q hq => hsub5 q (hsub1 q hq), hs5, hh5, by omega, hrest,
            allP_cons rfl (allP_cons rfl (allP_cons hu3 (allP_cons rfl (allP_cons rfl (allP_cons rfl (allP_cons rfl (allP_cons hu4 allP_nil)))))))⟩
  · first | passes_own | with_unfolding_all passes_own
end
end Mine
end
end
end
end
section
open PySem PySem.Spec PySem.Calls PySem.W PyProof.Rows
namespace Mine
local macro_rules | `(tactic| k_all) => `(tactic| assumption)
local macro_rules | `(tactic| k_mem) => `(tactic| first | assumption | (refine' List.mem_cons_of_mem _ ?_; k_mem))
local macro_rules | `(tactic| k_room) => `(tactic| ktr_room)
section
variable {prog : Program} {w : World} {p : Program} {loose : List Str} {mean : ExcName → Option Value} {mg mb : Str → Option Value}
set_option maxRecDepth 100000
set_option maxHeartbeats 4000000
noncomputable def MkPost (news : Led) (vd rf : Value) (r : Value) (news' : Led) : Prop :=
  ∃ (x hx lg : Nat) (h1 h2 h3 h4 h5 h6 : Int) (t1 t2 t3 t4 t5 t6 u2 u4 u5 : Tok), r = .ref x ∧ news' = (lg, listOf #[] 0) :: (x, instObj 236 hx) :: (hx, dictOf [⟨h1, .str (Str.ofString "values") t1, vd⟩, ⟨h2, .str (Str.ofString "limit") t2, .int 9999 u2⟩, ⟨h3, .str (Str.ofString "refused") t3, rf⟩, ⟨h4, .str (Str.ofString "width") t4, .int 64 u4⟩, ⟨h5, .str (Str.ofString "steps") t5, .int 0 u5⟩, ⟨h6, .str (Str.ofString "log") t6, .ref lg⟩] 6) :: news ∧ x < lg ∧ hx < x ∧ AllLt hx news
theorem mk_does {news : Led} {vd rf : Value} {u2 : Tok} :
    Does prog w (KK w.params) p loose mean mg mb 236 40 400 [vd, .int 9999 u2, rf] news (MkPost news vd rf) := by
  unfold Does
  intro dp un gd cn cs aa ccd cl outer A₀ base h₀ L m s Q E B F X N T hkk hdp hun hret
  k_dflt (refine' call_cls ?k1 ?k2 ?k3 ?k4 ?k5 ?k6 ?_; (case k1 => k_asm); (case k2 => k_asm); (case k3 => k_asm); (case k4 => k_is); (case k5 => k_is); (case k6 => k_is); k_whole; intro x' d' h' F' N' l1 l2; (try k_lt2 l2); (try k_sweep); ktr_enter)
  k_steps
  (with_reducible rename Fr h₀ L _ m => kF)
  (with_reducible rename News h₀ L _ _ => kN)
  (rename _ < _ ∧ _ < _ ∧ AllLt _ _ => l3)
  exact hret _ _ _ _ kF kN ⟨_, _, _, _, _, _, _, _, _, _, _, _, _, _, _, _, _, _, rfl, rfl, l3.1, l2, allLt_of l1⟩
end
end Mine
end
section
open PySem PySem.Spec PySem.Calls PySem.W PyProof.Rows
namespace Mine
local macro_rules | `(tactic| walk_at "no such key") => `(tactic| fail)
local macro_rules | `(tactic| k_all) => `(tactic| assumption)
local macro_rules | `(tactic| k_mem) => `(tactic| first | assumption | (refine' List.mem_cons_of_mem _ ?_; k_mem))
local macro_rules | `(tactic| k_room) => `(tactic| ktr_room)
section
variable {prog : Program} {w : World} {p : Program} {loose : List Str} {mean : ExcName → Option Value} {mg mb : Str → Option Value}
noncomputable abbrev lamPar (ps : Pos) : Arguments := { posonlyargs := [], args := [{ arg := Str.ofString "here", annotation := none, pos := ps }], vararg := none, kwonlyargs := [], kw_defaults := [], kwarg := none, defaults := [] }
noncomputable abbrev lamScope : Scope := { kind := .function, names := [(Str.ofString "here", .local)], isGenerator := false, isCoroutine := false }
set_option maxRecDepth 100000
set_option maxHeartbeats 4000000
theorem lam_does {im mu fr : Led} {x hx vd lg tf cf kk : Addr} {H : HS} {oc : Obj} {vs : Array Value} {qual : Str} {t : Tok} {pm ctv : Value} {txt : Str} {ps ps2 : Pos}
    (hh : HostIn prog w im x hx vd lg mu H) (hs : Sep fr im) (htf : (tf, kla_obj (Str.ofString "<lambda>") qual (lamPar ps) (.Constant (.str txt) kk ps2) lamScope [] pm cf ctv) ∈ im) (hcf : (cf, oc) ∈ im) (d1 : oc.data = .fields vs) (d2 : vs[1]? = some (.str qual t)) :
    Does prog w (KK w.params) p loose mean mg mb tf 50 500 [.ref x] (mu ++ (im ++ fr)) (TextPost prog w im fr x hx vd lg txt H) := by
  unfold Does
  intro dp un gd cn cs aa ccd cl outer A₀ base h₀ L m s Q E B F X N T hkk hdp hun hret
  have htf' := List.mem_append_right mu (List.mem_append_left fr htf)
  have hcf' := List.mem_append_right mu (List.mem_append_left fr hcf)
  refine wpAny_call ?_
  k_dflt (refine' kla_code ?k1 ?k2 ?k3 ?k4 ?k5 ?kA ?kF ?kK ?k6 ?k7 ?k8 ?k9 ?kB ?_ ?c2 ?c3 ?c4 ?c5; (case kA => exact rfl); (case kF => exact rfl); (case kK => assumption); (case k1 => k_asm); (case k2 => k_asm); (case k3 => k_asm); (case k4 => k_asm); (case k5 => k_asm); (case k6 => k_mem); (case k7 => exact codeRec_news (by k_asm) (by k_mem) (by assumption) (by assumption)); (case k8 => k_room); (case k9 => exact rfl); (case c5 => decide); (case kB => exact locs rfl); (case c2 => exact rfl); (case c3 => exact rfl); (case c4 => exact rfl); k_whole; intro g' L' h' FG' F' N' B' X' T'; (try dsimp only); (try k_lift B'); (try k_fold))
  k_steps
  (with_reducible rename Fr h₀ L _ m => kF)
  (with_reducible rename News h₀ L _ _ => kN)
  exact hret _ _ _ _ kF kN ⟨_, im, fun q hq => hq, fun q hq => hq, hs, hh, _, rfl⟩
end
end Mine
end
section
open PySem PySem.Spec PySem.Calls PySem.W PyProof.Rows
namespace Mine
@[irreducible] noncomputable def nNode : List Stmt := lit [_, _] (rfl : (fB (stAt 60)).take 2 = _)
@[irreducible] noncomputable def nOnce : List Stmt := lit [_, _] (rfl : ((fB (stAt 60)).drop 2).take 2 = _)
@[irreducible] noncomputable def nLast : List Stmt := lit [_, _] (rfl : (fB (stAt 60)).drop 4 = _)
theorem next_body : fB (stAt 60) = nNode ++ (nOnce ++ nLast) := by
  unfold nNode nOnce nLast
  rfl
noncomputable def nextScope : Scope := lit (Scope.mk _ _ _ _ _) (rfl : fC (stAt 60) = _)
noncomputable abbrev nextEnv (L : Addr) : Env := envOf (Str.ofString "_law_next") nextScope L 453 (.ref 452)
noncomputable def tBody : List Stmt := lit [_, _] (rfl : fB (inAt (stAt 60) 2) = _)
noncomputable def tPar : Arguments := lit (Arguments.mk _ _ _ _ _ _ _) (rfl : fA (inAt (stAt 60) 2) = _)
noncomputable def tScope : Scope := lit (Scope.mk _ _ _ _ _) (rfl : fS (inAt (stAt 60) 2) = _)
noncomputable abbrev ndA : Nd := .now (.rtab 2) (Str.ofString "A")
noncomputable abbrev ndN : Nd := .cat ndA (.now .rem (Str.ofString "B"))
noncomputable abbrev ndC : Nd := .chars (Str.ofString "011")
theorem allLt_up {d e : Nat} {l : Led} (h : AllLt d l) (hd : d < e) : AllLt e l := allLt_of fun p hp => Nat.lt_trans (allLt_mem h p hp) hd
noncomputable def textQ : Str := qualnameIn (nextEnv 0) (Str.ofString "text_of") (Str.ofString "text_of")
noncomputable def lamQ : Str := (nextEnv 0).qual ++ "<lambda>"
noncomputable def qualAt (pos : Pos) : Str := if pos.line = 312 then textQ else lamQ
noncomputable def TabOk (im : Led) (ps : Array Value) : Prop := TriplesOk ps.toList ∧ ∀ pos v, codeAmong pos ps.toList = some v → ∃ c oc vs t, v = .ref c ∧ (c, oc) ∈ im ∧ oc.data = .fields vs ∧ vs[1]? = some (.str (qualAt pos) t)
theorem TabOk.nil {im : Led} : TabOk im #[] := ⟨trivial, fun _ _ h => nomatch h⟩
theorem TabOk.mono {im im' : Led} {ps : Array Value} (h : TabOk im ps) (hs : ∀ q ∈ im, q ∈ im') : TabOk im' ps := ⟨h.1, fun pos v e => by
  obtain ⟨c, oc, vs, t, a, b, d⟩ := h.2 pos v e
  exact ⟨c, oc, vs, t, a, hs _ b, d⟩⟩
theorem triples_snoc {l : List Value} {a b : Int} {t u : Tok} {c : Value} : TriplesOk l → TriplesOk (l ++ [.int a t, .int b u, c]) := by
  intro h
  fun_induction TriplesOk l with
  | case1 => exact trivial
  | case2 _ _ _ _ _ rest ih => exact ih h
  | case3 => exact h.elim
theorem among_snoc {pos : Pos} {v : Value} {l : List Value} {a b : Int} {t u : Tok} {c : Value} (hl : TriplesOk l) (h : codeAmong pos (l ++ [.int a t, .int b u, c]) = some v) : codeAmong pos l = some v ∨ (v = c ∧ a = pos.line) := by
  fun_induction TriplesOk l with
  | case1 =>
    simp only [List.nil_append, codeAmong] at h
    split at h
    · next e => cases h; exact .inr ⟨rfl, by simpa using (Bool.and_eq_true_iff.mp e).1⟩
    · cases h
  | case2 x tx y ty z rest ih =>
    simp only [List.cons_append, codeAmong] at h ⊢
    split at h
    · next e => rw [if_pos e]; exact .inl h
    · next e => rw [if_neg e]; exact ih hl h
  | case3 => exact hl.elim
theorem next_code {h : Heap} {P : Params} (X : (KK P).In h) : CodeHd h 452 448 := ⟨_, _, _, _, _, _, _, _, _, X _ _ (by k_is), rfl, rfl, rfl, rfl, rfl, rfl, rfl, rfl, by decide⟩
theorem tab_new {im : Led} {ps : Array Value} {pos : Pos} {f c' : Addr} {o oc : Obj} {vs : Array Value} {t : Tok} (H : TabOk im ps) (d1 : oc.data = .fields vs) (d2 : vs[1]? = some (.str (qualAt pos) t)) : TabOk ([(f, o), (c', oc)] ++ im) (ps ++ #[rawInt pos.line, rawInt pos.col, .ref c']) := by
  refine ⟨?_, ?_⟩
  · rw [Array.toList_append]
    exact triples_snoc H.1
  · intro pos' v e
    rw [Array.toList_append] at e
    rcases among_snoc H.1 e with e | ⟨rfl, e⟩
    · obtain ⟨c, oc, vs, t, a, b, d⟩ := H.2 pos' v e
      exact ⟨c, oc, vs, t, a, List.mem_append_right _ b, d⟩
    · have hl : pos.line = pos'.line := by omega
      refine ⟨c', oc, vs, t, rfl, .tail _ (.head _), d1, ?_⟩
      unfold qualAt at d2 ⊢
      rw [← hl]
      exact d2
section
variable {prog : Program} {w : World} {A : Around} {E : Value → Shared → Prop} {s : Shared} {p : Program} {loose : List Str} {mean : ExcName → Option Value} {mg mb : Str → Option Value} {h₀ : Heap} {L : Nat} {m : Str → Option Value} {led imT : Led} {ps : Array Value} {params : Arguments} {scope : Scope} {pos : Pos} {Q : Value → Shared → Prop}
theorem next_def {body : List Stmt} {fl : Nat} (F : Fr h₀ L s.heap m) (N : News h₀ L s.heap ((448, tabObj ps) :: led)) (T : Top p loose mean mg mb h₀) (X : (KK w.params).In h₀) (ho : Off 448 led) (H : TabOk imT ps) (hq : qualAt pos = textQ) (hcl : closureFor scope (nextEnv L) = pure [])
    (h : ∀ f cf doc ctv e oc vs t ps' h' tk', Fr h₀ L h' m → News h₀ L h' ((448, tabObj ps') :: (e ++ led)) → OverA ((448, tabObj ps) :: led) e → TabOk (e ++ imT) ps' → (f, fnMade (Str.ofString "text_of") textQ params body scope [] doc ((mg (Str.ofString "__name__")).getD .none) cf ctv) ∈ e → (cf, oc) ∈ e ++ imT → oc.data = .fields vs → vs[1]? = some (.str textQ t) → Q (.ref f) { s with heap := h', toks := tk' }) :
    wpAny (model prog w) A (makeFunction "text_of" textQ params (.stmts body) scope (nextEnv L) [] [] [] pos fl) Q E s := by
  cases hc : codeAmong pos ps.toList with
  | none =>
    refine nest_K (clos := []) F N T (next_code X) rfl (.head ho) H.1 hc hcl ?_
    intro f c' oc vs t ctv doc h' tk F' N' d1 d2 l1 l2
    refine h f c' doc ctv [(f, _), (c', oc)] oc vs t (ps ++ #[rawInt pos.line, rawInt pos.col, .ref c']) h' tk F' (News.sub N' ?_) ⟨allLt_of fun q hq => Nat.lt_trans (l1 q hq) l2, allLt_of l1, trivial⟩ (tab_new H d1 (by rw [hq]; exact d2)) (.head _) (.tail _ (.head _)) d1 d2
    intro q hq
    simp only [List.cons_append, List.nil_append, List.mem_cons] at hq ⊢
    rcases hq with h | h | h | h <;> simp [h]
  | some v =>
    obtain ⟨c, oc, vs, t, rfl, hm, d1, d2⟩ := H.2 pos v hc
    rw [hq] at d2
    refine nestHit_K (clos := []) F N T (next_code X) rfl (.head _) H.1 hc hcl ?_
    intro f ctv doc h' tk F' N' l1
    refine h f c doc ctv [(f, _)] oc vs t ps h' tk F' (News.sub N' ?_) ⟨allLt_of l1, trivial⟩ (H.mono fun q hq => List.mem_append_right _ hq) (.head _) (List.mem_append_right _ hm) d1 d2
    intro q hq
    simp only [List.cons_append, List.nil_append, List.mem_cons] at hq ⊢
    rcases hq with h | h | h <;> simp [h]
theorem next_lam {body : PySem.Expr} (F : Fr h₀ L s.heap m) (N : News h₀ L s.heap ((448, tabObj ps) :: led)) (T : Top p loose mean mg mb h₀) (X : (KK w.params).In h₀) (ho : Off 448 led) (H : TabOk imT ps) (hq : qualAt pos = lamQ) (hdef : defaultsOf params (nextEnv L) = ([], [])) (hcl : closureFor scope (nextEnv L) = pure [])
    (h : ∀ f cf ctv e oc vs t ps' h' tk', Fr h₀ L h' m → News h₀ L h' ((448, tabObj ps') :: (e ++ led)) → OverA ((448, tabObj ps) :: led) e → TabOk (e ++ imT) ps' → (f, kla_obj (Str.ofString "<lambda>") lamQ params body scope [] ((mg (Str.ofString "__name__")).getD .none) cf ctv) ∈ e → (cf, oc) ∈ e ++ imT → oc.data = .fields vs → vs[1]? = some (.str lamQ t) → Q (.ref f) { s with heap := h', toks := tk' }) :
    wpAny (model prog w) A (eval (.Lambda params body scope pos) (nextEnv L)) Q E s := by
  refine kla_eval hdef ?_
  cases hc : codeAmong pos ps.toList with
  | none =>
    refine kla_nest (qual := lamQ) (clos := []) F N T (next_code X) rfl (.head ho) H.1 hc hcl ?_
    intro f c' oc vs t ctv h' tk F' N' d1 d2 l1 l2
    refine h f c' ctv [(f, _), (c', oc)] oc vs t (ps ++ #[rawInt pos.line, rawInt pos.col, .ref c']) h' tk F' (News.sub N' ?_) ⟨allLt_of fun q hq => Nat.lt_trans (l1 q hq) l2, allLt_of l1, trivial⟩ (tab_new H d1 (by rw [hq]; exact d2)) (.head _) (.tail _ (.head _)) d1 d2
    intro q hq
    simp only [List.cons_append, List.nil_append, List.mem_cons] at hq ⊢
    rcases hq with h | h | h | h <;> simp [h]
  | some v =>
    obtain ⟨c, oc, vs, t, rfl, hm, d1, d2⟩ := H.2 pos v hc
    rw [hq] at d2
    refine kla_hit (qual := lamQ) (clos := []) F N T (next_code X) rfl (.head _) H.1 hc hcl ?_
    intro f ctv h' tk F' N' l1
    refine h f c ctv [(f, _)] oc vs t ps h' tk F' (News.sub N' ?_) ⟨allLt_of l1, trivial⟩ (H.mono fun q hq => List.mem_append_right _ hq) (.head _) (List.mem_append_right _ hm) d1 d2
    intro q hq
    simp only [List.cons_append, List.nil_append, List.mem_cons] at hq ⊢
    rcases hq with h | h | h <;> simp [h]
end
end Mine
end
section
open PySem PySem.Spec PySem.Calls PySem.W PyProof.Rows
namespace Mine
local macro_rules | `(tactic| k_all) => `(tactic| assumption)
local macro_rules | `(tactic| k_mem) => `(tactic| first | assumption | (refine' List.mem_cons_of_mem _ ?_; k_mem))
local macro_rules | `(tactic| k_room) => `(tactic| first | assumption | exact allLt_of (by assumption) | (refine allLt_up ?_ (by with_reducible assumption); first | assumption | exact allLt_of (by assumption) | exact And.right (by assumption) | exact And.right (And.right (by assumption)) | exact And.right (And.right (And.right (by assumption))) | exact And.right (And.right (And.right (And.right (by assumption)))) | exact And.right (And.right (And.right (And.right (And.right (by assumption))))) | exact And.right (And.right (And.right (And.right (And.right (And.right (by assumption))))))) | exact And.right (by assumption) | exact And.right (And.right (by assumption)) | exact And.right (And.right (And.right (by assumption))) | exact And.right (And.right (And.right (And.right (by assumption)))) | exact And.right (And.right (And.right (And.right (And.right (by assumption))))) | exact And.right (And.right (And.right (And.right (And.right (And.right (by assumption)))))) | exact And.right (And.right (And.right (And.right (And.right (And.right (And.right (by assumption))))))) | exact And.right (And.right (And.right (And.right (And.right (And.right (And.right (And.right (by assumption)))))))) | exact And.right (And.right (And.right (And.right (And.right (And.right (And.right (And.right (And.right (by assumption))))))))) | exact And.right (And.right (And.right (And.right (And.right (And.right (And.right (And.right (And.right (And.right (by assumption)))))))))) | exact And.right (And.right (And.right (And.right (And.right (And.right (And.right (And.right (And.right (And.right (And.right (by assumption))))))))))) | exact And.right (And.right (And.right (And.right (And.right (And.right (And.right (And.right (And.right (And.right (And.right (And.right (by assumption)))))))))))))
local macro_rules | `(tactic| k_room) => `(tactic| ktr_room)
local macro_rules | `(tactic| walk_at "newTuple") => `(tactic| (k_here; k_dflt (refine' kup_newTuple ?F ?N ?_ ?z; (case F => k_asm); (case N => k_asm); (case z => kmk_size)); intro D' h' F' N' l1; (try k_lt l1); (try k_sweep)))
local macro_rules | `(tactic| walk_at "callWith ref") => `(tactic| (k_here; k_dflt (refine' callWith_K ?k1 ?k2 ?_; (case k1 => k_asm); (case k2 => k_is); k_whole)))
section
variable {prog : Program} {w : World} {p : Program} {loose : List Str} {mean : ExcName → Option Value} {mg mb : Str → Option Value}
set_option maxRecDepth 100000
set_option maxHeartbeats 0
theorem next_node {tl : List Stmt} {A₀ : Around} {base h₀ h₁ : Heap} {outer : List Env} {L : Nat} {led fr : Led} {m : Str → Option Value} {row : Str} {t1 : Tok} {dp un tk : Nat} {gd : Option (List Code)} {s : Shared} {Q : Flow → Shared → Prop} {E : Value → Shared → Prop}
    (B : Below A₀ base outer h₀) (X : (KK w.params).In h₀) (T : Top p loose mean mg mb h₀) (F : Fr h₀ L h₁ m) (N : News h₀ L h₁ (led ++ fr)) (hsp : Sep fr led) (hm : ∀ p ∈ [(Str.ofString "row", Value.str row t1)], m p.1 = some p.2)
    (hdp : dp + 150 < recursionLimit) (hun : un + 1500 < cLine)
    (next : ∀ (led' : Led) (m' : Str → Option Value) (v : Value) h' tk', Fr h₀ L h' m' → News h₀ L h' (led' ++ fr) → Sep fr led' → (∀ q ∈ led, q ∈ led') → NodeIn led' v ndN → (∀ p ∈ [(Str.ofString "row", Value.str row t1), (Str.ofString "node", v)], m' p.1 = some p.2) → wpAny (model prog w) ((lawTop dp un gd outer).deeper (nextEnv L)) (execs tl (nextEnv L)) Q E { s with heap := h', toks := tk' }) :
    wpAny (model prog w) ((lawTop dp un gd outer).deeper (nextEnv L)) (execs (nNode ++ tl) (nextEnv L)) Q E { s with heap := h₁, toks := tk } := by
  rw [knownL _ hm] at F
  unfold nNode
  unfold nextEnv nextScope lit at *
  simp only [List.cons_append, List.nil_append]
  k_steps
  (with_reducible rename Fr h₀ L _ _ => kF)
  (with_reducible rename News h₀ L _ _ => kN)
  exact next ([_, _, _, _, _, _, _, _, _] ++ led) _ _ _ _ kF kN (OverA.sep (mu := []) (im0 := led) hsp ⟨by k_room, by k_room, by k_room, by k_room, by k_room, by k_room, by k_room, by k_room, by k_room, trivial⟩) (fun q hq => .tail _ (.tail _ (.tail _ (.tail _ (.tail _ (.tail _ (.tail _ (.tail _ (.tail _ (hq)))))))))) (.cat (.head _) (.now (.tail _ (.tail _ (.tail _ (.tail _ (.tail _ (.head _)))))) (.rtab (.tail _ (.tail _ (.tail _ (.tail _ (.tail _ (.tail _ (.tail _ (.tail _ (.head _))))))))) (by decide)) (.mk (.tail _ (.tail _ (.tail _ (.tail _ (.tail _ (.tail _ (.head _))))))) (.tail _ (.tail _ (.tail _ (.tail _ (.tail _ (.tail _ (.tail _ (.head _)))))))) (by decide))) (.now (.tail _ (.head _)) (.rem (.tail _ (.tail _ (.tail _ (.tail _ (.head _)))))) (.mk (.tail _ (.tail _ (.head _))) (.tail _ (.tail _ (.tail _ (.head _)))) (by decide)))) (allP_cons rfl (allP_cons rfl allP_nil))
end
end Mine
end
section
open PySem PySem.Spec PySem.Calls PySem.W PyProof.Rows
namespace Mine
noncomputable def strD (H : HS) (nm : Str) : Option Str := match valD H.vals nm with
  | some (.s x) => if x.length ≤ 300 then some x else none
  | _ => none
theorem strD_is {H : HS} {nm x : Str} (h : strD H nm = some x) : valD H.vals nm = some (.s x) ∧ x.length ≤ 300 := by
  unfold strD at h
  split at h
  · next y e =>
    split at h
    · next hz => cases h; exact ⟨e, hz⟩
    · cases h
  · cases h
noncomputable def tailP (b : Str) : Str := if b == Str.ofString "01" then Str.ofString "10" else Txt.slice b none (some (-1)) ++ Str.ofString "1"
noncomputable def textP (H : HS) : Option Str := match strD H (Str.ofString "A"), strD H (Str.ofString "B") with
  | some a, some b => some (a ++ tailP b)
  | _, _ => none
theorem textP_is {H : HS} {r : Str} (h : textP H = some r) : ∃ a b, strD H (Str.ofString "A") = some a ∧ strD H (Str.ofString "B") = some b ∧ r = a ++ tailP b := by
  unfold textP at h
  split at h
  · next a b e1 e2 => cases h; exact ⟨a, b, e1, e2, rfl⟩
  · cases h
theorem textP_len {H : HS} {r : Str} (h : textP H = some r) : r.length ≤ 1000 := by
  obtain ⟨a, b, e1, e2, rfl⟩ := textP_is h
  have h1 := (strD_is e1).2
  have h2 := (strD_is e2).2
  have h3 := Txt.slice_le b none (some (-1))
  have h4 : (Str.ofString "1").length = 1 := by decide +kernel
  have h5 : (Str.ofString "10").length = 2 := by decide +kernel
  unfold tailP
  split <;> simp only [Str.length_append] <;> omega
local macro_rules | `(tactic| k_all) => `(tactic| assumption)
local macro_rules | `(tactic| k_mem) => `(tactic| first | assumption | (refine' List.mem_cons_of_mem _ ?_; k_mem))
local macro_rules | `(tactic| k_room) => `(tactic| ktr_room)
local macro_rules | `(tactic| walk_at "getItem ref str") => `(tactic| (k_here; k_dflt (refine' kda_get ?k1 ?k2 ?k3 ?k4 ?_; (case k1 => k_asm); (case k2 => k_mem); (case k3 => k_asm); (case k4 => assumption); k_whole)))
section
variable {prog : Program} {w : World} {p : Program} {loose : List Str} {mean : ExcName → Option Value} {mg mb : Str → Option Value}
set_option maxRecDepth 100000
set_option maxHeartbeats 4000000
theorem text_of_does {im mu fr : Led} {x hx vd lg tf cf : Addr} {H : HS} {oc : Obj} {vs : Array Value} {qual : Str} {t : Tok} {doc pm ctv : Value} {r : Str}
    (hh : HostIn prog w im x hx vd lg mu H) (hs : Sep fr im) (htf : (tf, fnMade (Str.ofString "text_of") qual tPar tBody tScope [] doc pm cf ctv) ∈ im) (hcf : (cf, oc) ∈ im) (d1 : oc.data = .fields vs) (d2 : vs[1]? = some (.str qual t))
    (hr : textP H = some r) :
    Does prog w (KK w.params) p loose mean mg mb tf 50 500 [.ref x] (mu ++ (im ++ fr)) (TextPost prog w im fr x hx vd lg r H) := by
  obtain ⟨a, b, ea, eb, rfl⟩ := textP_is hr
  obtain ⟨ea, la⟩ := strD_is ea
  obtain ⟨eb, lb⟩ := strD_is eb
  unfold Does
  intro dp un gd cn cs aa ccd cl outer A₀ base h₀ L m s Q E B F X N T hkk hdp hun hret
  have hh' := hh
  cases hh with
  | mk hx_ rf_ vd_ vals_ log_ n1 n2 n3 n4 n5 n6 o1 o2 o3 lo vz =>
  obtain ⟨tA, eA⟩ := valsIs_str vals_ ea
  obtain ⟨tB, eB⟩ := valsIs_str vals_ eb
  simp only [List.cons_append, List.nil_append] at N
  have htf' := List.mem_append_left fr htf
  have hcf' := List.mem_append_left fr hcf
  have hx' := List.mem_append_left fr hx_
  have h3 := Txt.slice_le b none (some (-1))
  unfold tPar tBody tScope lit at htf'
  refine wpAny_call ?_
  k_dflt (refine' code_nest ?k1 ?k2 ?k3 ?k4 ?k5 ?kA ?kF ?kK ?k6 ?k7 ?k8 ?k9 ?kB ?_ ?c2 ?c3 ?c4 ?c5; (case kA => exact rfl); (case kF => exact rfl); (case kK => assumption); (case k1 => k_asm); (case k2 => k_asm); (case k3 => k_asm); (case k4 => k_asm); (case k5 => k_asm); (case k6 => k_mem); (case k7 => exact codeRec_news (by k_asm) (by k_mem) (by assumption) (by assumption)); (case k8 => k_room); (case k9 => exact BindsTo.of_eq rfl); (case c5 => decide); (case kB => exact locs rfl); (case c2 => exact rfl); (case c3 => exact rfl); (case c4 => exact rfl); k_whole; intro g' L' h' FG' F' N' B' X' T'; (try dsimp only); (try k_lift B'); (try k_fold))
  k_steps
  · (with_reducible rename Fr h₀ L _ m => kF)
    (with_reducible rename News h₀ L _ _ => kN)
    (rename (b == _) = true => hb)
    refine hret _ _ _ _ kF kN ⟨_, im, fun q hq => hq, fun q hq => hq, hs, hh', ?_⟩
    rw [tailP, hb]; exact ⟨_, rfl⟩
  · (with_reducible rename Fr h₀ L _ m => kF)
    (with_reducible rename News h₀ L _ _ => kN)
    (rename (b == _) = false => hb)
    refine hret _ _ _ _ kF kN ⟨_, im, fun q hq => hq, fun q hq => hq, hs, hh', ?_⟩
    rw [tailP, hb]; exact ⟨_, rfl⟩
end
end Mine
end
section
open PySem PySem.Spec PySem.Calls PySem.W PyProof.Rows
namespace Mine
noncomputable def H0 : HS := ⟨[], [], 0⟩
noncomputable def nextP (row : Str) : Option (Option Str) := match mloop row ndN 2000 1 0 H0 with
  | none => none
  | some (r, H) => match r with
    | none => some none
    | some p => match textP H with
      | some txt => match roften ndC false 2000 (fun _ => true) (fun _ => Str.ofString "100") 9 0 (splice row p.1 p.2 txt) H0 with
        | some q => some (some q.1.1)
        | none => none
      | none => none
theorem nextP_is {row : Str} {res : Option Str} (h : nextP row = some res) : ∃ r H txt, mloop row ndN 2000 1 0 H0 = some (r, H) ∧ txt.length ≤ 1000 ∧ (r ≠ none → textP H = some txt) ∧ ((r = none ∧ res = none) ∨ ∃ p rs H2, r = some p ∧ roften ndC false 2000 (fun _ => true) (fun _ => Str.ofString "100") 9 0 (splice row p.1 p.2 txt) H0 = some (rs, H2) ∧ res = some rs.1) := by
  unfold nextP at h
  split at h
  · cases h
  · next r H e =>
    split at h
    · cases h; exact ⟨none, H, Str.ofString "", e, by decide +kernel, fun q => absurd rfl q, .inl ⟨rfl, rfl⟩⟩
    · next p =>
      split at h
      · next txt ec =>
        split at h
        · next q eq => cases h; exact ⟨some p, H, txt, e, textP_len ec, fun _ => ec, .inr ⟨p, q.1, q.2, rfl, eq, rfl⟩⟩
        · cases h
      · cases h
theorem OverA.sub {l l' : Led} (hs : ∀ q ∈ l', q ∈ l) : ∀ {e : Led}, OverA l e → OverA l' e
  | [], _ => trivial
  | _ :: _, ⟨a, b⟩ => ⟨allLt_of fun p hp => allLt_mem a p (hs p hp), OverA.sub hs b⟩
theorem OverA.gt {l : Led} {q : Addr × Obj} (hq : q ∈ l) : ∀ {e : Led}, OverA l e → ∀ p ∈ e, q.1 < p.1
  | [], _, _, hp => nomatch hp
  | _ :: _, ⟨a, b⟩, p, hp => by
    rcases List.mem_cons.mp hp with rfl | hp
    · exact allLt_mem a q hq
    · exact OverA.gt hq b p hp
theorem OverA.appA {l : Led} : ∀ {e e' : Led}, OverA (e' ++ l) e → OverA l e' → OverA l (e ++ e')
  | [], _, _, h => h
  | _ :: _, e', ⟨a, b⟩, h => ⟨allLt_of fun p hp => allLt_mem a p (List.mem_append_right _ hp), OverA.appA b h⟩
theorem sep_tab {ps ps2 : Array Value} {fr0 e im : Led} (hO : ∀ g ∈ ((448 : Addr), tabObj ps) :: fr0, ∀ q ∈ e, g.1 < q.1) (hsp : Sep (((448 : Addr), tabObj ps) :: fr0) im) : Sep (((448 : Addr), tabObj ps2) :: fr0) (e ++ im) := fun g hg q hq => by
  rcases List.mem_cons.mp hg with rfl | hg
  · rcases List.mem_append.mp hq with h | h
    · exact Nat.ne_of_gt (hO (448, tabObj ps) (.head _) q h)
    · exact hsp (448, tabObj ps) (.head _) q h
  · rcases List.mem_append.mp hq with h | h
    · exact Nat.ne_of_gt (hO g (.tail _ hg) q h)
    · exact hsp g (.tail _ hg) q h
theorem sepH_tab {ps ps2 : Array Value} {fr0 : Led} {hx vd lg : Addr} (h : SepH (((448 : Addr), tabObj ps) :: fr0) hx vd lg) : SepH (((448 : Addr), tabObj ps2) :: fr0) hx vd lg := fun g hg => by
  rcases List.mem_cons.mp hg with rfl | hg
  · exact h (448, tabObj ps) (.head _)
  · exact h g (.tail _ hg)
theorem tab_grow {prog : Program} {w : World} {h₀ h : Heap} {L x hx vd lg : Addr} {mu im e fr0 : Led} {H : HS} {ps ps2 : Array Value} (N : News h₀ L h ((448, tabObj ps2) :: (e ++ (mu ++ (im ++ fr0))))) (hO : OverA ((448, tabObj ps) :: (mu ++ (im ++ fr0))) e) (hh : HostIn prog w im x hx vd lg mu H) (hsp : Sep (((448 : Addr), tabObj ps) :: fr0) im) (hsh : SepH (((448 : Addr), tabObj ps) :: fr0) hx vd lg) :
    ∃ im2, News h₀ L h (mu ++ (im2 ++ (((448 : Addr), tabObj ps2) :: fr0))) ∧ HostIn prog w im2 x hx vd lg mu H ∧ Sep (((448 : Addr), tabObj ps2) :: fr0) im2 ∧ SepH (((448 : Addr), tabObj ps2) :: fr0) hx vd lg ∧ (∀ q ∈ e, q ∈ im2) ∧ (∀ q ∈ im, q ∈ im2) := by
  refine ⟨e ++ im, News.sub N ?_, hh.growsA (im0 := im) (hO.sub fun q hq => .tail _ ((List.mem_append.mp hq).elim (List.mem_append_left _) fun h => List.mem_append_right _ (List.mem_append_left _ h))), sep_tab (fun g hg => ?_) hsp, sepH_tab hsh, fun q hq => List.mem_append_left _ hq, fun q hq => List.mem_append_right _ hq⟩
  · intro q hq
    simp only [List.mem_append, List.mem_cons] at hq ⊢
    rcases hq with h | (h | h) | h | h <;> simp [h]
  · refine hO.gt ?_
    rcases List.mem_cons.mp hg with rfl | hg
    · exact .head _
    · exact .tail _ (List.mem_append_right _ (List.mem_append_right _ hg))
theorem offT {prog : Program} {w : World} {x hx vd lg : Addr} {mu im fr0 : Led} {H : HS} {ps : Array Value} (hh : HostIn prog w im x hx vd lg mu H) (hf0 : Off 448 fr0) (hsp : Sep (((448 : Addr), tabObj ps) :: fr0) im) (hsh : SepH (((448 : Addr), tabObj ps) :: fr0) hx vd lg) : Off 448 (mu ++ (im ++ fr0)) :=
  hh.offs (pl := 448) (fr := fr0) (hsp (448, tabObj ps) (.head _)) hf0 (hsh (448, tabObj ps) (.head _))
theorem mem_host {lg x hx rf vd : Addr × Obj} {led fr : Led} : ∀ q ∈ [hx, vd, lg] ++ ((x :: rf :: led) ++ fr), q ∈ lg :: x :: hx :: rf :: vd :: (led ++ fr) := by
  intro q hq
  simp only [List.cons_append, List.nil_append, List.mem_cons, List.mem_append] at hq ⊢
  rcases hq with h | h | h | h | h | h | h <;> simp [h]
theorem mem_sw {a : Addr × Obj} {l fr0 : Led} : ∀ q ∈ a :: (l ++ fr0), q ∈ l ++ (a :: fr0) := by
  intro q hq
  simp only [List.mem_append, List.mem_cons] at hq ⊢
  rcases hq with h | h | h <;> simp [h]
theorem mem_sw2 {a : Addr × Obj} {l fr0 e : Led} : ∀ q ∈ (e ++ l) ++ (a :: fr0), q ∈ a :: (e ++ (l ++ fr0)) := by
  intro q hq
  simp only [List.mem_append, List.mem_cons] at hq ⊢
  rcases hq with (h | h) | h | h <;> simp [h]
theorem mem_lam0 {a : Addr × Obj} {mu im fr0 : Led} : ∀ q ∈ a :: (mu ++ (im ++ fr0)), q ∈ mu ++ (im ++ (a :: fr0)) := by
  intro q hq
  simp only [List.mem_append, List.mem_cons] at hq ⊢
  rcases hq with h | h | h | h <;> simp [h]
theorem host_pack {prog : Program} {w : World} {h₀ h : Heap} {L : Addr} {x hx vd lg rf : Nat} {o : Obj} {led fr : Led} {h1 h2 h3 h4 h5 h6 : Int} {t1 t2 t3 t4 t5 t6 u2 u4 u5 : Tok}
    (kN : News h₀ L h ((lg, listOf #[] 0) :: (x, instObj 236 hx) :: (hx, dictOf [⟨h1, .str (Str.ofString "values") t1, .ref vd⟩, ⟨h2, .str (Str.ofString "limit") t2, .int 9999 u2⟩, ⟨h3, .str (Str.ofString "refused") t3, .ref rf⟩, ⟨h4, .str (Str.ofString "width") t4, .int 64 u4⟩, ⟨h5, .str (Str.ofString "steps") t5, .int 0 u5⟩, ⟨h6, .str (Str.ofString "log") t6, .ref lg⟩] 6) :: (rf, listOf #[] 0) :: (vd, o) :: (led ++ fr))) (hd : o.IsDictOf (PySem.strKind prog w) []) (lo : (vd == sysModules) = false) (l1 : AllLt vd (led ++ fr)) (b : vd < rf) (c : rf < hx) (d : hx < x) (e : x < lg) (hsp : Sep fr led) :
    ∃ im mu, News h₀ L h (mu ++ (im ++ fr)) ∧ Sep fr im ∧ SepH fr hx vd lg ∧ (∀ q ∈ led, q ∈ im) ∧ HostIn prog w im x hx vd lg mu H0 := by
  have hh0 := hostNew (h1 := h1) (h2 := h2) (h3 := h3) (h4 := h4) (h5 := h5) (h6 := h6) (t1 := t1) (t2 := t2) (t3 := t3) (t4 := t4) (t5 := t5) (t6 := t6) (u2 := u2) (u4 := u4) (u5 := u5) (im := led) (x := x) (hx := hx) (vd := vd) (lg := lg) (rf := rf) hd lo (allLt_of fun p hp => allLt_mem l1 p (List.mem_append_left _ hp)) b c d e
  have e2 : @LT.lt Nat _ vd hx := Nat.lt_trans b c
  have e3 : @LT.lt Nat _ vd x := Nat.lt_trans e2 d
  have e4 : @LT.lt Nat _ vd lg := Nat.lt_trans e3 e
  have lf : ∀ f ∈ fr, f.1 < vd := fun p hp => allLt_mem l1 p (List.mem_append_right _ hp)
  refine ⟨_, _, News.sub kN mem_host, ?_, ?_, fun q hq => .tail _ (.tail _ hq), hh0⟩
  · intro f hf q hq
    have h1 := lf f hf
    rcases List.mem_cons.mp hq with rfl | hq
    · exact Nat.ne_of_gt (Nat.lt_trans h1 e3)
    · rcases List.mem_cons.mp hq with rfl | hq
      · exact Nat.ne_of_gt (Nat.lt_trans h1 b)
      · exact hsp f hf q hq
  · intro f hf
    have h1 := lf f hf
    exact ⟨Nat.ne_of_lt (Nat.lt_trans h1 e2), Nat.ne_of_lt h1, Nat.ne_of_lt (Nat.lt_trans h1 e4)⟩
local macro_rules | `(tactic| k_all) => `(tactic| assumption)
local macro_rules | `(tactic| k_mem) => `(tactic| first | assumption | (refine' List.mem_cons_of_mem _ ?_; k_mem))
local macro_rules | `(tactic| k_room) => `(tactic| first | assumption | exact allLt_of (by assumption) | exact And.right (by assumption) | exact And.right (And.right (by assumption)) | exact And.right (And.right (And.right (by assumption))) | exact And.right (And.right (And.right (And.right (by assumption)))) | exact And.right (And.right (And.right (And.right (And.right (by assumption))))) | exact And.right (And.right (And.right (And.right (And.right (And.right (by assumption)))))) | exact And.right (And.right (And.right (And.right (And.right (And.right (And.right (by assumption))))))) | exact And.right (And.right (And.right (And.right (And.right (And.right (And.right (And.right (by assumption)))))))) | exact And.right (And.right (And.right (And.right (And.right (And.right (And.right (And.right (And.right (by assumption))))))))) | exact And.right (And.right (And.right (And.right (And.right (And.right (And.right (And.right (And.right (And.right (by assumption)))))))))) | exact And.right (And.right (And.right (And.right (And.right (And.right (And.right (And.right (And.right (And.right (And.right (by assumption))))))))))) | exact And.right (And.right (And.right (And.right (And.right (And.right (And.right (And.right (And.right (And.right (And.right (And.right (by assumption)))))))))))))
local macro_rules | `(tactic| k_room) => `(tactic| ktr_room)
local macro_rules | `(tactic| walk_at "newTuple") => `(tactic| (k_here; k_dflt (refine' kup_newTuple ?F ?N ?_ ?z; (case F => k_asm); (case N => k_asm); (case z => kmk_size)); intro D' h' F' N' l1; (try k_lt l1); (try k_sweep)))
local macro_rules | `(tactic| walk_at "callWith ref") => `(tactic| (k_here; k_dflt (refine' callWith_K ?k1 ?k2 ?_; (case k1 => k_asm); (case k2 => k_is); k_whole)))
local macro_rules | `(tactic| walk_at "call ref") => `(tactic| (k_here; (with_reducible show wpAny _ _ (call (Value.ref 236) _) _ _ _); k_dflt (refine' Does.use mk_does ?k1 ?k2 ?k3 ?k4 ?k5 ?k6 ?k7 ?k8 ?k9 ?_; (case k1 => k_asm); (case k2 => k_asm); (case k3 => k_asm); (case k4 => k_asm); (case k5 => k_asm); (case k6 => exact rfl); (case k7 => (exact fun q hq => hq)); (case k8 => ktr_room); (case k9 => ktr_units); k_whole); (intro r' led' h' tk' F' N' P'); (unfold MkPost at P'); (obtain ⟨x', d', g', a1', a2', a3', a4', a5', a6', b1', b2', b3', b4', b5', b6', b7', b8', b9', Pe, Pn, Pl1, Pl2, Pl3⟩ := P'); (subst Pe); (subst Pn); (try simp only [AllLt, and_true] at Pl3); (try dsimp only); (try k_sweep)))
local macro_rules | `(tactic| walk_at "call ref") => `(tactic| (k_here; (with_reducible show wpAny _ _ (call (Value.ref 42) _) _ _ _); refine stop_intro ?_))
local macro_rules | `(tactic| walk_at "call ref") => `(tactic| (k_here; (with_reducible show wpAny _ _ (call (Value.ref 49) _) _ _ _); refine stop_intro ?_))
local macro_rules | `(tactic| walk_at "eval Lambda") => `(tactic| (k_here; refine stop_intro ?_))
local macro_rules | `(tactic| walk_at "exec FunctionDef") => `(tactic| (k_here; k_dflt (refine' nestDef_K ?d0 ?k0 ?a0 ?_; (case d0 => exact rfl); (case k0 => exact rfl); (case a0 => exact rfl)); refine stop_intro ?_))
section
variable {prog : Program} {w : World} {p : Program} {loose : List Str} {mean : ExcName → Option Value} {mg mb : Str → Option Value}
set_option maxRecDepth 100000
set_option maxHeartbeats 0
theorem next_once {tl : List Stmt} {A₀ : Around} {base h₀ h₁ : Heap} {outer : List Env} {L : Nat} {led fr0 : Led} {ps : Array Value} {m : Str → Option Value} {row txt : Str} {t1 : Tok} {nv : Value} {r : Option (Nat × Nat)} {H : HS} {dp un tk : Nat} {gd : Option (List Code)} {s : Shared} {Q : Flow → Shared → Prop} {E : Value → Shared → Prop}
    (B : Below A₀ base outer h₀) (X : (KK w.params).In h₀) (T : Top p loose mean mg mb h₀) (F : Fr h₀ L h₁ m) (N : News h₀ L h₁ (led ++ (((448 : Addr), tabObj ps) :: fr0))) (hsp : Sep (((448 : Addr), tabObj ps) :: fr0) led) (hf0 : Off 448 fr0) (hT : TabOk led ps) (hn : NodeIn led nv ndN) (hm : ∀ p ∈ [(Str.ofString "row", Value.str row t1), (Str.ofString "node", nv)], m p.1 = some p.2)
    (hsub : row.length ≤ 1000) (hml : mloop row ndN 2000 1 0 H0 = some (r, H)) (hz : txt.length ≤ 1000) (hc : r ≠ none → textP H = some txt) (hdp : dp + 150 < recursionLimit) (hun : un + 1500 < cLine)
    (next : ∀ (v : Value) (im' : Led) (ps' : Array Value) m' h' tk', Fr h₀ L h' m' → News h₀ L h' (im' ++ (((448 : Addr), tabObj ps') :: fr0)) → Sep (((448 : Addr), tabObj ps') :: fr0) im' → TabOk im' ps' → (∀ q ∈ led, q ∈ im') → StrOut v (r.map fun p => splice row p.1 p.2 txt) → (∀ p ∈ [(Str.ofString "later", v)], m' p.1 = some p.2) → wpAny (model prog w) ((lawTop dp un gd outer).deeper (nextEnv L)) (execs tl (nextEnv L)) Q E { s with heap := h', toks := tk' }) :
    wpAny (model prog w) ((lawTop dp un gd outer).deeper (nextEnv L)) (execs (nOnce ++ tl) (nextEnv L)) Q E { s with heap := h₁, toks := tk } := by
  rw [knownL _ hm] at F
  unfold nOnce
  unfold nextEnv nextScope lit at *
  simp only [List.cons_append, List.nil_append]
  k_steps
  unfold Stop
  have hoff : Off 448 (led ++ fr0) := fun q hq => (List.mem_append.mp hq).elim (hsp (448, tabObj ps) (.head _) q) (hf0 q)
  refine next_def (led := led ++ fr0) (imT := led) (ps := ps) F (News.sub N mem_sw) T X hoff hT (by rfl) (by rfl) ?_
  intro f cf doc ctv e oc vs t ps2 h4 tk4 F4 N4 hO hT2 hf hcf d1 d2
  have hsp2 : Sep (((448 : Addr), tabObj ps2) :: fr0) (e ++ led) := sep_tab (fun g hg => hO.gt (by
    rcases List.mem_cons.mp hg with rfl | hg
    · exact .head _
    · exact .tail _ (List.mem_append_right _ hg))) hsp
  have N5 := News.sub (l' := (e ++ led) ++ (((448 : Addr), tabObj ps2) :: fr0)) N4 mem_sw2
  have hi5 : ∀ q ∈ led, q ∈ e ++ led := fun q hq => List.mem_append_right _ hq
  have hf5 := List.mem_append_left led hf
  generalize e ++ led = led2 at hT2 hcf hsp2 N5 hi5 hf5
  clear N4 hO hf F N
  k_steps
  unfold Stop
  (with_reducible rename Fr h₀ L _ _ => kF)
  (with_reducible rename News h₀ L _ _ => kN)
  rename_i vd _ o l1 lo hd _ _ _ rf _ l2 _ _ x hx lg g1 g2 g3 g4 g5 g6 b1 b2 b3 b4 b5 b6 b7 b8 b9 l3 l4 l5
  obtain ⟨im, mu, N6, s6, sh6, i6, hh6⟩ := host_pack (led := led2) (fr := (((448 : Addr), tabObj ps2) :: fr0)) kN hd lo (allLt_of l1) l2.1 l5.1 l4 l3 hsp2
  clear kN
  refine Does.use (replace_once_does (fr := (((448 : Addr), tabObj ps2) :: fr0)) (anch := true) (hn.mono fun q hq => i6 q (hi5 q hq)) hh6 s6 sh6 hsub hz hml (.led (i6 _ hf5)) (fun q mu' im' h1 hs' hh' => text_of_does hh' hs' (h1 _ (i6 _ hf5)) (h1 _ (i6 _ hcf)) d1 d2 (hc q))) (by assumption) kF (by assumption) N6 (by assumption) rfl (fun q hq => hq) (by ktr_room) (by ktr_units) ?_
  rintro r5 news5 h5 tk5 F5 N5' ⟨mu5, im5, hm5, hsub5, hs5, hh7, hso⟩
  have N7 := News.sub (l' := im5 ++ (((448 : Addr), tabObj ps2) :: fr0)) N5' fun q hq => hm5 q (List.mem_append_right _ hq)
  clear hm5 N5' N6 kF
  k_sweep
  k_steps
  (with_reducible rename Fr h₀ L _ _ => kF)
  (with_reducible rename News h₀ L _ _ => kN)
  exact next _ im5 ps2 _ _ _ kF kN hs5 (hT2.mono fun q hq => hsub5 q (i6 q hq)) (fun q hq => hsub5 q (i6 q (hi5 q hq))) hso (allP_cons rfl allP_nil)
theorem next_last {A₀ : Around} {base h₀ h₁ : Heap} {outer : List Env} {L : Nat} {led fr0 : Led} {ps : Array Value} {m : Str → Option Value} {v : Value} {lat res : Option Str} {dp un tk : Nat} {gd : Option (List Code)} {s : Shared} {Q : Flow → Shared → Prop} {E : Value → Shared → Prop}
    (B : Below A₀ base outer h₀) (X : (KK w.params).In h₀) (T : Top p loose mean mg mb h₀) (F : Fr h₀ L h₁ m) (N : News h₀ L h₁ (led ++ (((448 : Addr), tabObj ps) :: fr0))) (hsp : Sep (((448 : Addr), tabObj ps) :: fr0) led) (hf0 : Off 448 fr0) (hT : TabOk led ps) (hv : StrOut v lat) (hm : ∀ p ∈ [(Str.ofString "later", v)], m p.1 = some p.2)
    (hd0 : (lat = none ∧ res = none) ∨ ∃ sub2 rs H2, lat = some sub2 ∧ roften ndC false 2000 (fun _ => true) (fun _ => Str.ofString "100") 9 0 sub2 H0 = some (rs, H2) ∧ res = some rs.1) (hdp : dp + 150 < recursionLimit) (hun : un + 1500 < cLine)
    (ret : ∀ r im' ps' m' h' tk', Fr h₀ L h' m' → News h₀ L h' (im' ++ (((448 : Addr), tabObj ps') :: fr0)) → Sep (((448 : Addr), tabObj ps') :: fr0) im' → TabOk im' ps' → (∀ q ∈ led, q ∈ im') → StrOut r res → Q (.ret r) { s with heap := h', toks := tk' }) :
    wpAny (model prog w) ((lawTop dp un gd outer).deeper (nextEnv L)) (execs nLast (nextEnv L)) Q E { s with heap := h₁, toks := tk } := by
  rw [knownL _ hm] at F
  unfold nLast
  unfold nextEnv nextScope lit at *
  cases hv with
  | none =>
    have hr : res = none := by
      rcases hd0 with ⟨_, h⟩ | ⟨_, _, _, h, _⟩
      · exact h
      · cases h
    subst hr
    k_steps
    (with_reducible rename Fr h₀ L _ _ => kF)
    (with_reducible rename News h₀ L _ _ => kN)
    exact ret _ led ps _ _ _ kF kN hsp hT (fun q hq => hq) .none
  | @some sub2 t2 =>
    obtain ⟨rs, H2, hro, rfl⟩ : ∃ rs H2, roften ndC false 2000 (fun _ => true) (fun _ => Str.ofString "100") 9 0 sub2 H0 = some (rs, H2) ∧ res = some rs.1 := by
      rcases hd0 with ⟨h, _⟩ | ⟨_, rs, H2, h, a, b⟩
      · cases h
      · cases h; exact ⟨rs, H2, a, b⟩
    clear hd0
    k_steps
    unfold Stop
    (with_reducible rename Fr h₀ L _ _ => kF)
    (with_reducible rename News h₀ L _ _ => kN)
    rename_i D _ l0 vd _ o lo hd _ _ _ l1 rf _ l2 _ _ x hx lg g1 g2 g3 g4 g5 g6 b1 b2 b3 b4 b5 b6 b7 b8 b9 l3 l4 l5
    obtain ⟨im, mu, N6, s6, sh6, i6, hh6⟩ := host_pack (led := (D, _) :: led) (fr := (((448 : Addr), tabObj ps) :: fr0)) kN hd lo l1 l2.1 l5.1 l4 l3 (Sep.up (allLt_app (allLt_of l0)) hsp)
    have hD := i6 _ (.head _)
    have hT6 : TabOk im ps := hT.mono fun q hq => i6 q (.tail _ hq)
    refine next_lam (led := mu ++ (im ++ fr0)) (imT := im) (ps := ps) kF (News.sub N6 mem_lam0) (by assumption) (by assumption) (offT hh6 hf0 s6 sh6) hT6 (by rfl) (by rfl) (by rfl) ?_
    intro f cf ctv e oc vs t ps2 h4 tk4 F4 N4 hO hT2 hf hcf d1 d2
    obtain ⟨im2, N5, hh5, hsp5, hsh5, he5, hi5⟩ := tab_grow (ps := ps) N4 hO hh6 s6 sh6
    have hu : ∀ q ∈ e ++ im, q ∈ im2 := fun q hq => (List.mem_append.mp hq).elim (he5 q) (hi5 q)
    have hT5 := hT2.mono hu
    have hf5 := he5 _ hf
    have hcf5 := hu _ hcf
    have hnd5 : NodeIn im2 (.ref D) ndC := .chars (hi5 _ hD) (by decide +kernel)
    clear kF kN N4 hO hh6 s6 N6 hT2 hf hcf he5 hu hD l0 l1 l2 l3 l4 l5 hT6
    k_steps
    unfold Stop
    refine Does.use (replace_often_does (anch := false) (most := 9) (tok := fun _ => true) (txt := fun _ => Str.ofString "100") hnd5 hh5 hsp5 hsh5 hro (.led hf5) (fun H1 ht mu' im' h1 hs' hh' => lam_does hh' hs' (h1 _ hf5) (h1 _ hcf5) d1 d2)) (by assumption) (by assumption) (by assumption) (by assumption) (by assumption) rfl (fun q hq => hq) (by ktr_room) (by ktr_units) ?_
    rintro r5 news5 h5 tk5 F5 N5' ⟨mu5, im5, hm5, hsub5, hs5, hh7, a6, n6, t6, t6', rfl, ha6⟩
    replace N5' := News.sub N5' hm5
    clear hm5
    have ha7 : (a6, tup #[.str rs.1 t6, .int (rs.2 : Int) t6'] n6) ∈ mu5 ++ (im5 ++ (((448 : Addr), tabObj ps2) :: fr0)) := List.mem_append_right _ (List.mem_append_left _ ha6)
    k_sweep
    k_steps
    (with_reducible rename Fr h₀ L _ _ => kF)
    (with_reducible rename News h₀ L _ _ => kN)
    exact ret _ im5 ps2 _ _ _ kF (News.sub kN fun q hq => List.mem_append_right _ hq) hs5 (hT5.mono hsub5) (fun q hq => hsub5 q (hi5 q (i6 q (.tail _ hq)))) .some
end
end Mine
end
section
open PySem PySem.Spec PySem.Calls PySem.W PyProof.Rows
namespace Mine
local macro_rules | `(tactic| k_all) => `(tactic| assumption)
local macro_rules | `(tactic| k_mem) => `(tactic| first | assumption | (refine' List.mem_cons_of_mem _ ?_; k_mem))
section
variable {prog : Program} {w : World} {p : Program} {loose : List Str} {mean : ExcName → Option Value} {mg mb : Str → Option Value}
set_option maxRecDepth 100000
set_option maxHeartbeats 1000000
theorem next_does {led fr0 : Led} {ps : Array Value} {row : Str} {t1 : Tok} {res : Option Str} (hsp : Sep (((448 : Addr), tabObj ps) :: fr0) led) (hf0 : Off 448 fr0) (hT : TabOk led ps) (hsub : row.length ≤ 1000) (hd : nextP row = some res) :
    Does prog w (KK w.params) p loose mean mg mb 453 200 2000 [.str row t1] (led ++ (((448 : Addr), tabObj ps) :: fr0)) (fun r news' => ∃ led' ps', (∀ q ∈ led' ++ (((448 : Addr), tabObj ps') :: fr0), q ∈ news') ∧ (∀ q ∈ led, q ∈ led') ∧ Sep (((448 : Addr), tabObj ps') :: fr0) led' ∧ TabOk led' ps' ∧ StrOut r res) := by
  unfold Does
  intro dp un gd cn cs aa ccd cl outer A₀ base h₀ L m s Q E B F X N T hkk hdp hun hret
  refine wpAny_call ?_
  k_dflt ktr_enter
  rename_i g' L' h' FG' F' N' B' X' T'
  obtain ⟨m', F2, hm⟩ : ∃ m', Fr g' L' h' m' ∧ ∀ p ∈ [(Str.ofString "row", Value.str row t1)], m' p.1 = some p.2 := ⟨_, F', allP_cons rfl allP_nil⟩
  show wpAny _ ((lawTop dp un gd (envX cn cs L aa ccd cl :: outer)).deeper (nextEnv L')) (execs (fB (stAt 60)) (nextEnv L')) _ _ _
  rw [next_body]
  obtain ⟨r, H, txt, e1, e2, e3, e4⟩ := nextP_is hd
  refine next_node (s := s) (fr := (((448 : Addr), tabObj ps) :: fr0)) B' X' T' F2 N' hsp hm (by omega) (by omega) ?_
  intro led1 m1 v1 h1 tk1 F1 N1 s1 i1 n1 hm1
  refine next_once (s := s) B' X' T' F1 N1 s1 hf0 (hT.mono i1) n1 hm1 hsub e1 e2 e3 (by omega) (by omega) ?_
  intro v im2 ps2 m2 h2 tk2 F2 N2 s2 hT2 i2 hv hm2
  refine next_last (res := res) (s := s) B' X' T' F2 N2 s2 hf0 hT2 hv hm2 ?_ (by omega) (by omega) ?_
  · rcases e4 with ⟨rfl, rfl⟩ | ⟨p, rs, H2, rfl, a, b⟩
    · exact .inl ⟨rfl, rfl⟩
    · exact .inr ⟨_, rs, H2, rfl, a, b⟩
  intro r3 im3 ps3 m3 h3 tk3 F3 N3 s3 hT3 i3 hso
  try dsimp only
  k_steps
  (with_reducible rename Fr h₀ L _ _ => kF)
  (with_reducible rename News h₀ L _ _ => kN)
  exact hret _ _ _ _ kF kN ⟨im3, ps3, fun q hq => hq, fun q hq => i3 q (i2 q (i1 q hq)), s3, hT3, hso⟩
end
end Mine
end
section
open PySem PySem.Spec PySem.Calls PySem.W PyProof.Rows
namespace Mine
@[irreducible] noncomputable def hPre : List Stmt := lit [_, _] (rfl : (fB (stAt 61)).take 2 = _)
@[irreducible] noncomputable def hInit : List Stmt := lit [_] (rfl : ((fB (stAt 61)).drop 2).take 1 = _)
@[irreducible] noncomputable def hRows : List Stmt := lit [_] (rfl : ((fB (stAt 61)).drop 3).take 1 = _)
@[irreducible] noncomputable def hPairs : List Stmt := lit [_] (rfl : ((fB (stAt 61)).drop 4).take 1 = _)
@[irreducible] noncomputable def hCold : List Stmt := lit [_] (rfl : ((fB (stAt 61)).drop 5).take 1 = _)
@[irreducible] noncomputable def hFew : List Stmt := lit [_, _] (rfl : ((fB (stAt 61)).drop 6).take 2 = _)
@[irreducible] noncomputable def hGoals : List Stmt := lit [_] (rfl : ((fB (stAt 61)).drop 8).take 1 = _)
@[irreducible] noncomputable def hGoal2 : List Stmt := lit [_] (rfl : ((fB (stAt 61)).drop 9).take 1 = _)
@[irreducible] noncomputable def hEnd : List Stmt := lit [_, _] (rfl : (fB (stAt 61)).drop 10 = _)
theorem law_body_eq : fB (stAt 61) = hPre ++ (hInit ++ (hRows ++ (hPairs ++ (hCold ++ (hFew ++ (hGoals ++ (hGoal2 ++ hEnd))))))) := by
  unfold hPre hInit hRows hPairs hCold hFew hGoals hGoal2 hEnd
  rfl
noncomputable def lawScope : Scope := lit (Scope.mk _ _ _ _ _) (rfl : fC (stAt 61) = _)
noncomputable abbrev lawEnv (cd : Value) (fa L : Addr) : Env := envOfC (Str.ofString "law") lawScope L fa cd
section
variable {prog : Program} {w : World} {A : Around} {E : Value → Shared → Prop} {s : Shared} {value slice : PySem.Expr} {t : Addr} {u : Tok} {Q : Value → Shared → Prop} {x y z : Value}
theorem lst_i0 (ht : s.heap.IsList t [x, y, z].toArray) (h : Q x s) (hs : subscripted slice false (.ref t) (.int 0 u) = operate [.ref t, .int 0 u] (getItem (.ref t) (.int 0 u))) (hg : ∀ r, letTemporaryGo value (.ref t) r = pure ()) :
    wpAny (model prog w) A (subscriptTail value slice (.ref t) (.int 0 u)) Q E s := PyProof.Rows.item_listL ht (by decide) (by decide) rfl h hs hg
theorem lst_i1 (ht : s.heap.IsList t [x, y, z].toArray) (h : Q y s) (hs : subscripted slice false (.ref t) (.int 1 u) = operate [.ref t, .int 1 u] (getItem (.ref t) (.int 1 u))) (hg : ∀ r, letTemporaryGo value (.ref t) r = pure ()) :
    wpAny (model prog w) A (subscriptTail value slice (.ref t) (.int 1 u)) Q E s := PyProof.Rows.item_listL ht (by decide) (by decide) rfl h hs hg
theorem lst_i2 (ht : s.heap.IsList t [x, y, z].toArray) (h : Q z s) (hs : subscripted slice false (.ref t) (.int 2 u) = operate [.ref t, .int 2 u] (getItem (.ref t) (.int 2 u))) (hg : ∀ r, letTemporaryGo value (.ref t) r = pure ()) :
    wpAny (model prog w) A (subscriptTail value slice (.ref t) (.int 2 u)) Q E s := PyProof.Rows.item_listL ht (by decide) (by decide) rfl h hs hg
end
end Mine
end
section
open PySem PySem.Spec PySem.Calls PySem.W PyProof.Rows
namespace Mine
local macro_rules | `(tactic| walk_at "subscriptTail Name Slice ref ref") => `(tactic| (k_here; k_dflt (refine' kmk_slice_ints ?F ?N ?l ?p ?q ?i ?m ?c ?_ ?s ?t ?z; (case F => k_asm); (case N => k_asm); (case l => kmk_list); (case p => kmk_part); (case q => kmk_part); (case i => l_ints); (case m => first | exact kmk_upto (by l_ints) (by kmk_sign) | exact kmk_from (by l_ints) (by kmk_sign)); (case c => kmk_len); (case s => with_unfolding_all rfl); (case t => kmk_pure); (case z => kmk_size)); intro D' ws' h' F' N' l1 hI' hC' hL'; (try simp only [Int.reduceNeg, Int.neg_neg, Int.reduceToNat] at hI' hC' hL'); (try k_lt l1); (try k_sweep)))
section
variable {cd : Value} {fa : Addr} {prog : Program} {w : World} {p : Program} {loose : List Str} {mean : ExcName → Option Value} {mg mb : Str → Option Value}
set_option maxRecDepth 100000
set_option maxHeartbeats 8000000
theorem law1_pre {tl : List Stmt} {A₀ : Around} {base h₀ h₁ : Heap} {outer : List Env} {L sc : Nat} {m : Str → Option Value} {w1 w2 w3 w4 : Obj} {vs : List Value} {ns : List Int} {dp un : Nat} {gd : Option (List Code)} {s : Shared} {Q : Flow → Shared → Prop} {E : Value → Shared → Prop}
    (B : Below A₀ base outer h₀) (X : (KK w.params).In h₀) (T : Top p loose mean mg mb h₀) (F : Fr h₀ L h₁ m) (hm : ∀ y, m y = [(Str.ofString "script", Value.ref sc)].lookup y)
    (N : News h₀ L h₁ [((L + 1 + 1 + 1 + 1 : Nat), w4), ((L + 1 + 1 + 1 : Nat), w3), ((L + 1 + 1 : Nat), w2), ((L + 1 : Nat), w1), ((448 : Nat), tabObj #[])]) (hL : 448 < L) (hl : h₀.IsList sc vs.toArray) (hI : IntsAre vs ns) (hlen : ns.length ≤ 63)
    (hdp : dp + 250 < recursionLimit) (hun : un + 2500 < cLine)
    (rest : ∀ (cl : Nat) (c0 c1 c2 : Int) t0 t1 t2 h' tk' m', 0 ≤ c0 → 0 ≤ c1 → 0 ≤ c2 → Fr h₀ L h' m' → News h₀ L h' (((cl : Nat), listOf #[.int c0 t0, .int c1 t1, .int c2 t2] 0) :: [((L + 1 + 1 + 1 + 1 : Nat), w4), ((L + 1 + 1 + 1 : Nat), w3), ((L + 1 + 1 : Nat), w2), ((L + 1 : Nat), w1), ((448 : Nat), tabObj #[])]) → m' (Str.ofString "cells") = some (.ref cl) → L + 1 + 1 + 1 + 1 < cl →
      wpAny (model prog w) ((lawTop dp un gd outer).deeper (lawEnv cd fa L)) (execs tl (lawEnv cd fa L)) Q E { s with heap := h', toks := tk' }) :
    wpAny (model prog w) ((lawTop dp un gd outer).deeper (lawEnv cd fa L)) (execs (hPre ++ tl) (lawEnv cd fa L)) Q E { s with heap := h₁ } := by
  obtain rfl : m = fun y => [(Str.ofString "script", Value.ref sc)].lookup y := funext hm
  unfold hPre
  unfold lawEnv lawScope lit at *
  simp only [List.cons_append, List.nil_append]
  clear hm
  k_steps
  (with_reducible rename Fr _ _ _ _ => kF)
  (with_reducible rename News _ _ _ _ => kN)
  (with_reducible rename IntsAre _ (_ ++ _) => kI)
  obtain ⟨c0, c1, c2, e, p0, p1, p2⟩ := three_cells (a := 5) (b := 2) (c := 4) (by decide) (by decide) (by decide) ns
  rw [e] at kI
  obtain ⟨t0, t1, t2, rfl⟩ := ints_three kI
  refine rest _ c0 c1 c2 t0 t1 t2 _ _ _ p0 p1 p2 kF (News.sub kN ?_) rfl (by omega)
  intro q hq
  simp only [List.mem_cons, List.not_mem_nil, or_false] at hq ⊢
  rcases hq with h | h | h | h | h | h <;> simp [h]
end
end Mine
end
section
open PySem PySem.Spec PySem.Calls PySem.W PyProof.Rows
namespace Mine
local macro_rules | `(tactic| walk_at "no such key") => `(tactic| fail)
local macro_rules | `(tactic| k_all) => `(tactic| assumption)
local macro_rules | `(tactic| k_mem) => `(tactic| first | assumption | (refine' List.mem_cons_of_mem _ ?_; k_mem))
local macro_rules | `(tactic| walk_at "subscriptTail Name Constant ref int") => `(tactic| (k_here; k_dflt ((first | ((with_reducible show wpAny _ _ (subscriptTail _ _ (Value.ref _) (Value.int 0 _)) _ _ _); refine' lst_i0 ?k1 ?_ ?k7 ?k8) | ((with_reducible show wpAny _ _ (subscriptTail _ _ (Value.ref _) (Value.int 1 _)) _ _ _); refine' lst_i1 ?k1 ?_ ?k7 ?k8) | ((with_reducible show wpAny _ _ (subscriptTail _ _ (Value.ref _) (Value.int 2 _)) _ _ _); refine' lst_i2 ?k1 ?_ ?k7 ?k8)); (case k1 => exact News.isList (by k_asm) (by k_mem)); (case k7 => with_unfolding_all rfl); (case k8 => intro _; with_unfolding_all rfl))))
section
variable {cd : Value} {fa : Addr} {prog : Program} {w : World} {p : Program} {loose : List Str} {mean : ExcName → Option Value} {mg mb : Str → Option Value}
set_option maxRecDepth 100000
set_option maxHeartbeats 8000000
theorem law1_init {tl : List Stmt} {A₀ : Around} {base h₀ h₁ : Heap} {outer : List Env} {L cl : Nat} {m : Str → Option Value} {w1 w2 w3 w4 : Obj} {c0 c1 c2 : Int} {t0 t1 t2 : Tok} {dp un tk : Nat} {gd : Option (List Code)} {s : Shared} {Q : Flow → Shared → Prop} {E : Value → Shared → Prop}
    (B : Below A₀ base outer h₀) (X : (KK w.params).In h₀) (T : Top p loose mean mg mb h₀) (F : Fr h₀ L h₁ m)
    (N : News h₀ L h₁ (((cl : Nat), listOf #[.int c0 t0, .int c1 t1, .int c2 t2] 0) :: [((L + 1 + 1 + 1 + 1 : Nat), w4), ((L + 1 + 1 + 1 : Nat), w3), ((L + 1 + 1 : Nat), w2), ((L + 1 : Nat), w1), ((448 : Nat), tabObj #[])])) (hw : w1.data = .cell none) (hL : 448 < L) (hcl : L + 1 + 1 + 1 + 1 < cl) (hm : m (Str.ofString "cells") = some (.ref cl))
    (p0 : 0 ≤ c0) (p1 : 0 ≤ c1) (p2 : 0 ≤ c2)
    {num : Nat} (hnum : 2 + c0.fmod 11 = (num : Int)) (hdp : dp + 250 < recursionLimit) (hun : un + 2500 < cLine)
    (rest : ∀ (rl pl : Nat) (w1' : Obj) (tm tr : Tok) (m' : Str → Option Value) h' tk', w1'.data = .cell (some (.int (num : Int) tm)) → cl < rl → rl < pl → Fr h₀ L h' m' → News h₀ L h' [((pl : Nat), listOf #[] 0), ((rl : Nat), listOf #[.str (Str.ofString "0000000") tr] 0), ((cl : Nat), listOf #[.int c0 t0, .int c1 t1, .int c2 t2] 0), ((L + 1 + 1 + 1 + 1 : Nat), w4), ((L + 1 + 1 + 1 : Nat), w3), ((L + 1 + 1 : Nat), w2), ((L + 1 : Nat), w1'), ((448 : Nat), tabObj #[])] →
      (∀ p ∈ [(Str.ofString "cells", Value.ref cl), (Str.ofString "rows", .ref rl), (Str.ofString "pairs", .ref pl)], m' p.1 = some p.2) →
      wpAny (model prog w) ((lawTop dp un gd outer).deeper (lawEnv cd fa L)) (execs tl (lawEnv cd fa L)) Q E { s with heap := h', toks := tk' }) :
    wpAny (model prog w) ((lawTop dp un gd outer).deeper (lawEnv cd fa L)) (execs (hInit ++ tl) (lawEnv cd fa L)) Q E { s with heap := h₁, toks := tk } := by
  rw [knownL (m := m) [(Str.ofString "cells", .ref cl)] (allP_cons hm allP_nil)] at F
  unfold hInit
  unfold lawEnv lawScope lit at *
  simp only [List.cons_append, List.nil_append]
  k_steps
  (with_reducible rename Fr h₀ L _ _ => kF)
  (with_reducible rename News h₀ L _ _ => kN)
  rename Obj.data _ = Data.cell (some (Value.int _ _)) => kd
  rw [hnum] at kd
  exact rest _ _ _ _ _ _ _ _ kd (by omega) (by omega) kF (News.sub kN fun q hq => .tail _ hq) (allP_cons rfl (allP_cons rfl (allP_cons rfl allP_nil)))
end
end Mine
end
section
open PySem PySem.Spec PySem.Calls PySem.W PyProof.Rows
namespace Mine
set_option maxRecDepth 100000
noncomputable def R : List Str := [Str.ofString "0000000", Str.ofString "0000001", Str.ofString "0000010", Str.ofString "0000100", Str.ofString "0000101", Str.ofString "0001000", Str.ofString "0001001", Str.ofString "0001010", Str.ofString "0010000", Str.ofString "0010001", Str.ofString "0010010", Str.ofString "0010100", Str.ofString "0010101"]
noncomputable def Rr (i : Nat) : Str := R.getD i (Str.ofString "")
theorem rows_ok : ((List.range 12).all fun i => decide (nextP (Rr i) = some (some (Rr (i + 1)))) && decide ((Rr i).length = 7) && decide ((Rr (i + 1)).length = 7) && (Builtin.Str.occurrences (Rr (i + 1)) (Str.ofString "11") 0 (Rr (i + 1)).length 1).isEmpty && !((R.take (i + 1)).any (· == Rr (i + 1)))) = true := by decide +kernel
theorem row_next {i : Nat} (h : i < 12) : nextP (Rr i) = some (some (Rr (i + 1))) ∧ (Rr i).length = 7 ∧ (Rr (i + 1)).length = 7 ∧ (!(Builtin.Str.occurrences (Rr (i + 1)) (Str.ofString "11") 0 (Rr (i + 1)).length 1).isEmpty) = false ∧ ((R.take (i + 1)).any (· == Rr (i + 1))) = false := by
  have := List.all_eq_true.mp rows_ok i (List.mem_range.mpr h)
  simp only [Bool.and_eq_true, decide_eq_true_eq, Bool.not_eq_true'] at this
  obtain ⟨⟨⟨⟨a, b⟩, c⟩, d⟩, e⟩ := this
  exact ⟨a, b, c, by rw [d]; rfl, e⟩
theorem take_R {i : Nat} (h : i < 13) : R.take (i + 1) = R.take i ++ [Rr i] := by
  have hl : R.length = 13 := rfl
  rw [List.take_succ, Rr, List.getD, List.getElem?_eq_getElem (by omega)]
  rfl
theorem StrsAre.length {vs : List Value} {ys : List Str} (h : StrsAre vs ys) : vs.length = ys.length := by
  induction h with
  | nil => rfl
  | cons _ _ _ ih => rw [List.length_cons, List.length_cons, ih]
theorem StrsAre.snoc {vs : List Value} {ys : List Str} {y : Str} {t : Tok} (h : StrsAre vs ys) : StrsAre (vs ++ [.str y t]) (ys ++ [y]) := by
  induction h with
  | nil => exact .cons _ _ .nil
  | cons _ _ _ ih => exact .cons _ _ ih
theorem StrsAre.at {vs : List Value} {ys : List Str} (h : StrsAre vs ys) : ∀ {i : Nat} {y : Str}, ys[i]? = some y → ∃ t, vs[i]? = some (.str y t) := by
  induction h with
  | nil => intro i y e; simp at e
  | cons y t _ ih =>
    intro i z e
    cases i with
    | zero => simp at e; subst e; exact ⟨t, rfl⟩
    | succ i => simpa using ih (by simpa using e)
theorem R_at {i n : Nat} (h : i < n) (hn : n ≤ 13) : (R.take n)[i]? = some (Rr i) := by
  have hl : R.length = 13 := rfl
  rw [List.getElem?_take, if_pos h, Rr, List.getD, List.getElem?_eq_getElem (by omega)]
  rfl
end Mine
end
section
open PySem PySem.Spec PySem.Calls PySem.W PyProof.Rows
namespace Mine
noncomputable abbrev frA (rl pl L : Nat) (its : List Value) (kr : Nat) (pits : List Value) (kp : Nat) (w1 w2 w3 w4 : Obj) : Led := [((rl : Addr), listOf its.toArray kr), ((pl : Addr), listOf pits.toArray kp), ((L + 1 : Addr), w1), ((L + 1 + 1 : Addr), w2), ((L + 1 + 1 + 1 : Addr), w3), ((L + 1 + 1 + 1 + 1 : Addr), w4)]
theorem frA_off {rl pl L I : Nat} {its pits : List Value} {kr kp : Nat} {w1 w2 w3 w4 ro : Obj} (hL : 448 < L) (h1 : L + 1 + 1 + 1 + 1 < rl) (h2 : rl < pl) (hI : I ≠ 448) : Off 448 (((I : Addr), ro) :: frA rl pl L its kr pits kp w1 w2 w3 w4) := by
  refine Off.cons hI (Off.cons ?_ (Off.cons ?_ (Off.cons ?_ (Off.cons ?_ (Off.cons ?_ (Off.cons ?_ Off.nil))))))
  · show @Ne Nat rl 448; omega
  · show @Ne Nat pl 448; omega
  · show @Ne Nat (L + 1) 448; omega
  · show @Ne Nat (L + 1 + 1) 448; omega
  · show @Ne Nat (L + 1 + 1 + 1) 448; omega
  · show @Ne Nat (L + 1 + 1 + 1 + 1) 448; omega
theorem sep_it {a : Addr × Obj} {I : Addr} {ro : Obj} {fr led : Led} (h : Sep (a :: fr) led) (ho : Off I led) : Sep (a :: (I, ro) :: fr) led := fun f hf q hq => by
  rcases List.mem_cons.mp hf with rfl | hf
  · exact h _ (.head _) q hq
  · rcases List.mem_cons.mp hf with rfl | hf
    · exact ho q hq
    · exact h f (.tail _ hf) q hq
theorem sep_no {a b : Addr × Obj} {fr led : Led} (h : Sep (a :: b :: fr) led) : Sep (a :: fr) led := fun f hf q hq => by
  rcases List.mem_cons.mp hf with rfl | hf
  · exact h _ (.head _) q hq
  · exact h f (.tail _ (.tail _ hf)) q hq
theorem sep_same {a : Addr × Obj} {b : Addr} {o o' : Obj} {fr led : Led} (h : Sep (a :: (b, o) :: fr) led) : Sep (a :: (b, o') :: fr) led := fun f hf q hq => by
  rcases List.mem_cons.mp hf with rfl | hf
  · exact h _ (.head _) q hq
  · rcases List.mem_cons.mp hf with rfl | hf
    · exact h (b, o) (.tail _ (.head _)) q hq
    · exact h f (.tail _ (.tail _ hf)) q hq
theorem mem_it1 {a b : Addr × Obj} {fr led : Led} : ∀ q ∈ led ++ (a :: b :: fr), q ∈ b :: a :: (fr ++ led) := by
  intro q hq
  simp only [List.mem_append, List.mem_cons] at hq ⊢
  rcases hq with h | h | h | h <;> simp [h]
theorem mem_it2 {a b : Addr × Obj} {fr led : Led} : ∀ q ∈ b :: a :: (fr ++ led), q ∈ led ++ (a :: b :: fr) := by
  intro q hq
  simp only [List.mem_append, List.mem_cons] at hq ⊢
  rcases hq with h | h | h | h <;> simp [h]
noncomputable abbrev tb (ps : Array Value) : Addr × Obj := ((448 : Addr), tabObj ps)
theorem rows_last {prog : Program} {w : World} {A : Around} {E : Value → Shared → Prop} {s : Shared} {value slice : PySem.Expr} {h₀ : Heap} {L D k : Nat} {news : Led} {its : List Value} {ys : List Str} {y : Str} {i : Nat} {u : Tok} {Q : Value → Shared → Prop} (N : News h₀ L s.heap news) (hm : (D, listOf its.toArray k) ∈ news) (hi : StrsAre its ys) (hl : its.length = i + 1) (hy : ys[i]? = some y) (h : ∀ t, Q (.str y t) s)
    (hs : subscripted slice false (.ref D) (.int (-1) u) = operate [.ref D, .int (-1) u] (getItem (.ref D) (.int (-1) u))) (hg : ∀ r, letTemporaryGo value (.ref D) r = pure ()) : wpAny (model prog w) A (subscriptTail value slice (.ref D) (.int (-1) u)) Q E s := by
  have hL := News.isList N hm
  obtain ⟨t, e⟩ := hi.at hy
  have hsz : its.toArray.size = i + 1 := by simp [hl]
  have hk : ((-1 : Int) + (its.toArray.size : Int)).toNat = i := by rw [hsz]; omega
  have hv : its.toArray[((-1 : Int) + (its.toArray.size : Int)).toNat]? = some (.str y t) := by rw [hk]; simpa using e
  exact tail_any hL.typeIs slot_list_getitem.lookup (wpAny_getItem_list_neg (k := -1) hL (by decide) (by rw [hsz]; omega) (by decide) hv (h t)) hs
local macro_rules | `(tactic| k_all) => `(tactic| assumption)
local macro_rules | `(tactic| k_mem) => `(tactic| first | assumption | (refine' List.mem_cons_of_mem _ ?_; k_mem))
local macro_rules | `(tactic| walk_at "call type:range") => `(tactic| (k_here; (with_reducible show wpAny _ _ (call (Value.type "range") [Value.int _ _]) _ _ _); k_dflt (refine' range1_N ?k1 ?k2 ?_; (case k1 => k_asm); (case k2 => k_asm); k_whole); intro r' h' tk' t1' t2' F' N' l1; (try k_lt l1); (try k_sweep)))
local macro_rules | `(tactic| walk_at "subscriptTail Name UnaryOp ref int") => `(tactic| (k_here; (with_reducible show wpAny _ _ (subscriptTail _ _ (Value.ref _) (Value.int _ _)) _ _ _); k_dflt (refine' rows_last ?k1 ?k2 ?k3 ?k4 ?k5 ?_ ?k6 ?k7; (case k1 => k_asm); (case k2 => k_mem); (case k3 => assumption); (case k4 => assumption); (case k5 => assumption); (case k6 => with_unfolding_all rfl); (case k7 => intro _; with_unfolding_all rfl)); intro tR))
local macro_rules | `(tactic| walk_at "pyIter ref") => `(tactic| (k_here; refine stop_intro ?_))
local macro_rules | `(tactic| walk_at "call ref") => `(tactic| (k_here; (with_reducible show wpAny _ _ (call (Value.ref 453) _) _ _ _); refine stop_intro ?_))
section
variable {cd : Value} {fa : Addr} {prog : Program} {w : World} {p : Program} {loose : List Str} {mean : ExcName → Option Value} {mg mb : Str → Option Value}
set_option maxRecDepth 100000
set_option maxHeartbeats 8000000
noncomputable def JRows (led0 : Led) (rl pl L : Nat) (cl : Addr) (w1 w2 w3 w4 : Obj) (i : Nat) (m : Str → Option Value) (news : Led) : Prop :=
  ∃ led ps its kr, news = tb ps :: (frA rl pl L its kr [] 0 w1 w2 w3 w4 ++ led) ∧ Sep (tb ps :: frA rl pl L its kr [] 0 w1 w2 w3 w4) led ∧ TabOk led ps ∧ (∀ q ∈ led0, q ∈ led) ∧ StrsAre its (R.take (i + 1)) ∧ ∀ p ∈ [(Str.ofString "cells", Value.ref cl), (Str.ofString "rows", .ref rl), (Str.ofString "pairs", .ref pl)], m p.1 = some p.2
theorem law1_rows {tl : List Stmt} {A₀ : Around} {base h₀ h₁ : Heap} {outer : List Env} {L rl pl : Nat} {cl : Addr} {m : Str → Option Value} {w1 w2 w3 w4 : Obj} {tm tr : Tok} {num : Nat} {led : Led} {dp un tk : Nat} {gd : Option (List Code)} {s : Shared} {Q : Flow → Shared → Prop} {E : Value → Shared → Prop}
    (B : Below A₀ base outer h₀) (X : (KK w.params).In h₀) (T : Top p loose mean mg mb h₀) (F : Fr h₀ L h₁ m)
    (N : News h₀ L h₁ (tb #[] :: (frA rl pl L [.str (Str.ofString "0000000") tr] 0 [] 0 w1 w2 w3 w4 ++ led))) (hsp : Sep (tb #[] :: frA rl pl L [.str (Str.ofString "0000000") tr] 0 [] 0 w1 w2 w3 w4) led) (hw : w1.data = .cell (some (.int (num : Int) tm))) (hL : 448 < L) (h1 : L + 1 + 1 + 1 + 1 < rl) (h2 : rl < pl) (hn : num ≤ 12) (hm : ∀ p ∈ [(Str.ofString "cells", Value.ref cl), (Str.ofString "rows", .ref rl), (Str.ofString "pairs", .ref pl)], m p.1 = some p.2)
    (hdp : dp + 250 < recursionLimit) (hun : un + 2500 < cLine) (hEE : PassesOwn (model prog w) ((lawTop dp un gd outer).deeper (lawEnv cd fa L)) (lawEnv cd fa L) E)
    (next : ∀ led' ps' its' kr' m' h' tk', Fr h₀ L h' m' → News h₀ L h' (tb ps' :: (frA rl pl L its' kr' [] 0 w1 w2 w3 w4 ++ led')) → Sep (tb ps' :: frA rl pl L its' kr' [] 0 w1 w2 w3 w4) led' → (∀ q ∈ led, q ∈ led') → StrsAre its' (R.take (num + 1)) → (∀ p ∈ [(Str.ofString "cells", Value.ref cl), (Str.ofString "rows", .ref rl), (Str.ofString "pairs", .ref pl)], m' p.1 = some p.2) → wpAny (model prog w) ((lawTop dp un gd outer).deeper (lawEnv cd fa L)) (execs tl (lawEnv cd fa L)) Q E { s with heap := h', toks := tk' }) :
    wpAny (model prog w) ((lawTop dp un gd outer).deeper (lawEnv cd fa L)) (execs (hRows ++ tl) (lawEnv cd fa L)) Q E { s with heap := h₁, toks := tk } := by
  rw [knownL _ hm] at F
  unfold hRows
  unfold lawEnv lawScope lit at *
  simp only [frA, tb, List.cons_append, List.nil_append] at N ⊢
  k_steps
  unfold Stop
  (with_reducible rename Fr h₀ L _ _ => kF)
  (with_reducible rename News h₀ L _ _ => kN)
  refine range_loop (JRows led rl pl L cl w1 w2 w3 w4) rfl kF kN (.head _) (small_one (by omega) (by omega) (by omega) (by omega)) num (by rw [rangeSize_nat]; omega) (fun q hq => .tail _ hq) ⟨led, #[], _, 0, rfl, hsp, .nil, fun _ h => h, .cons _ _ .nil, allP_cons rfl (allP_cons rfl (allP_cons rfl allP_nil))⟩ ?_ ?_
  · rintro i ti m₁ news₁ I ro h₁ tk₁ hi hoI ⟨led1, ps1, its, kr, rfl, hsp1, hT1, hi1, hR, hm1⟩ F₁ N₁
    rw [show (fun y => if y = Str.ofString "turn" then some (Value.int (0 + (i : Int)) ti) else m₁ y) = _ from knownL (m := fun y => if y = Str.ofString "turn" then some (Value.int (0 + (i : Int)) ti) else m₁ y) [(Str.ofString "cells", Value.ref cl), (Str.ofString "rows", .ref rl), (Str.ofString "pairs", .ref pl)] (allP_cons (hm1 _ (.head _)) (allP_cons (hm1 _ (.tail _ (.head _))) (allP_cons (hm1 _ (.tail _ (.tail _ (.head _)))) allP_nil)))] at F₁
    change Fr h₀ L _ _ at F₁
    change News h₀ L _ _ at N₁
    simp only [frA, tb, List.cons_append, List.nil_append] at N₁
    obtain ⟨e1, e2, e3, e4, e5⟩ := row_next (i := i) (by omega)
    have hln := hR.length
    have hil : its.length = i + 1 := by rw [hln, List.length_take]; exact Nat.min_eq_left (by show i + 1 ≤ 13; omega)
    have hat : (R.take (i + 1))[i]? = some (Rr i) := R_at (by omega) (by omega)
    have oI := hoI
    have oL : Off I led1 := fun q hq => hoI q (.tail _ (.tail _ (.tail _ (.tail _ (.tail _ (.tail _ (.tail _ hq)))))))
    have hI4 := neN (a := 448) (b := I) (hoI _ (.head _))
    have hIr := neN (a := rl) (b := I) (hoI _ (.tail _ (.head _)))
    clear kF kN hm1
    k_steps
    unfold Stop
    (with_reducible rename Fr h₀ L _ _ => kF)
    refine Does.use (next_does (fr0 := ((I : Addr), ro) :: frA rl pl L its kr [] 0 w1 w2 w3 w4) (sep_it hsp1 oL) (frA_off hL h1 h2 (Ne.symm hI4)) hT1 (by omega) e1) (by assumption) kF (by assumption) (News.sub N₁ mem_it1) (by assumption) rfl (fun q hq => hq) (by ktr_room) (by ktr_units) ?_
    rintro r5 news5 h5 tk5 F5 N5 ⟨led5, ps5, Pm, hi5, hs5, hT5, hso⟩
    replace N5 := News.sub N5 fun q hq => Pm q (mem_it2 q hq)
    clear Pm N₁ kF
    cases hso
    simp only [frA, tb, List.cons_append, List.nil_append] at N5
    have oR : ∀ q ∈ led5, q.1 ≠ rl := hs5 _ (.tail _ (.tail _ (.head _)))
    have oI5 : ∀ q ∈ led5, q.1 ≠ I := hs5 _ (.tail _ (.head _))
    k_sweep
    k_steps
    (with_reducible rename Fr h₀ L _ _ => kF2)
    (with_reducible rename News h₀ L _ _ => kN2)
    simp only [List.push_toArray] at kN2
    refine rs_next kF2 kN2 ?_ ⟨led5, ps5, its ++ [_], kr + 1, rfl, sep_same (sep_no hs5), hT5, fun q hq => hi5 q (hi1 q hq), ?_, allP_cons rfl (allP_cons rfl (allP_cons rfl allP_nil))⟩
    · exact Off.cons hI4 (Off.cons hIr (Off.cons (hoI _ (.tail _ (.tail _ (.head _)))) (Off.cons (hoI _ (.tail _ (.tail _ (.tail _ (.head _))))) (Off.cons (hoI _ (.tail _ (.tail _ (.tail _ (.tail _ (.head _)))))) (Off.cons (hoI _ (.tail _ (.tail _ (.tail _ (.tail _ (.tail _ (.head _))))))) (Off.cons (hoI _ (.tail _ (.tail _ (.tail _ (.tail _ (.tail _ (.tail _ (.head _)))))))) oI5))))))
    · rw [take_R (by omega)]
      exact StrsAre.snoc hR
  · rintro m₁ news₁ h₁ tk₁ ⟨led1, ps1, its, kr, rfl, hsp1, hT1, hi1, hR, hm1⟩ F₁ N₁
    exact next led1 ps1 its kr _ _ _ F₁ N₁ hsp1 hi1 hR hm1
end
end Mine
end
section
open PySem PySem.Spec PySem.Calls PySem.W PyProof.Rows
namespace Mine
set_option maxRecDepth 100000
noncomputable def PA : List (Int × Int) := [(1, 2), (3, 5), (4, 7), (6, 10), (8, 13), (9, 15), (11, 18), (12, 20)]
noncomputable def PP (k : Nat) : List (Int × Int) := PA.filter fun q => decide (q.1 ≤ (k : Int))
inductive PairsIn (im : Led) : List Value → List (Int × Int) → Prop
  | nil : PairsIn im [] []
  | cons {a : Addr} {x y : Int} {t t' : Tok} {n : Nat} {l : List Value} {r : List (Int × Int)} : (a, tup #[.int x t, .int y t'] n) ∈ im → PairsIn im l r → PairsIn im (.ref a :: l) ((x, y) :: r)
theorem PairsIn.mono {im im' : Led} {l : List Value} {r : List (Int × Int)} (h : PairsIn im l r) (hs : ∀ q ∈ im, q ∈ im') : PairsIn im' l r := by
  induction h with
  | nil => exact .nil
  | cons a _ ih => exact .cons (hs _ a) ih
theorem PairsIn.snoc {im : Led} {l : List Value} {r : List (Int × Int)} {a : Addr} {x y : Int} {t t' : Tok} {n : Nat} (h : PairsIn im l r) (hm : (a, tup #[.int x t, .int y t'] n) ∈ im) : PairsIn im (l ++ [.ref a]) (r ++ [(x, y)]) := by
  induction h with
  | nil => exact .cons hm .nil
  | cons a _ ih => exact .cons a ih
theorem PairsIn.append {im : Led} {l l' : List Value} {r r' : List (Int × Int)} (h : PairsIn im l r) (h' : PairsIn im l' r') : PairsIn im (l ++ l') (r ++ r') := by
  induction h with
  | nil => exact h'
  | cons a _ ih => exact .cons a ih
theorem PairsIn.length {im : Led} {l : List Value} {r : List (Int × Int)} (h : PairsIn im l r) : l.length = r.length := by
  induction h with
  | nil => rfl
  | cons _ _ ih => rw [List.length_cons, List.length_cons, ih]
theorem PairsIn.at {im : Led} {l : List Value} {r : List (Int × Int)} (h : PairsIn im l r) : ∀ {i : Nat} {v : Value}, l[i]? = some v → ∃ a x y t t' n, v = .ref a ∧ (a, tup #[.int x t, .int y t'] n) ∈ im ∧ r[i]? = some (x, y) := by
  induction h with
  | nil => intro i v e; simp at e
  | cons hm _ ih =>
    intro i v e
    cases i with
    | zero => simp at e; subst e; exact ⟨_, _, _, _, _, _, rfl, hm, rfl⟩
    | succ i => simpa using ih (by simpa using e)
theorem take_map {α β : Type} {l : List α} {i : Nat} {x : α} (f : α → β) (h : l[i]? = some x) : (l.take (i + 1)).map f = (l.take i).map f ++ [f x] := by
  rw [List.take_succ, h, List.map_append]; rfl
noncomputable def par (i : Nat) : Int := (((Rr (i + 1)).length : Int) - ((Txt.rstripChars (Rr (i + 1)) (Str.ofString "0")).length : Int)).fmod 2
noncomputable def sec (i : Nat) : Bool := ((PP i).map (·.2)).any (· == 1 + (i : Int))
noncomputable def shiftP (i : Nat) : Str := Txt.slice (Rr (i + 1)) (some 1) none ++ Str.ofString "0"
noncomputable def turnP (num i : Nat) : Bool :=
  if par i = 1 then sec i && decide (PP (i + 1) = PP i)
  else !sec i && decide (PP (i + 1) = PP i ++ [(1 + (i : Int), 1 + (i : Int) + ((PP i).length : Int) + 1)]) && (if i + (PP i).length + 2 ≤ num then !(Rr (i + (PP i).length + 2) != shiftP i) else !((R.take (num + 1)).any (· == shiftP i)))
theorem turnP_ok : ((List.range 13).all fun num => (List.range num).all fun i => turnP num i) = true := by decide +kernel
theorem turnP_is {num i : Nat} (hn : num ≤ 12) (hi : i < num) : (par i = 1 ∧ sec i = true ∧ PP (i + 1) = PP i) ∨ (par i ≠ 1 ∧ sec i = false ∧ PP (i + 1) = PP i ++ [(1 + (i : Int), 1 + (i : Int) + ((PP i).length : Int) + 1)] ∧ ((i + (PP i).length + 2 ≤ num ∧ (Rr (i + (PP i).length + 2) != shiftP i) = false) ∨ (¬ i + (PP i).length + 2 ≤ num ∧ ((R.take (num + 1)).any (· == shiftP i)) = false))) := by
  have h := List.all_eq_true.mp (List.all_eq_true.mp turnP_ok num (List.mem_range.mpr (by omega))) i (List.mem_range.mpr hi)
  unfold turnP at h
  split at h
  · next hp =>
    rw [Bool.and_eq_true, decide_eq_true_eq] at h
    exact .inl ⟨hp, h.1, h.2⟩
  · next hp =>
    rw [Bool.and_eq_true, Bool.and_eq_true, decide_eq_true_eq] at h
    refine .inr ⟨hp, by simpa using h.1.1, h.1.2, ?_⟩
    have h := h.2
    split at h
    · next hg => exact .inl ⟨hg, by simpa using h⟩
    · next hg => exact .inr ⟨hg, by simpa using h⟩
end Mine
end
section
open PySem PySem.Spec PySem.Calls PySem.W PyProof.Rows PyProof.Rows.LCg
namespace Mine
theorem wpAny_letOwned_Name {M : Model} {A : Around} {E : Value → Shared → Prop} {s : Shared} {x : Str} {px : Pos} {it v : Value} {Q : Unit → Shared → Prop} (h : Q () s) : wpAny M A (letOwnedTupleGo (.Name x px) it v) Q E s := wpAny_pure h
section
variable {prog : Program} {w : World} {A : Around} {E : Value → Shared → Prop} {s : Shared} {h₀ : Heap} {L : Addr} {m : Str → Option Value} {env : Env}
theorem pair_comp {elt iter c : PySem.Expr} {x : Str} {px : Pos} {scope : Scope} {cl : List (Str × Addr)} {pos : Pos} {Q : Value → Shared → Prop} {ax : Addr} {its : List Value} {kk : Nat} {news im : Led} {pl : List (Int × Int)} {f : Int × Int → Bool}
    (F₀ : Fr h₀ L s.heap m) (hclos : closureFor scope env = pure cl) (hcell : ∀ z ∈ scope.names, z.2 ≠ .cell) (hkind : scope.kind = .function)
    (hnames : ∀ z ∈ scope.names, z.2 = .local → scope.names.lookup z.1 = some .local) (hx : scope.names.lookup x = some .local) (hh : A.handled = none)
    (hit : ∀ (R : Value → Shared → Prop), (∀ tk, R (.ref ax) { s with toks := tk }) → wpAny (model prog w) A (eval iter env) R E s)
    (N : News h₀ L s.heap news) (hm : (ax, listOf its.toArray kk) ∈ news) (him : ∀ q ∈ im, q ∈ news) (hP : PairsIn im its pl) (hsz : its.length ≤ sizeLine)
    (turn : ∀ (I C D : Addr) (oI oC : Obj) (ys : List Value) (m₂ : Str → Option Value) (h : Heap) (tk : Nat) (a : Addr) (X Y : Int) (t t' : Tok) (n : Nat) (Rv : Value → Shared → Prop) (Rf : Shared → Prop) (E' : Value → Shared → Prop),
      (a, tup #[.int X t, .int Y t'] n) ∈ im → NsObj oC m₂ → m₂ x = some (.ref a) → Fr h₀ L h m → News h₀ L h ((I, oI) :: (C, oC) :: (D, lst ys) :: news) → Off3 I C D news → (@Ne Nat I C) ∧ (@Ne Nat I D) ∧ (@Ne Nat C D) →
      (∀ tk', f (X, Y) = true → Rv (.ref a) { s with heap := h, toks := tk' }) → (∀ tk', f (X, Y) = false → Rf { s with heap := h, toks := tk' }) →
      wpAny (model prog w) A (isTrue c (compEnvC scope cl C env) (eval c (compEnvC scope cl C env))) (fun ok s₃ => if ok = true then wpAny (model prog w) A (eval elt (compEnvC scope cl C env)) Rv E' s₃ else Rf s₃) E' { s with heap := h, toks := tk })
    (done : ∀ D h tk ys, PairsIn im ys (pl.filter f) → Fr h₀ L h m → News h₀ L h ((D, lst ys) :: news) → Off1 D news → Q (.ref D) { s with heap := h, toks := tk })
    (hs : ∀ x, foldedSetIterable iter env x = pure x := by intro _; rfl) :
    wpAny (model prog w) A (eval (.ListComp elt [⟨.Name x px, iter, [c], 0⟩] scope pos) env) Q E s := by
  rw [eval_ListComp]
  refine wpAny_comprehension_free (use := none) rfl hs hclos hkind hnames (hit _ fun tk₀ => ?_)
  have hl : s.heap.IsList ax its.toArray := News.isList N hm
  have hlt : ax < s.heap.objs.size := by obtain ⟨_, e, _⟩ := hl; exact Heap.lt_size e
  refine wpAny_pyIter_list hl ?_
  generalize hg1 : s.heap.push { cls := .type "list_iterator", data := .fields #[.ref ax, .int 0 0] } = g1
  have up1 : ∀ b o, s.heap.get? b = some o → g1.get? b = some o := fun b o e => hg1 ▸ Heap.get?_push_of_some _ e
  have size1 : g1.objs.size = s.heap.objs.size + 1 := by rw [← hg1, Heap.size_push]
  have it1 : g1.IsListIter s.heap.objs.size ax 0 := ⟨_, hg1 ▸ Heap.get?_push_size _ rfl, rfl, rfl⟩
  have list1 : g1.IsList ax its.toArray := by rw [← hg1]; exact hl.push _
  have I0 : h₀.get? s.heap.objs.size = none := next_is_new F₀
  have hLlt : L < s.heap.objs.size := F₀.ns.lt
  refine wpAny_newObj_type (wpAny_newFunctionEnv hcell (by intro y hy; simp at hy) (fun g3 ns3 sb3 => ?_) hkind)
  dsimp only at ns3 sb3 ⊢
  generalize hg2 : g1.push { cls := .type "list", dict := none, data := .seq ([] : List Value).toArray } = g2 at ns3 sb3 ⊢
  have size2 : g2.objs.size = g1.objs.size + 1 := by rw [← hg2, Heap.size_push]
  have up2 : ∀ b o, g1.get? b = some o → g2.get? b = some o := fun b o e => hg2 ▸ Heap.get?_push_of_some _ e
  have at2 : g2.get? g1.objs.size = some (lst []) := hg2 ▸ Heap.get?_push_size _ rfl
  generalize hI : s.heap.objs.size = I at *
  generalize hD : g1.objs.size = D at *
  generalize hC : g2.objs.size = C at *
  have ID : I < D := by rw [size1]; exact Nat.lt_succ_self _
  have DC : D < C := by rw [size2]; exact Nat.lt_succ_self _
  have lt1 : ∀ b o, g1.get? b = some o → b < D := fun b o e => hD ▸ Heap.lt_size e
  have lt0 : ∀ b o, s.heap.get? b = some o → b < I := fun b o e => hI ▸ Heap.lt_size e
  have old : ∀ b o, g1.get? b = some o → g3.get? b = some o := fun b o e => sb3.extBut b o (Nat.ne_of_lt (Nat.lt_trans (lt1 b o e) DC)) (Heap.get?_push_of_some _ (up2 b o e))
  have D0 : h₀.get? D = none := by
    cases e : h₀.get? D with
    | none => rfl
    | some o => exact absurd (lt0 _ _ (F₀.keep D o e)) (Nat.lt_asymm ID)
  have C0 : h₀.get? C = none := by
    cases e : h₀.get? C with
    | none => rfl
    | some o => exact absurd (lt0 _ _ (F₀.keep C o e)) (Nat.lt_asymm (Nat.lt_trans ID DC))
  have acc3 : g3.get? D = some (lst []) := sb3.extBut _ _ (Nat.ne_of_lt DC) (Heap.get?_push_of_some _ at2)
  have it3 : g3.IsListIter I ax 0 := it1.at fun o e => old _ o e
  have list3 : g3.IsList ax its.toArray := list1.at fun o e => old _ o e
  have offN : ∀ p ∈ news, p.1 < I := fun p hp => lt0 _ _ (N p hp).1
  have off : Off3 I C D news := Off3.of fun p hp => ⟨Nat.ne_of_lt (offN p hp), Nat.ne_of_lt (Nat.lt_trans (offN p hp) (Nat.lt_trans ID DC)), Nat.ne_of_lt (Nat.lt_trans (offN p hp) ID)⟩
  have W := Walks.list (prog := prog) (w := w) (A := A) hh I ax (Nat.ne_of_lt hlt) its.toArray
  have loop : ∀ s₃ : Shared, (∃ tk, s₃ = { s with heap := g3, toks := tk }) →
      codeAny (model prog w) A (.compLoop (.ListComp elt [⟨.Name x px, iter, [c], 0⟩] scope pos) 0 (.ref I) (.ref D) (compEnvC scope cl C env))
        (compPost (model prog w) A E none Q (.ref D) C) s₃ := by
    rintro s₃ ⟨tk₃, rfl⟩
    refine kct_loop (fun k s' => ∃ h' tk i ys m', s' = { s with heap := h', toks := tk } ∧ i ≤ its.length ∧ k = its.length + 1 - i ∧ ys.length ≤ i ∧ h'.IsListIter I ax i ∧ h'.IsList ax its.toArray ∧ Fr h₀ L h' m ∧ h'.Ns C m' ∧
        News h₀ L h' ((D, lst ys) :: news) ∧ PairsIn im ys ((pl.take i).filter f)) ?_ (its.length + 1)
      ⟨g3, _, 0, [], _, rfl, Nat.zero_le _, rfl, Nat.le_refl _, it3, list3, (F₀.keeps up1).keeps old, ns3, ?_, .nil⟩
    · rintro k s' ⟨h', tk, i, ys, m', rfl, hi, rfl, hyl, hit', hli', F', ns', N', hv⟩
      have CI : I ≠ C := Nat.ne_of_lt (Nat.lt_trans ID DC)
      have offm := off.mem
      have news_off : ∀ p ∈ (D, lst ys) :: news, p.1 ≠ I := fun p hp => by
        rcases List.mem_cons.mp hp with rfl | hp
        · exact Nat.ne_of_gt ID
        · exact (offm p hp).1
      have news_offC : ∀ p ∈ (D, lst ys) :: news, p.1 ≠ C := fun p hp => by
        rcases List.mem_cons.mp hp with rfl | hp
        · exact Nat.ne_of_lt DC
        · exact (offm p hp).2.1
      by_cases hil : i < its.length
      · refine W.item i _ _ _ (by simpa using hil) ⟨hit', hli'⟩ fun v h₂ tk₂ hv2 hst2 hk2 => ?_
        obtain ⟨a, X, Y, t, t', na, rfl, hma, hr⟩ := hP.at (by simpa using hv2)
        have htake : (pl.take (i + 1)).filter f = (pl.take i).filter f ++ [(X, Y)].filter f := by rw [List.take_succ, hr, List.filter_append]; rfl
        have N₂ : News h₀ L h₂ ((D, lst ys) :: news) := news_but N' hk2 news_off
        refine wpAny_letOwned_Name ?_
        have ns3' : h₂.Ns C m' := ns'.at' fun o e => hk2 C o (by simpa using Ne.symm CI) e
        refine wpAny_assign_Name (wpAny_storeName_local (lookup_relabel_local hx) ns3' (fun h₅ ns5 sb5 => ?_) (by simp [compEnvC, relabel, hkind]))
        have up5 : ∀ b o, b ≠ C → h₂.get? b = some o → h₅.get? b = some o := fun b o hb e => sb5.extBut b o hb e
        have F₅ : Fr h₀ L h₅ m := (fr_but F' hk2 (Nat.ne_of_lt hLlt) I0).change sb5 (Nat.ne_of_gt (Nat.lt_trans hLlt (Nat.lt_trans ID DC))) C0
        have it5 : h₅.IsListIter I ax (i + 1) := hst2.1.at fun o e => up5 I o CI e
        have li5 : h₅.IsList ax its.toArray := hst2.2.at fun o e => up5 ax o (Nat.ne_of_lt (Nat.lt_trans hlt (Nat.lt_trans ID DC))) e
        obtain ⟨oI, heI, hoI⟩ : ∃ oI, h₅.get? I = some oI ∧ ∀ h : Heap, h.get? I = some oI → h.IsListIter I ax (i + 1) := by
          obtain ⟨oI, e, r⟩ := it5
          exact ⟨oI, e, fun h e' => ⟨oI, e', r⟩⟩
        obtain ⟨oC, heC, hoC⟩ := ns_obj ns5
        have N₅ : News h₀ L h₅ ((I, oI) :: (C, oC) :: (D, lst ys) :: news) := fun p hp => by
          rcases List.mem_cons.mp hp with rfl | hp
          · exact ⟨heI, Nat.ne_of_gt hLlt, I0⟩
          · rcases List.mem_cons.mp hp with rfl | hp
            · exact ⟨heC, Nat.ne_of_gt (Nat.lt_trans hLlt (Nat.lt_trans ID DC)), C0⟩
            · exact ⟨up5 _ _ (news_offC p hp) (N₂ p hp).1, (N₂ p hp).2⟩
        refine turn I C D oI oC ys _ h₅ _ a X Y t t' na _ _ _ hma hoC (by simp) F₅ N₅ off ⟨CI, Nat.ne_of_lt ID, Ne.symm (Nat.ne_of_lt DC)⟩ (fun tk' hk => ?_) (fun tk' hk => ?_)
        · refine append_at (hsz := by show ys.toArray.size ≤ sizeLine; rw [List.size_toArray]; exact Nat.le_trans hyl (Nat.le_trans hi hsz)) (N₅ _ (.tail _ (.tail _ (.head _)))).1 fun h₆ sb6 e6 => ?_
          refine ⟨its.length + 1 - (i + 1), by omega, h₆, _, i + 1, ys ++ [.ref a], _, rfl, hil, rfl, by rw [List.length_append, List.length_singleton]; omega, it5.at fun o e => sb6.extBut _ _ (Nat.ne_of_lt ID) e, li5.at fun o e => sb6.extBut _ _ (Nat.ne_of_lt (Nat.lt_trans hlt ID)) e, F₅.change sb6 (Nat.ne_of_gt (Nat.lt_trans hLlt ID)) D0, ns5.sameBut sb6 (Ne.symm (Nat.ne_of_lt DC)), fun p hp => ?_, ?_⟩
          · rcases List.mem_cons.mp hp with rfl | hp
            · exact ⟨e6.trans (congrArg some (lst_snoc ys (.ref a))), Nat.ne_of_gt (Nat.lt_trans hLlt ID), D0⟩
            · exact ⟨sb6.extBut _ _ (offm p hp).2.2 (N₅ p (.tail _ (.tail _ (.tail _ hp)))).1, (N₅ p (.tail _ (.tail _ (.tail _ hp)))).2⟩
          · rw [htake, List.filter_cons_of_pos hk, List.filter_nil]
            exact hv.snoc hma
        · refine ⟨its.length + 1 - (i + 1), by omega, h₅, tk', i + 1, ys, _, rfl, hil, rfl, by omega, it5, li5, F₅, ns5, fun p hp => N₅ p (.tail _ (.tail _ hp)), ?_⟩
          rw [htake, List.filter_cons_of_neg (ne_true_of_eq_false hk), List.filter_nil, List.append_nil]
          exact hv
      · have hin : i = its.length := Nat.le_antisymm hi (Nat.not_lt.mp hil)
        subst hin
        refine W.done _ _ _ (by simpa using ⟨hit', hli'⟩) fun h₂ tk₂ hk2 => ?_
        have hv' : PairsIn im ys (pl.filter f) := by rw [hP.length, List.take_length] at hv; exact hv
        have F₂ : Fr h₀ L h₂ m := fr_but F' hk2 (Nat.ne_of_lt hLlt) I0
        have N₂ : News h₀ L h₂ ((D, lst ys) :: news) := news_but N' hk2 news_off
        have CL : C ≠ L := Nat.ne_of_gt (Nat.lt_trans hLlt (Nat.lt_trans ID DC))
        refine ⟨m', ns'.at' fun o e => hk2 C o (by simpa using Ne.symm CI) e, fun h'' sb'' => done D h'' _ ys hv' (F₂.change sb'' CL C0) (fun p hp => ?_) off.one⟩
        exact ⟨sb''.extBut _ _ (news_offC p hp) (N₂ p hp).1, (N₂ p hp).2⟩
    · intro p hp
      rcases List.mem_cons.mp hp with rfl | hp
      · exact ⟨acc3, Nat.ne_of_gt (Nat.lt_trans hLlt ID), D0⟩
      · exact ⟨old _ _ (up1 _ _ (N p hp).1), (N p hp).2⟩
  exact codeAny_compStart_list (loop _ ⟨_, rfl⟩) (W.self 0 _ _ _ ⟨it3, list3⟩ (loop _ ⟨_, rfl⟩))
end
end Mine
end
section
open PySem PySem.Spec PySem.Calls PySem.W PyProof.Rows
namespace Mine
section
variable {prog : Program} {w : World} {A : Around} {h₀ : Heap} {L : Addr} {m : Str → Option Value} {env : Env}
theorem compEnd_mono {s₁ s₂ : Shared} {I C D : Addr} {oI oC oD : Obj} {S : Led → Prop} {rest rest' : Value → Led → Prop} {y : Value} (h : ∀ y n, rest y n → rest' y n) (e : LCg.CompEnd h₀ L m s₁ I oI C oC D oD S rest y s₂) : LCg.CompEnd h₀ L m s₁ I oI C oC D oD S rest' y s₂ := by
  obtain ⟨h', tk, nw, e1, e2, e3, e4, e5, e6⟩ := e
  exact ⟨h', tk, nw, e1, e2, e3, e4, e5, h _ _ e6⟩
theorem compRest_of {elt : PySem.Expr} {x : Str} {scope : Scope} {cl : List (Str × Addr)} {s : Shared} {S : Led → Prop} {P : Nat → Value → Prop} {Fin : List Value → Led → Prop} (J : Nat → List Value → Led → Prop) (n : Nat)
    (turn : ∀ j ys news v I oI C oC D m₂ h tk (E' : Value → Shared → Prop), j < n → J j ys news → P j v → LCg.NsObj oC m₂ → m₂ x = some v → Fr h₀ L h m → News h₀ L h ((I, oI) :: (C, oC) :: (D, LCg.lst ys) :: news) → LCg.Off3 I C D news → ((@Ne Nat I C) ∧ (@Ne Nat I D) ∧ (@Ne Nat C D)) →
      wpAny (model prog w) A (eval elt (compEnvC scope cl C env)) (LCg.CompEnd h₀ L m { s with heap := h, toks := tk } I oI C oC D (LCg.lst ys) S (fun y news' => J (j + 1) (ys ++ [y]) news')) E' { s with heap := h, toks := tk })
    (fin : ∀ ys news, J n ys news → Fin ys news) : ∀ (k j : Nat) (ys : List Value) (news : Led), j + k = n → J j ys news → LCg.CompRest prog w A h₀ L m env elt x scope cl s S P Fin k j ys news
  | 0, j, ys, news, e, h => LCg.CompRest.zero (fin _ _ (by rw [show n = j by omega]; exact h))
  | k + 1, j, ys, news, e, h => LCg.CompRest.succ fun v I oI C oC D m₂ h' tk E' a1 a2 a3 a4 a5 a6 a7 =>
    wpAny_mono (turn j ys news v I oI C oC D m₂ h' tk E' (by omega) h a1 a2 a3 a4 a5 a6 a7) (fun y s₂ q => compEnd_mono (fun y nw hj => compRest_of J n turn fin k (j + 1) _ _ (by omega) hj) q) fun _ _ e => e
end
noncomputable def Mark : Prop := True
theorem range2_N {prog : Program} {w : World} {A : Around} {E : Value → Shared → Prop} {s : Shared} {h₀ : Heap} {L : Addr} {m : Str → Option Value} {news : Led} {a n : Int} {ta t : Tok} {Q : Value → Shared → Prop} (F : Fr h₀ L s.heap m) (N : News h₀ L s.heap news)
    (h : ∀ r h' tk v₁, Fr h₀ L h' m → News h₀ L h' ((r, ({ cls := .type "range", dict := none, data := .fields #[.int a ta, .int n t, .int 1 v₁], slots := #[] } : Obj)) :: news) → (∀ p ∈ news, p.1 < r) → Q (.ref r) { s with heap := h', toks := tk }) :
    wpAny (model prog w) A (call (.type "range") [.int a ta, .int n t]) Q E s :=
  call_range_2 (h _ _ _ _ (F.push _) (N.push F _) fun p hp => Heap.lt_size (N p hp).1)
theorem mem_pz {d e i t : Addr × Obj} {f l : Led} : ∀ q ∈ i :: t :: (f ++ (d :: l)), q ∈ d :: e :: i :: t :: (f ++ l) := by
  intro q hq
  simp only [List.mem_append, List.mem_cons] at hq ⊢
  rcases hq with h | h | h | h | h <;> simp [h]
theorem sep_pl {a r : Addr × Obj} {b : Addr} {o o' : Obj} {fr led : Led} (h : Sep (a :: r :: (b, o) :: fr) led) : Sep (a :: r :: (b, o') :: fr) led := fun f hf q hq => by
  rcases List.mem_cons.mp hf with rfl | hf
  · exact h _ (.head _) q hq
  · rcases List.mem_cons.mp hf with rfl | hf
    · exact h _ (.tail _ (.head _)) q hq
    · rcases List.mem_cons.mp hf with rfl | hf
      · exact h (b, o) (.tail _ (.tail _ (.head _))) q hq
      · exact h f (.tail _ (.tail _ (.tail _ hf))) q hq
theorem rows_atR {prog : Program} {w : World} {A : Around} {E : Value → Shared → Prop} {s : Shared} {value slice : PySem.Expr} {h₀ : Heap} {L D kk num : Nat} {news : Led} {its : List Value} {k : Int} {u : Tok} {Q : Value → Shared → Prop} (N : News h₀ L s.heap news) (hm : (D, listOf its.toArray kk) ∈ news) (hi : StrsAre its (R.take (num + 1))) (h0 : 0 ≤ k) (h1 : k ≤ (num : Int)) (hn : num ≤ 12) (h : ∀ t, Q (.str (Rr k.toNat) t) s)
    (hs : subscripted slice false (.ref D) (.int k u) = operate [.ref D, .int k u] (getItem (.ref D) (.int k u))) : wpAny (model prog w) A (subscriptTail value slice (.ref D) (.int k u)) Q E s := by
  have hL := News.isList N hm
  obtain ⟨t, e⟩ := StrsAre.at hi (R_at (i := k.toNat) (n := num + 1) (by omega) (by omega))
  exact tail_any hL.typeIs slot_list_getitem.lookup (wpAny_getItem_list hL h0 (by omega) (x := .str (Rr k.toNat) t) (by simpa using e) (h t)) hs
theorem rows_at {prog : Program} {w : World} {A : Around} {E : Value → Shared → Prop} {s : Shared} {value slice : PySem.Expr} {h₀ : Heap} {L D kk : Nat} {news : Led} {its : List Value} {ys : List Str} {y : Str} {k : Int} {u : Tok} {Q : Value → Shared → Prop} (N : News h₀ L s.heap news) (hm : (D, listOf its.toArray kk) ∈ news) (hi : StrsAre its ys) (h0 : 0 ≤ k) (h1 : k ≤ 1000) (hy : ys[k.toNat]? = some y) (h : ∀ t, Q (.str y t) s)
    (hs : subscripted slice false (.ref D) (.int k u) = operate [.ref D, .int k u] (getItem (.ref D) (.int k u))) : wpAny (model prog w) A (subscriptTail value slice (.ref D) (.int k u)) Q E s := by
  have hL := News.isList N hm
  obtain ⟨t, e⟩ := StrsAre.at hi hy
  exact tail_any hL.typeIs slot_list_getitem.lookup (wpAny_getItem_list hL h0 (by omega) (x := .str y t) (by simpa using e) (h t)) hs
local macro_rules | `(tactic| k_all) => `(tactic| assumption)
local macro_rules | `(tactic| k_mem) => `(tactic| first | assumption | (refine' List.mem_cons_of_mem _ ?_; k_mem))
local macro_rules | `(tactic| walk_at "subscriptTail Name Constant ref int") => `(tactic| (k_here; k_dflt ((first | ((with_reducible show wpAny _ _ (subscriptTail _ _ (Value.ref _) (Value.int 0 _)) _ _ _); refine' tup_i0 ?k1 ?_ ?k7 ?k8) | ((with_reducible show wpAny _ _ (subscriptTail _ _ (Value.ref _) (Value.int 1 _)) _ _ _); refine' tup_i1 ?k1 ?_ ?k7 ?k8) | ((with_reducible show wpAny _ _ (subscriptTail _ _ (Value.ref _) (Value.int 2 _)) _ _ _); refine' tup_i2 ?k1 ?_ ?k7 ?k8)); (case k1 => exact News.isTup (by k_asm) (by k_mem)); (case k7 => with_unfolding_all rfl); (case k8 => intro _; with_unfolding_all rfl))))
local macro_rules | `(tactic| walk_at "call type:range") => `(tactic| (k_here; (with_reducible show wpAny _ _ (call (Value.type "range") [Value.int _ _, Value.int _ _]) _ _ _); k_dflt (refine' range2_N ?k1 ?k2 ?_; (case k1 => k_asm); (case k2 => k_asm); k_whole); intro r' h' tk' t2' F' N' l1; (try k_lt l1); (try k_sweep)))
local macro_rules | `(tactic| walk_at "subscriptTail Name Name ref int") => `(tactic| (k_here; (with_reducible show wpAny _ _ (subscriptTail _ _ (Value.ref _) (Value.int _ _)) _ _ _); k_dflt (refine' rows_atR ?k1 ?k2 ?k3 ?k4 ?k5 ?k6 ?_ ?k7; (case k1 => k_asm); (case k2 => k_mem); (case k3 => assumption); (case k4 => omega); (case k5 => assumption); (case k6 => assumption); (case k7 => with_unfolding_all rfl)); intro tR))
local macro_rules | `(tactic| walk_at "subscriptTail Name Name ref int") => `(tactic| (k_here; (with_reducible show wpAny _ _ (subscriptTail _ _ (Value.ref _) (Value.int _ _)) _ _ _); k_dflt (refine' rows_at ?k1 ?k2 ?k3 ?k4 ?k5 ?k6 ?_ ?k7; (case k1 => k_asm); (case k2 => k_mem); (case k3 => assumption); (case k4 => omega); (case k5 => omega); (case k6 => assumption); (case k7 => with_unfolding_all rfl)); intro tR))
local macro_rules | `(tactic| walk_at "pyIter ref") => `(tactic| (k_here; refine stop_intro ?_))
local macro_rules | `(tactic| walk_at "execs cons") => `(tactic| (k_here; (with_reducible show wpAny _ _ (execs (Stmt.Assign [PySem.Expr.Tuple [PySem.Expr.Name (Str.ofString "goal") _, _] _ _] _ _ :: _) _) _ _ _); (fail_if_success (with_reducible rename Mark => hM)); refine stop_intro ?_))
local macro_rules | `(tactic| walk_at "call builtin:len") => `(tactic| (k_here; (with_reducible show wpAny _ _ (call (Value.builtin "len") [Value.ref _]) _ _ _); k_dflt (refine' len_led ?k1 ?k2 ?k3 ?_; (case k1 => k_asm); (case k2 => k_mem); (case k3 => omega); k_whole)))
local macro_rules | `(tactic| walk_at "CompSrc") => `(tactic| (k_here; refine stop_intro ?_))
local macro_rules | `(tactic| walk_at "CompEnd") => `(tactic| (k_here; refine stop_intro ?_))
section
variable {cd : Value} {fa : Addr} {prog : Program} {w : World} {p : Program} {loose : List Str} {mean : ExcName → Option Value} {mg mb : Str → Option Value}
set_option maxRecDepth 100000
set_option maxHeartbeats 8000000
noncomputable def JPairs (led0 : Led) (rl pl L : Nat) (cl : Addr) (ps : Array Value) (its : List Value) (kr : Nat) (w1 w2 w3 w4 : Obj) (i : Nat) (m : Str → Option Value) (news : Led) : Prop :=
  ∃ led pits kp, news = tb ps :: (frA rl pl L its kr pits kp w1 w2 w3 w4 ++ led) ∧ Sep (tb ps :: frA rl pl L its kr pits kp w1 w2 w3 w4) led ∧ (∀ q ∈ led0, q ∈ led) ∧ PairsIn led pits (PP i) ∧ ∀ p ∈ [(Str.ofString "cells", Value.ref cl), (Str.ofString "rows", .ref rl), (Str.ofString "pairs", .ref pl)], m p.1 = some p.2
theorem law1_pairs {tl : List Stmt} {A₀ : Around} {base h₀ h₁ : Heap} {outer : List Env} {L rl pl : Nat} {cl : Addr} {m : Str → Option Value} {w1 w2 w3 w4 : Obj} {tm : Tok} {num kr : Nat} {its : List Value} {led : Led} {ps : Array Value} {dp un tk : Nat} {gd : Option (List Code)} {s : Shared} {Q : Flow → Shared → Prop} {E : Value → Shared → Prop}
    (B : Below A₀ base outer h₀) (X : (KK w.params).In h₀) (T : Top p loose mean mg mb h₀) (F : Fr h₀ L h₁ m)
    (N : News h₀ L h₁ (tb ps :: (frA rl pl L its kr [] 0 w1 w2 w3 w4 ++ led))) (hsp : Sep (tb ps :: frA rl pl L its kr [] 0 w1 w2 w3 w4) led) (hw : w1.data = .cell (some (.int (num : Int) tm))) (hL : 448 < L) (h1 : L + 1 + 1 + 1 + 1 < rl) (h2 : rl < pl) (hn2 : 2 ≤ num) (hn : num ≤ 12) (hR : StrsAre its (R.take (num + 1))) (hm : ∀ p ∈ [(Str.ofString "cells", Value.ref cl), (Str.ofString "rows", .ref rl), (Str.ofString "pairs", .ref pl)], m p.1 = some p.2)
    (hdp : dp + 250 < recursionLimit) (hun : un + 2500 < cLine) (hEE : PassesOwn (model prog w) ((lawTop dp un gd outer).deeper (lawEnv cd fa L)) (lawEnv cd fa L) E)
    (next : ∀ led' pits' kp' m' h' tk', Fr h₀ L h' m' → News h₀ L h' (tb ps :: (frA rl pl L its kr pits' kp' w1 w2 w3 w4 ++ led')) → Sep (tb ps :: frA rl pl L its kr pits' kp' w1 w2 w3 w4) led' → (∀ q ∈ led, q ∈ led') → PairsIn led' pits' (PP num) → (∀ p ∈ [(Str.ofString "cells", Value.ref cl), (Str.ofString "rows", .ref rl), (Str.ofString "pairs", .ref pl)], m' p.1 = some p.2) → wpAny (model prog w) ((lawTop dp un gd outer).deeper (lawEnv cd fa L)) (execs tl (lawEnv cd fa L)) Q E { s with heap := h', toks := tk' }) :
    wpAny (model prog w) ((lawTop dp un gd outer).deeper (lawEnv cd fa L)) (execs (hPairs ++ tl) (lawEnv cd fa L)) Q E { s with heap := h₁, toks := tk } := by
  rw [knownL _ hm] at F
  unfold hPairs
  unfold lawEnv lawScope lit at *
  simp only [frA, tb, List.cons_append, List.nil_append] at N ⊢
  k_steps
  unfold Stop
  (with_reducible rename Fr h₀ L _ _ => kF)
  (with_reducible rename News h₀ L _ _ => kN)
  refine range_loop (JPairs led rl pl L cl ps its kr w1 w2 w3 w4) rfl kF kN (.head _) (small_one (by omega) (by omega) (by omega) (by omega)) num ?_ (fun q hq => .tail _ hq) ⟨led, [], 0, rfl, hsp, fun _ h => h, .nil, allP_cons rfl (allP_cons rfl (allP_cons rfl allP_nil))⟩ ?_ ?_
  · rw [rangeSize_nat]; omega
  · rintro i ti m₁ news₁ I ro h₁ tk₁ hi hoI ⟨led1, pits, kp, rfl, hsp1, hi1, hP, hm1⟩ F₁ N₁
    rw [show (fun y => if y = Str.ofString "at" then some (Value.int (1 + (i : Int)) ti) else m₁ y) = _ from knownL (m := fun y => if y = Str.ofString "at" then some (Value.int (1 + (i : Int)) ti) else m₁ y) [(Str.ofString "at", .int (1 + (i : Int)) ti), (Str.ofString "cells", Value.ref cl), (Str.ofString "rows", .ref rl), (Str.ofString "pairs", .ref pl)] (allP_cons rfl (allP_cons (hm1 _ (.head _)) (allP_cons (hm1 _ (.tail _ (.head _))) (allP_cons (hm1 _ (.tail _ (.tail _ (.head _)))) allP_nil))))] at F₁
    change Fr h₀ L _ _ at F₁
    change News h₀ L _ _ at N₁
    simp only [frA, tb, List.cons_append, List.nil_append] at N₁
    have hat : (R.take (num + 1))[(1 + (i : Int)).toNat]? = some (Rr (i + 1)) := by
      have : (1 + (i : Int)).toNat = i + 1 := by omega
      rw [this]
      exact R_at (by omega) (by omega)
    have oI := hoI
    have hzl : pits.length ≤ 8 := by rw [hP.length]; exact List.length_filter_le _ _
    clear kF kN hm1
    k_steps
    unfold Stop
    refine LCg.CompSrc.ledger (its := pits.toArray) rfl F₁ N₁ (.tail _ (.tail _ (.tail _ (.head _)))) (by rw [PySem.sizeLine_eq, List.size_toArray]; omega) ?_
    intro g'
    refine compRest_of (fun j ys nw => nw = _ ∧ IntsAre ys (((PP i).take j).map (·.2))) pits.length ?_ ?_ _ 0 [] _ (by simp) ⟨rfl, .nil⟩
    · rintro j ys nw v I2 oI2 C oC D m₂ h3 tk3 E' hj ⟨rfl, hY⟩ hv hC hm2 F2 N2 off ne
      obtain ⟨a, x, y, t, t', n', rfl, hma, hr⟩ := hP.at (by simpa using hv)
      clear F₁ N₁
      k_steps
      unfold Stop
      exact LCg.CompEnd.intro F2 N2 _ (fun _ h => h) off (.inr ⟨_, .tail _ (.tail _ (.tail _ (.head _))), rfl, _, rfl⟩) ⟨rfl, by rw [take_map _ hr]; exact hY.append (.cons _ _ .nil)⟩
    · rintro ys nw ⟨rfl, hY⟩
      rw [hP.length, List.take_length] at hY
      unfold LCg.FinE
      intro D h4 tk4 F4 N4 off4
      clear F₁ N₁
      have hrl : (Rr (i + 1)).length = 7 := (row_next (i := i) (by omega)).2.2.1
      have hpl := hP.length
      have htp := turnP_is hn hi
      rw [← hpl] at htp
      have hsl := Txt.slice_le (Rr (i + 1)) (some 1) none
      have hl0 : (Str.ofString "0").length = 1 := by decide +kernel
      have oP : ∀ q ∈ led1, q.1 ≠ pl := hsp1 _ (.tail _ (.tail _ (.head _)))
      have oL : Off I led1 := fun q hq => hoI q (.tail _ (.tail _ (.tail _ (.tail _ (.tail _ (.tail _ (.tail _ hq)))))))
      have hIp := neN (a := pl) (b := I) (hoI _ (.tail _ (.tail _ (.head _))))
      k_steps
      · rename (Int.fmod _ 2 = 1) => g1
        have hPP : PP (i + 1) = PP i := by
          rcases htp with ⟨_, _, h⟩ | ⟨h, _⟩
          · exact h
          · exact absurd g1 h
        (with_reducible rename Fr h₀ L _ _ => kF2)
        (with_reducible rename News h₀ L _ _ => kN2)
        refine rs_cont kF2 (News.sub (l' := (I, ro) :: tb ps :: (frA rl pl L its kr pits kp w1 w2 w3 w4 ++ led1)) kN2 fun q hq => .tail _ (.tail _ hq)) hoI ⟨led1, pits, kp, rfl, hsp1, hi1, by rw [hPP]; exact hP, allP_cons rfl (allP_cons rfl (allP_cons rfl allP_nil))⟩
      · rename (Int.fmod _ 2 = 1) => g1
        rename (List.any _ _ = false) => g2
        exfalso
        rcases htp with ⟨_, h, _⟩ | ⟨h, _⟩
        · rw [sec, g2] at h; cases h
        · exact h g1
      · unfold Stop
        have hmark : Mark := trivial
        rename (Int.fmod _ 2 ≠ 1) => g1
        obtain ⟨hs, hPP, hcase⟩ : sec i = false ∧ _ ∧ _ := by
          rcases htp with ⟨h, _⟩ | ⟨_, h⟩
          · exact absurd h g1
          · exact h
        unfold sec at hs
        clear htp
        (with_reducible rename Fr h₀ L _ _ => kF)
        (with_reducible rename News h₀ L _ _ => kN)
        have N6 := News.sub (l' := (I, ro) :: tb ps :: (frA rl pl L its kr pits kp w1 w2 w3 w4 ++ led1)) kN fun q hq => .tail _ (.tail _ hq)
        obtain ⟨u0, hu0⟩ := Fr.tok kF (Str.ofString "row") (fun t => Value.str (Rr (i + 1)) t) ⟨_, rfl⟩
        obtain ⟨m9, kF9, hm9⟩ : ∃ m9, Fr h₀ L _ m9 ∧ ∃ tR, ∀ p ∈ [(Str.ofString "row", Value.str (Rr (i + 1)) tR), (Str.ofString "is_second", .bool (((PP i).map (·.2)).any (· == 1 + (i : Int)))), (Str.ofString "at", .int (1 + (i : Int)) ti), (Str.ofString "cells", Value.ref cl), (Str.ofString "rows", .ref rl), (Str.ofString "pairs", .ref pl)], m9 p.1 = some p.2 := by
          refine ⟨_, kF, u0, ?_⟩
          intro p hp
          simp only [List.mem_cons, List.not_mem_nil, or_false] at hp
          rcases hp with rfl | rfl | rfl | rfl | rfl | rfl
          · exact hu0
          all_goals rfl
        obtain ⟨tR9, hm9⟩ := hm9
        rw [hs] at hm9
        rw [knownL _ hm9] at kF9
        clear hm9 hu0 kF kN off4 hY
        simp only [frA, tb, List.cons_append, List.nil_append] at N6
        have eg : (1 + (i : Int) + (pits.length : Int) + 1).toNat = i + pits.length + 2 := by omega
        rw [← eg] at hcase
        unfold shiftP at hcase
        k_steps
        · exfalso
          rename (_ != _) = true => g2
          rcases hcase with ⟨_, h⟩ | ⟨h, _⟩
          · rw [g2] at h; cases h
          · omega
        · clear hcase
          (with_reducible rename Fr h₀ L _ _ => kF2)
          (with_reducible rename News h₀ L _ _ => kN2)
          simp only [List.push_toArray] at kN2
          (rename _ < _ ∧ _ < _ ∧ _ < _ ∧ _ < _ ∧ _ < _ ∧ _ < _ ∧ _ < _ ∧ _ < _ ∧ _ < _ ∧ AllLt _ led1 => l9)
          refine rs_next kF2 (News.sub (l' := (I, ro) :: tb ps :: (frA rl pl L its kr (pits ++ [_]) (kp + 1) w1 w2 w3 w4 ++ ((_, _) :: led1))) kN2 mem_pz) ?_ ⟨(_, _) :: led1, pits ++ [_], kp + 1, rfl, Sep.up ⟨l9.2.2.1, l9.2.2.2.1, l9.2.2.2.2.1, l9.2.2.2.2.2.1, l9.2.2.2.2.2.2.1, l9.2.2.2.2.2.2.2.1, l9.2.2.2.2.2.2.2.2.1, trivial⟩ (sep_pl hsp1), fun q hq => .tail _ (hi1 q hq), ?_, allP_cons rfl (allP_cons rfl (allP_cons rfl allP_nil))⟩
          · exact Off.cons (hoI _ (.head _)) (Off.cons (hoI _ (.tail _ (.head _))) (Off.cons hIp (Off.cons (hoI _ (.tail _ (.tail _ (.tail _ (.head _))))) (Off.cons (hoI _ (.tail _ (.tail _ (.tail _ (.tail _ (.head _)))))) (Off.cons (hoI _ (.tail _ (.tail _ (.tail _ (.tail _ (.tail _ (.head _))))))) (Off.cons (hoI _ (.tail _ (.tail _ (.tail _ (.tail _ (.tail _ (.tail _ (.head _)))))))) (Off.cons (Nat.ne_of_gt l9.2.1) oL)))))))
          · rw [hPP]
            exact (hP.mono fun q hq => .tail _ hq).snoc (.head _)
        · exfalso
          rename (List.any _ _ = true) => g2
          rcases hcase with ⟨h, _⟩ | ⟨_, h⟩
          · omega
          · rw [g2] at h; cases h
        · clear hcase
          (with_reducible rename Fr h₀ L _ _ => kF2)
          (with_reducible rename News h₀ L _ _ => kN2)
          simp only [List.push_toArray] at kN2
          (rename _ < _ ∧ _ < _ ∧ _ < _ ∧ _ < _ ∧ _ < _ ∧ _ < _ ∧ _ < _ ∧ _ < _ ∧ _ < _ ∧ AllLt _ led1 => l9)
          refine rs_next kF2 (News.sub (l' := (I, ro) :: tb ps :: (frA rl pl L its kr (pits ++ [_]) (kp + 1) w1 w2 w3 w4 ++ ((_, _) :: led1))) kN2 mem_pz) ?_ ⟨(_, _) :: led1, pits ++ [_], kp + 1, rfl, Sep.up ⟨l9.2.2.1, l9.2.2.2.1, l9.2.2.2.2.1, l9.2.2.2.2.2.1, l9.2.2.2.2.2.2.1, l9.2.2.2.2.2.2.2.1, l9.2.2.2.2.2.2.2.2.1, trivial⟩ (sep_pl hsp1), fun q hq => .tail _ (hi1 q hq), ?_, allP_cons rfl (allP_cons rfl (allP_cons rfl allP_nil))⟩
          · exact Off.cons (hoI _ (.head _)) (Off.cons (hoI _ (.tail _ (.head _))) (Off.cons hIp (Off.cons (hoI _ (.tail _ (.tail _ (.tail _ (.head _))))) (Off.cons (hoI _ (.tail _ (.tail _ (.tail _ (.tail _ (.head _)))))) (Off.cons (hoI _ (.tail _ (.tail _ (.tail _ (.tail _ (.tail _ (.head _))))))) (Off.cons (hoI _ (.tail _ (.tail _ (.tail _ (.tail _ (.tail _ (.tail _ (.head _)))))))) (Off.cons (Nat.ne_of_gt l9.2.1) oL)))))))
          · rw [hPP]
            exact (hP.mono fun q hq => .tail _ hq).snoc (.head _)
  · rintro m₁ news₁ h₁ tk₁ ⟨led1, pits, kp, rfl, hsp1, hi1, hP, hm1⟩ F₁ N₁
    exact next led1 pits kp _ _ _ F₁ N₁ hsp1 hi1 hP hm1
end
end Mine
end
section
open PySem PySem.Spec PySem.Calls PySem.W PyProof.Rows
namespace Mine
local macro_rules | `(tactic| k_all) => `(tactic| assumption)
local macro_rules | `(tactic| k_mem) => `(tactic| first | assumption | (refine' List.mem_cons_of_mem _ ?_; k_mem))
local macro_rules | `(tactic| walk_at "subscriptTail Name Constant ref int") => `(tactic| (k_here; k_dflt ((first | ((with_reducible show wpAny _ _ (subscriptTail _ _ (Value.ref _) (Value.int 0 _)) _ _ _); refine' tup_i0 ?k1 ?_ ?k7 ?k8) | ((with_reducible show wpAny _ _ (subscriptTail _ _ (Value.ref _) (Value.int 1 _)) _ _ _); refine' tup_i1 ?k1 ?_ ?k7 ?k8) | ((with_reducible show wpAny _ _ (subscriptTail _ _ (Value.ref _) (Value.int 2 _)) _ _ _); refine' tup_i2 ?k1 ?_ ?k7 ?k8)); (case k1 => exact News.isTup (by k_asm) (by k_mem)); (case k7 => with_unfolding_all rfl); (case k8 => intro _; with_unfolding_all rfl))))
local macro_rules | `(tactic| walk_at "eval ListComp") => `(tactic| (k_here; refine stop_intro ?_))
theorem add_pairs {prog : Program} {w : World} {A : Around} {E : Value → Shared → Prop} {s : Shared} {h₀ : Heap} {L a b k1 k2 : Nat} {m : Str → Option Value} {news : Led} {xs ys : List Value} {Q : Value → Shared → Prop} (F : Fr h₀ L s.heap m) (N : News h₀ L s.heap news) (ha : (a, listOf xs.toArray k1) ∈ news) (hb : (b, listOf ys.toArray k2) ∈ news) (hz : xs.length + ys.length ≤ 100000)
    (h : ∀ D h', Fr h₀ L h' m → News h₀ L h' ((D, listOf (xs ++ ys).toArray 0) :: news) → (∀ p ∈ news, p.1 < D) → Q (.ref D) { s with heap := h' }) : wpAny (model prog w) A (binaryOp .Add (.ref a) (.ref b)) Q E s :=
  add_lists F N (News.isList N ha) (News.isList N hb) (fun h' F' N' => h _ h' F' N' fun p hp => Heap.lt_size (N p hp).1) (by rw [sizeLine_eq]; omega)
section
variable {cd : Value} {fa : Addr} {prog : Program} {w : World} {p : Program} {loose : List Str} {mean : ExcName → Option Value} {mg mb : Str → Option Value}
set_option maxRecDepth 100000
set_option maxHeartbeats 8000000
theorem law1_cold {tl : List Stmt} {A₀ : Around} {base h₀ h₁ : Heap} {outer : List Env} {L rl pl : Nat} {cl : Addr} {m : Str → Option Value} {w1 w2 w3 w4 : Obj} {tm : Tok} {num kr kp : Nat} {its pits : List Value} {led : Led} {ps : Array Value} {dp un tk : Nat} {gd : Option (List Code)} {s : Shared} {Q : Flow → Shared → Prop} {E : Value → Shared → Prop}
    (B : Below A₀ base outer h₀) (X : (KK w.params).In h₀) (T : Top p loose mean mg mb h₀) (F : Fr h₀ L h₁ m)
    (N : News h₀ L h₁ (tb ps :: (frA rl pl L its kr pits kp w1 w2 w3 w4 ++ led))) (hsp : Sep (tb ps :: frA rl pl L its kr pits kp w1 w2 w3 w4) led) (hw : w1.data = .cell (some (.int (num : Int) tm))) (hw2 : w2.data = .cell none) (hL : 448 < L) (h1 : L + 1 + 1 + 1 + 1 < rl) (h2 : rl < pl) (hn : num ≤ 12) (hP : PairsIn led pits (PP num)) (hm : ∀ p ∈ [(Str.ofString "cells", Value.ref cl), (Str.ofString "rows", .ref rl), (Str.ofString "pairs", .ref pl)], m p.1 = some p.2)
    (hdp : dp + 250 < recursionLimit) (hun : un + 2500 < cLine)
    (next : ∀ led' cp cits kc w2' h' tk', Fr h₀ L h' (fun y => match List.lookup y [(Str.ofString "cells", Value.ref cl), (Str.ofString "rows", .ref rl), (Str.ofString "pairs", .ref pl)] with | some v => some v | none => m y) → News h₀ L h' ((L + 1 + 1 + 1, w3) :: (L + 1 + 1 + 1 + 1, w4) :: led') → Off (L + 1 + 1 + 1) led' → Off (L + 1 + 1 + 1 + 1) led' → (∀ q ∈ led, q ∈ led') → (L + 1, w1) ∈ led' → (L + 1 + 1, w2') ∈ led' → (((448 : Addr), tabObj ps) ∈ led') → w2'.data = .cell (some (.ref cp)) → (cp, listOf (List.toArray cits) kc) ∈ led' → PairsIn led' cits ((0, 0) :: (PP num).filter fun q => decide (q.2 ≤ (num : Int))) → wpAny (model prog w) ((lawTop dp un gd outer).deeper (lawEnv cd fa L)) (execs tl (lawEnv cd fa L)) Q E { s with heap := h', toks := tk' }) :
    wpAny (model prog w) ((lawTop dp un gd outer).deeper (lawEnv cd fa L)) (execs (hCold ++ tl) (lawEnv cd fa L)) Q E { s with heap := h₁, toks := tk } := by
  rw [knownL _ hm] at F
  unfold hCold
  unfold lawEnv lawScope lit at *
  simp only [frA, tb, List.cons_append, List.nil_append] at N ⊢
  have hzl : pits.length ≤ 8 := by rw [hP.length]; exact List.length_filter_le _ _
  have oC : ∀ q ∈ led, q.1 ≠ L + 1 + 1 := hsp _ (.tail _ (.tail _ (.tail _ (.tail _ (.head _)))))
  k_steps
  unfold Stop
  rename_i D1 h1' lA l1' h2' kF kN lB
  refine pair_comp (ax := pl) (its := pits) (kk := kp) (im := led) (pl := PP num) (f := fun q => decide (q.2 ≤ (num : Int))) kF (by rfl) (by decide) rfl (by decide) (by rfl) rfl ?hit kN (by k_mem) ?him hP (by rw [PySem.sizeLine_eq]; omega) ?turn ?done
  case hit =>
    intro R hR
    k_steps
    exact hR _
  case him => exact fun q hq => .tail _ (.tail _ (.tail _ (.tail _ (.tail _ (.tail _ (.tail _ (.tail _ (.tail _ hq))))))))
  case turn =>
    intro I C D oI oC ys m₂ h tk a X Y t t' n Rv Rf E' hma hC hm2 F2 N2 off ne ht hf
    clear kF kN
    k_steps
    all_goals first | exact ht _ (decide_eq_true ‹_›) | exact hf _ (decide_eq_false ‹_›)
  case done =>
    intro D h tk9 ys hY F2 N2 off
    clear kF kN
    have hyl : ys.length ≤ 8 := by rw [hY.length]; exact Nat.le_trans (List.length_filter_le _ _) (List.length_filter_le _ _)
    refine add_pairs F2 N2 (xs := [_]) (ys := ys) (.tail _ (.head _)) (.head _) (by rw [List.length_singleton]; omega) ?_
    intro D2 h2 F3 N3 l3
    clear F2 N2
    have nD : @Ne Nat (L + 1 + 1) D := off.2.2.2.2.2.2.1
    have nD2 : @Ne Nat D (L + 1 + 1) := Ne.symm nD
    k_lt l3
    k_steps
    (with_reducible rename Fr h₀ L _ _ => kF)
    (with_reducible rename News h₀ L _ _ => kN)
    (with_reducible rename Obj.data _ = Data.cell (some (Value.ref _)) => kd)
    refine next ((D2, listOf ([Value.ref D1] ++ ys).toArray 0) :: (D, LCg.lst ys) :: (l1', listOf #[Value.ref D1] 0) :: (D1, tup #[.int 0 tk, .int 0 (tk + 1)] 0) :: (448, tabObj ps) :: (rl, listOf its.toArray kr) :: (pl, listOf pits.toArray kp) :: (L + 1, w1) :: (L + 1 + 1, _) :: led) D2 ([Value.ref D1] ++ ys) 0 _ _ _ kF (News.sub kN ?_) ?_ ?_ (fun q hq => .tail _ (.tail _ (.tail _ (.tail _ (.tail _ (.tail _ (.tail _ (.tail _ (.tail _ hq))))))))) (.tail _ (.tail _ (.tail _ (.tail _ (.tail _ (.tail _ (.tail _ (.head _)))))))) (.tail _ (.tail _ (.tail _ (.tail _ (.tail _ (.tail _ (.tail _ (.tail _ (.head _))))))))) (.tail _ (.tail _ (.tail _ (.tail _ (.head _))))) kd (.head _) (PairsIn.append (PairsIn.cons (l := []) (.tail _ (.tail _ (.tail _ (.head _)))) .nil) (hY.mono fun q hq => .tail _ (.tail _ (.tail _ (.tail _ (.tail _ (.tail _ (.tail _ (.tail _ (.tail _ hq))))))))))
    · intro q hq
      simp only [List.mem_cons] at hq ⊢
      rcases hq with h | h | h | h | h | h | h | h | h | h | h | h <;> simp [h]
    · have := off.2.2.2.2.2.2.2.1
      have o := hsp _ (.tail _ (.tail _ (.tail _ (.tail _ (.tail _ (.head _))))))
      refine Off.cons (Nat.ne_of_gt (by omega)) (Off.cons (Ne.symm this) (Off.cons (Nat.ne_of_gt (by omega)) (Off.cons (Nat.ne_of_gt (by omega)) (Off.cons (Nat.ne_of_lt (by omega)) (Off.cons (Nat.ne_of_gt (by omega)) (Off.cons (Nat.ne_of_gt (by omega)) (Off.cons (Nat.ne_of_lt (by omega)) (Off.cons (Nat.ne_of_lt (by omega)) o))))))))
    · have := off.2.2.2.2.2.2.2.2.1
      have o := hsp _ (.tail _ (.tail _ (.tail _ (.tail _ (.tail _ (.tail _ (.head _)))))))
      refine Off.cons (Nat.ne_of_gt (by omega)) (Off.cons (Ne.symm this) (Off.cons (Nat.ne_of_gt (by omega)) (Off.cons (Nat.ne_of_gt (by omega)) (Off.cons (Nat.ne_of_lt (by omega)) (Off.cons (Nat.ne_of_gt (by omega)) (Off.cons (Nat.ne_of_gt (by omega)) (Off.cons (Nat.ne_of_lt (by omega)) (Off.cons (Nat.ne_of_lt (by omega)) o))))))))
end
end Mine
end
section
open PySem PySem.Spec PySem.Calls PySem.W PyProof.Rows
namespace Mine
local macro_rules | `(tactic| k_all) => `(tactic| assumption)
local macro_rules | `(tactic| k_mem) => `(tactic| first | assumption | (refine' List.mem_cons_of_mem _ ?_; k_mem))
local macro_rules | `(tactic| walk_at "subscriptTail Name Constant ref int") => `(tactic| (k_here; k_dflt ((first | ((with_reducible show wpAny _ _ (subscriptTail _ _ (Value.ref _) (Value.int 0 _)) _ _ _); refine' lst_i0 ?k1 ?_ ?k7 ?k8) | ((with_reducible show wpAny _ _ (subscriptTail _ _ (Value.ref _) (Value.int 1 _)) _ _ _); refine' lst_i1 ?k1 ?_ ?k7 ?k8) | ((with_reducible show wpAny _ _ (subscriptTail _ _ (Value.ref _) (Value.int 2 _)) _ _ _); refine' lst_i2 ?k1 ?_ ?k7 ?k8)); (case k1 => exact News.isList (by k_asm) (by k_mem)); (case k7 => with_unfolding_all rfl); (case k8 => intro _; with_unfolding_all rfl))))
theorem few_more {a b : Int} {n : Nat} (ha : 0 ≤ a) (ha' : a < (n : Int) + 1) (hb : 0 ≤ b) (hb' : b < (n : Int) + 1) : ∃ few more : Nat, (if b < a then b else a) = (few : Int) ∧ (if b > a then b else a) = (more : Int) ∧ few ≤ more ∧ more ≤ n := by
  by_cases h : b < a
  · exact ⟨b.toNat, a.toNat, by rw [if_pos h]; omega, by rw [if_neg (by omega)]; omega, by omega, by omega⟩
  · by_cases h' : b > a
    · exact ⟨a.toNat, b.toNat, by rw [if_neg h]; omega, by rw [if_pos h']; omega, by omega, by omega⟩
    · exact ⟨a.toNat, a.toNat, by rw [if_neg h]; omega, by rw [if_neg h']; omega, by omega, by omega⟩
section
variable {cd : Value} {fa : Addr} {prog : Program} {w : World} {p : Program} {loose : List Str} {mean : ExcName → Option Value} {mg mb : Str → Option Value}
set_option maxRecDepth 100000
set_option maxHeartbeats 8000000
theorem law1_few {tl : List Stmt} {A₀ : Around} {base h₀ h₁ : Heap} {outer : List Env} {L : Nat} {cl : Addr} {m : Str → Option Value} {w1 w3 w4 : Obj} {tm t0 t1 t2 : Tok} {c0 c1 c2 : Int} {num : Nat} {led : Led} {dp un tk : Nat} {gd : Option (List Code)} {s : Shared} {Q : Flow → Shared → Prop} {E : Value → Shared → Prop}
    (B : Below A₀ base outer h₀) (X : (KK w.params).In h₀) (T : Top p loose mean mg mb h₀) (F : Fr h₀ L h₁ m)
    (N : News h₀ L h₁ ((L + 1 + 1 + 1, w3) :: (L + 1 + 1 + 1 + 1, w4) :: led)) (o3 : Off (L + 1 + 1 + 1) led) (o4 : Off (L + 1 + 1 + 1 + 1) led) (hw : w1.data = .cell (some (.int (num : Int) tm))) (hw3 : w3.data = .cell none) (hw4 : w4.data = .cell none) (hM : (L + 1, w1) ∈ led) (hC : (cl, listOf #[.int c0 t0, .int c1 t1, .int c2 t2] 0) ∈ led) (hm : m (Str.ofString "cells") = some (.ref cl))
    (hdp : dp + 250 < recursionLimit) (hun : un + 2500 < cLine)
    (next : ∀ (few more : Nat) w3' w4' t3 t4 h' tk', few ≤ more → more ≤ num → Fr h₀ L h' (fun y => match List.lookup y [(Str.ofString "cells", Value.ref cl)] with | some v => some v | none => m y) → News h₀ L h' ((L + 1 + 1 + 1, w3') :: (L + 1 + 1 + 1 + 1, w4') :: led) → w3'.data = .cell (some (.int (few : Int) t3)) → w4'.data = .cell (some (.int (more : Int) t4)) → wpAny (model prog w) ((lawTop dp un gd outer).deeper (lawEnv cd fa L)) (execs tl (lawEnv cd fa L)) Q E { s with heap := h', toks := tk' }) :
    wpAny (model prog w) ((lawTop dp un gd outer).deeper (lawEnv cd fa L)) (execs (hFew ++ tl) (lawEnv cd fa L)) Q E { s with heap := h₁, toks := tk } := by
  rw [knownL [(Str.ofString "cells", Value.ref cl)] (allP_cons hm allP_nil)] at F
  unfold hFew
  unfold lawEnv lawScope lit at *
  simp only [List.cons_append, List.nil_append]
  k_steps
  (with_reducible rename Fr h₀ L _ _ => kF)
  (with_reducible rename News h₀ L _ _ => kN)
  (with_reducible rename Obj.data _ = Data.cell (some (Value.int _ _)) => kd4)
  rename_i kd3 _ _ _ _
  obtain ⟨few, more, e1, e2, l1, l2⟩ := few_more (a := c1.fmod ((num : Int) + 1)) (b := c2.fmod ((num : Int) + 1)) (n := num) (Int.fmod_nonneg_of_pos _ (by omega)) (Int.fmod_lt_of_pos _ (by omega)) (Int.fmod_nonneg_of_pos _ (by omega)) (Int.fmod_lt_of_pos _ (by omega))
  rw [e1] at kd3
  rw [e2] at kd4
  exact next few more _ _ _ _ _ _ l1 l2 kF kN kd3 kd4
end
end Mine
end
section
open PySem PySem.Spec PySem.Calls PySem.W PyProof.Rows
namespace Mine
local macro_rules | `(tactic| k_all) => `(tactic| assumption)
local macro_rules | `(tactic| k_mem) => `(tactic| first | assumption | (refine' List.mem_cons_of_mem _ ?_; k_mem))
local macro_rules | `(tactic| walk_at "call type:range") => `(tactic| (k_here; (with_reducible show wpAny _ _ (call (Value.type "range") [Value.int _ _, Value.int _ _]) _ _ _); k_dflt (refine' range2_N ?k1 ?k2 ?_; (case k1 => k_asm); (case k2 => k_asm); k_whole); intro r' h' tk' t2' F' N' l1; (try k_lt l1); (try k_sweep)))
local macro_rules | `(tactic| walk_at "CompSrc") => `(tactic| (k_here; refine stop_intro ?_))
local macro_rules | `(tactic| walk_at "CompEnd") => `(tactic| (k_here; refine stop_intro ?_))
local macro_rules | `(tactic| walk_at "eval ListComp") => `(tactic| (k_here; k_dflt (refine LCg.ListComp_U (F₀ := by k_asm) (by with_unfolding_all rfl) (by decide) (by rfl) (by decide) (by rfl) ?_)))
theorem mem_turn {α : Type} (d i c e : α) {nw : List α} : ∀ p ∈ i :: c :: e :: d :: nw, p ∈ d :: i :: c :: e :: nw := by
  intro p hp
  simp only [List.mem_cons] at hp ⊢
  rcases hp with h | h | h | h | h <;> simp [h]
section
variable {cd : Value} {fa : Addr} {prog : Program} {w : World} {p : Program} {loose : List Str} {mean : ExcName → Option Value} {mg mb : Str → Option Value}
set_option maxRecDepth 100000
set_option maxHeartbeats 8000000
theorem law1_goals {tl : List Stmt} {A₀ : Around} {base h₀ h₁ : Heap} {outer : List Env} {L : Nat} {m : Str → Option Value} {w3 w4 : Obj} {t3 t4 : Tok} {few more : Nat} {led : Led} {dp un tk : Nat} {gd : Option (List Code)} {s : Shared} {Q : Flow → Shared → Prop} {E : Value → Shared → Prop}
    (B : Below A₀ base outer h₀) (X : (KK w.params).In h₀) (T : Top p loose mean mg mb h₀) (F : Fr h₀ L h₁ m)
    (N : News h₀ L h₁ led) (c3 : (L + 1 + 1 + 1, w3) ∈ led) (c4 : (L + 1 + 1 + 1 + 1, w4) ∈ led) (hw3 : w3.data = .cell (some (.int (few : Int) t3))) (hw4 : w4.data = .cell (some (.int (more : Int) t4))) (hfm : few ≤ more) (hmn : more ≤ 12)
    (hdp : dp + 250 < recursionLimit) (hun : un + 2500 < cLine)
    (next : ∀ led' gp gits kg m' h' tk', Fr h₀ L h' m' → News h₀ L h' led' → (∀ q ∈ led, q ∈ led') → (gp, listOf (List.toArray gits) kg) ∈ led' → PairsIn led' gits (((List.range few).map fun i : Nat => ((few : Int) - (1 + (i : Int)), (more : Int))) ++ ((List.range more).map fun i : Nat => ((few : Int), (more : Int) - (1 + (i : Int))))) → m' (Str.ofString "goals") = some (.ref gp) → wpAny (model prog w) ((lawTop dp un gd outer).deeper (lawEnv cd fa L)) (execs tl (lawEnv cd fa L)) Q E { s with heap := h', toks := tk' }) :
    wpAny (model prog w) ((lawTop dp un gd outer).deeper (lawEnv cd fa L)) (execs (hGoals ++ tl) (lawEnv cd fa L)) Q E { s with heap := h₁, toks := tk } := by
  unfold hGoals
  unfold lawEnv lawScope lit at *
  simp only [List.cons_append, List.nil_append]
  k_steps
  unfold Stop
  rename_i kF kN lA
  refine LCg.CompSrc.range rfl kF kN (kN _ (.head _)).1 (small_one (by omega) (by omega) (by omega) (by omega)) (n := few) (by rw [rangeSize_nat]; omega) (by rw [PySem.sizeLine_eq]; omega) ?_
  intro g'
  refine compRest_of (fun j ys nw => (∀ q ∈ led, q ∈ nw) ∧ PairsIn nw ys ((List.range j).map fun i : Nat => ((few : Int) - (1 + (i : Int)), (more : Int)))) few ?_ ?_ _ 0 [] _ (by omega) ⟨fun q hq => .tail _ hq, .nil⟩
  · rintro j ys nw v I2 oI2 C oC D m₂ h3 tk3 E' hj ⟨hs, hY⟩ ⟨t, rfl⟩ hC hm2 F2 N2 off ne
    have n3 := hs _ c3
    have n4 := hs _ c4
    clear kF kN c3 c4
    k_steps
    unfold Stop
    rename_i D' h' F' N' l1
    exact LCg.CompEnd.intro F' N' ((D', tup #[.int ((few : Int) - (1 + (j : Int))) tk3, .int (more : Int) t4] 0) :: nw) (mem_turn _ _ _ _) ⟨⟨Nat.ne_of_gt l1.1, Nat.ne_of_gt l1.2.1, Nat.ne_of_gt l1.2.2.1⟩, off⟩ trivial ⟨fun q hq => .tail _ (hs q hq), by rw [List.range_succ, List.map_append]; exact PairsIn.snoc (hY.mono fun q hq => .tail _ hq) (.head _)⟩
  · rintro ys nw ⟨hs, hY⟩
    unfold LCg.FinE
    intro D h4 tk4 F4 N4 off4
    have n3 := List.mem_cons_of_mem (D, LCg.lst ys) (hs _ c3)
    have n4 := List.mem_cons_of_mem (D, LCg.lst ys) (hs _ c4)
    clear kF kN c3 c4
    clear lA
    k_steps
    unfold Stop
    rename_i r2 h5 kF kN lA
    refine LCg.CompSrc.range rfl kF kN (kN _ (.head _)).1 (small_one (by omega) (by omega) (by omega) (by omega)) (n := more) (by rw [rangeSize_nat]; omega) (by rw [PySem.sizeLine_eq]; omega) ?_
    intro g'2
    refine compRest_of (fun j ys2 nw2 => (∀ q ∈ (D, LCg.lst ys) :: nw, q ∈ nw2) ∧ PairsIn nw2 ys2 ((List.range j).map fun i : Nat => ((few : Int), (more : Int) - (1 + (i : Int))))) more ?_ ?_ _ 0 [] _ (by omega) ⟨fun q hq => .tail _ hq, .nil⟩
    · rintro j ys2 nw2 v I2 oI2 C oC D2 m₂ h3 tk3 E' hj ⟨hs2, hY2⟩ ⟨t, rfl⟩ hC hm2 F2 N2 off ne
      have n32 := hs2 _ n3
      have n42 := hs2 _ n4
      clear kF kN n3 n4
      k_steps
      unfold Stop
      rename_i D' h' F' N' l1
      exact LCg.CompEnd.intro F' N' ((D', tup #[.int (few : Int) t3, .int ((more : Int) - (1 + (j : Int))) tk3] 0) :: nw2) (mem_turn _ _ _ _) ⟨⟨Nat.ne_of_gt l1.1, Nat.ne_of_gt l1.2.1, Nat.ne_of_gt l1.2.2.1⟩, off⟩ trivial ⟨fun q hq => .tail _ (hs2 q hq), by rw [List.range_succ, List.map_append]; exact PairsIn.snoc (hY2.mono fun q hq => .tail _ hq) (.head _)⟩
    · rintro ys2 nw2 ⟨hs2, hY2⟩
      unfold LCg.FinE
      intro D2 h4 tk4 F5 N5 off5
      have hl1 : ys.length ≤ 12 := by rw [hY.length, List.length_map, List.length_range]; omega
      have hl2 : ys2.length ≤ 12 := by rw [hY2.length, List.length_map, List.length_range]; omega
      refine add_pairs F5 N5 (xs := ys) (ys := ys2) (.tail _ (hs2 _ (.head _))) (.head _) (by omega) ?_
      intro D6 h6 F6 N6 l6
      clear kF kN n3 n4 F5 N5 lA
      k_lt l6
      k_steps
      (with_reducible rename Fr h₀ L _ _ => kF)
      (with_reducible rename News h₀ L _ _ => kN)
      exact next _ D6 (ys ++ ys2) 0 _ _ _ kF kN (fun q hq => .tail _ (.tail _ (hs2 _ (.tail _ (hs _ hq))))) (.head _) (PairsIn.append (hY.mono fun q hq => .tail _ (.tail _ (hs2 _ (.tail _ hq)))) (hY2.mono fun q hq => .tail _ (.tail _ hq))) rfl
end
end Mine
end
section
open PySem PySem.Spec PySem.Calls PySem.W PyProof.Rows
namespace Mine
local macro_rules | `(tactic| walk_at "no such key") => `(tactic| fail)
local macro_rules | `(tactic| k_all) => `(tactic| assumption)
local macro_rules | `(tactic| k_mem) => `(tactic| first | assumption | (refine' List.mem_cons_of_mem _ ?_; k_mem))
local macro_rules | `(tactic| walk_at "call type:range") => `(tactic| (k_here; (with_reducible show wpAny _ _ (call (Value.type "range") [Value.int _ _, Value.int _ _]) _ _ _); k_dflt (refine' range2_N ?k1 ?k2 ?_; (case k1 => k_asm); (case k2 => k_asm); k_whole); intro r' h' tk' t2' F' N' l1; (try k_lt l1); (try k_sweep)))
local macro_rules | `(tactic| walk_at "CompSrc") => `(tactic| (k_here; refine stop_intro ?_))
local macro_rules | `(tactic| walk_at "CompEnd") => `(tactic| (k_here; refine stop_intro ?_))
local macro_rules | `(tactic| walk_at "eval ListComp") => `(tactic| (k_here; k_dflt (refine LCg.ListComp_U (F₀ := by k_asm) (by with_unfolding_all rfl) (by decide) (by rfl) (by decide) (by rfl) ?_)))
section
variable {cd : Value} {fa : Addr} {prog : Program} {w : World} {p : Program} {loose : List Str} {mean : ExcName → Option Value} {mg mb : Str → Option Value}
set_option maxRecDepth 100000
set_option maxHeartbeats 8000000
theorem law1_goal2 {tl : List Stmt} {A₀ : Around} {base h₀ h₁ : Heap} {outer : List Env} {L : Nat} {m : Str → Option Value} {w3 w4 : Obj} {t3 t4 : Tok} {few more kg : Nat} {gp : Addr} {gits : List Value} {gl : List (Int × Int)} {led : Led} {dp un tk : Nat} {gd : Option (List Code)} {s : Shared} {Q : Flow → Shared → Prop} {E : Value → Shared → Prop}
    (B : Below A₀ base outer h₀) (X : (KK w.params).In h₀) (T : Top p loose mean mg mb h₀) (F : Fr h₀ L h₁ m)
    (N : News h₀ L h₁ led) (c3 : (L + 1 + 1 + 1, w3) ∈ led) (c4 : (L + 1 + 1 + 1 + 1, w4) ∈ led) (hw3 : w3.data = .cell (some (.int (few : Int) t3))) (hw4 : w4.data = .cell (some (.int (more : Int) t4))) (hfm : few ≤ more) (hmn : more ≤ 12)
    (cg : (gp, listOf (List.toArray gits) kg) ∈ led) (hG : PairsIn led gits gl) (hgl : gl.length ≤ 24) (hm : m (Str.ofString "goals") = some (.ref gp))
    (hdp : dp + 250 < recursionLimit) (hun : un + 2500 < cLine)
    (next : ∀ led' gp gits kg m' h' tk', Fr h₀ L h' m' → News h₀ L h' led' → (∀ q ∈ led, q ∈ led') → (gp, listOf (List.toArray gits) kg) ∈ led' → PairsIn led' gits (gl ++ ((List.range few).map fun i : Nat => ((few : Int) - (1 + (i : Int)), (more : Int) - (1 + (i : Int))))) → m' (Str.ofString "goals") = some (.ref gp) → wpAny (model prog w) ((lawTop dp un gd outer).deeper (lawEnv cd fa L)) (execs tl (lawEnv cd fa L)) Q E { s with heap := h', toks := tk' }) :
    wpAny (model prog w) ((lawTop dp un gd outer).deeper (lawEnv cd fa L)) (execs (hGoal2 ++ tl) (lawEnv cd fa L)) Q E { s with heap := h₁, toks := tk } := by
  rw [knownL [(Str.ofString "goals", .ref gp)] (allP_cons hm allP_nil)] at F
  unfold hGoal2
  unfold lawEnv lawScope lit at *
  simp only [List.cons_append, List.nil_append]
  k_steps
  unfold Stop
  rename_i kF kN lA
  refine LCg.CompSrc.range rfl kF kN (kN _ (.head _)).1 (small_one (by omega) (by omega) (by omega) (by omega)) (n := few) (by rw [rangeSize_nat]; omega) (by rw [PySem.sizeLine_eq]; omega) ?_
  intro g'
  refine compRest_of (fun j ys nw => (∀ q ∈ led, q ∈ nw) ∧ PairsIn nw ys ((List.range j).map fun i : Nat => ((few : Int) - (1 + (i : Int)), (more : Int) - (1 + (i : Int))))) few ?_ ?_ _ 0 [] _ (by omega) ⟨fun q hq => .tail _ hq, .nil⟩
  · rintro j ys nw v I2 oI2 C oC D m₂ h3 tk3 E' hj ⟨hs, hY⟩ ⟨t, rfl⟩ hC hm2 F2 N2 off ne
    have n3 := hs _ c3
    have n4 := hs _ c4
    clear kF kN c3 c4 cg
    k_steps
    unfold Stop
    rename_i D' h' F' N' l1
    exact LCg.CompEnd.intro F' N' ((D', tup #[.int ((few : Int) - (1 + (j : Int))) _, .int ((more : Int) - (1 + (j : Int))) _] 0) :: nw) (mem_turn _ _ _ _) ⟨⟨Nat.ne_of_gt l1.1, Nat.ne_of_gt l1.2.1, Nat.ne_of_gt l1.2.2.1⟩, off⟩ trivial ⟨fun q hq => .tail _ (hs q hq), by rw [List.range_succ, List.map_append]; exact PairsIn.snoc (hY.mono fun q hq => .tail _ hq) (.head _)⟩
  · rintro ys nw ⟨hs, hY⟩
    unfold LCg.FinE
    intro D2 h4 tk4 F5 N5 off5
    have hl1 : ys.length ≤ 12 := by rw [hY.length, List.length_map, List.length_range]; omega
    have hl2 : gits.length ≤ 24 := by rw [hG.length]; exact hgl
    refine add_pairs F5 N5 (xs := gits) (ys := ys) (.tail _ (hs _ cg)) (.head _) (by omega) ?_
    intro D6 h6 F6 N6 l6
    clear kF kN c3 c4 F5 N5 lA
    k_lt l6
    k_steps
    (with_reducible rename Fr h₀ L _ _ => kF)
    (with_reducible rename News h₀ L _ _ => kN)
    exact next _ D6 (gits ++ ys) 0 _ _ _ kF kN (fun q hq => .tail _ (.tail _ (hs _ hq))) (.head _) (PairsIn.append (hG.mono fun q hq => .tail _ (.tail _ (hs _ hq))) (hY.mono fun q hq => .tail _ (.tail _ hq))) rfl
end
end Mine
end
section
open PySem PySem.Spec PySem.Calls PySem.W PyProof.Rows
namespace Mine
section
variable {prog : Program} {w : World} {A : Around} {E : Value → Shared → Prop} {s : Shared} {h₀ : Heap} {L a b k : Nat} {m : Str → Option Value} {news im : Led} {x y : Int} {t t' : Tok} {Q : Value → Shared → Prop}
theorem min_pair (hh : A.handled = none) (F : Fr h₀ L s.heap m) (N : News h₀ L s.heap news) (hm : (a, tup #[.int x t, .int y t'] k) ∈ news)
    (h : ∀ h' tk t2, Fr h₀ L h' m → News h₀ L h' news → Q (.int (min x y) t2) { s with heap := h', toks := tk }) : wpAny (model prog w) A (call (.builtin "min") [.ref a]) Q E s := by
  have hT : s.heap.IsTuple a (intItems #[(x, t), (y, t')]) := by have h0 : s.heap.IsTuple a #[.int x t, .int y t'] := News.isTup N hm; simpa [intItems] using h0
  have hlt : a < s.heap.objs.size := Heap.lt_size (N _ hm).1
  refine call_min_walk (wpAny_pyIter_tuple hT ?_)
  refine ⟨_, [_, a], [_], _, _, _, _, rfl, Walks.tuple (A := A.in1) hh _ a (Nat.ne_of_lt hlt) (intItems #[(x, t), (y, t')]),
    ⟨⟨_, Heap.get?_push_size _ rfl, rfl, rfl⟩, hT.push _⟩, fun c hc => ?_, by simp [intItems], CmpOf.ints_lt (numAt #[(x, t), (y, t')]) (fun _ _ => intItems_at), fun v h' tk hP hk => ?_⟩
  · show c < (s.heap.push _).objs.size
    rw [Heap.size_push]
    rcases List.mem_cons.mp hc with rfl | hc
    · exact Nat.lt_succ_self _
    · rcases List.mem_cons.mp hc with rfl | hc
      · exact Nat.lt_succ_of_lt hlt
      · cases hc
  · have hold : ∀ c o, s.heap.get? c = some o → h'.get? c = some o := fun c o e => by
      refine hk c o (fun hm => ?_) (Heap.get?_push_of_some _ e)
      rcases List.mem_cons.mp hm with e1 | hm
      · have := Heap.lt_size e; rw [e1] at this; exact Nat.lt_irrefl _ this
      · cases hm
    have hP' : (intItems #[(x, t), (y, t')])[argBest (fun i j => decide (numAt #[(x, t), (y, t')] i < numAt #[(x, t), (y, t')] j)) 1]? = some v := by
      have hsz2 : (intItems #[(x, t), (y, t')]).size - 1 = 1 := by simp [intItems]
      rw [← hsz2]; exact hP
    by_cases hba : y < x
    · have e : argBest (fun i j => decide (numAt #[(x, t), (y, t')] i < numAt #[(x, t), (y, t')] j)) 1 = 1 := by simp [argBest, numAt, hba]
      rw [e] at hP'
      have hv : v = .int y t' := by simpa [intItems] using hP'.symm
      have := h h' tk t' (F.grownK hold) (N.grown hold)
      rw [show min x y = y by omega] at this
      rw [hv]; exact this
    · have e : argBest (fun i j => decide (numAt #[(x, t), (y, t')] i < numAt #[(x, t), (y, t')] j)) 1 = 0 := by simp [argBest, numAt, hba]
      rw [e] at hP'
      have hv : v = .int x t := by simpa [intItems] using hP'.symm
      have := h h' tk t (F.grownK hold) (N.grown hold)
      rw [show min x y = x by omega] at this
      rw [hv]; exact this
theorem max_pair (hh : A.handled = none) (F : Fr h₀ L s.heap m) (N : News h₀ L s.heap news) (hm : (a, tup #[.int x t, .int y t'] k) ∈ news)
    (h : ∀ h' tk t2, Fr h₀ L h' m → News h₀ L h' news → Q (.int (max x y) t2) { s with heap := h', toks := tk }) : wpAny (model prog w) A (call (.builtin "max") [.ref a]) Q E s := by
  have hT : s.heap.IsTuple a (intItems #[(x, t), (y, t')]) := by have h0 : s.heap.IsTuple a #[.int x t, .int y t'] := News.isTup N hm; simpa [intItems] using h0
  have hlt : a < s.heap.objs.size := Heap.lt_size (N _ hm).1
  refine call_max_walk (wpAny_pyIter_tuple hT ?_)
  refine ⟨_, [_, a], [_], _, _, _, _, rfl, Walks.tuple (A := A.in1) hh _ a (Nat.ne_of_lt hlt) (intItems #[(x, t), (y, t')]),
    ⟨⟨_, Heap.get?_push_size _ rfl, rfl, rfl⟩, hT.push _⟩, fun c hc => ?_, by simp [intItems], CmpOf.ints_gt (numAt #[(x, t), (y, t')]) (fun _ _ => intItems_at), fun v h' tk hP hk => ?_⟩
  · show c < (s.heap.push _).objs.size
    rw [Heap.size_push]
    rcases List.mem_cons.mp hc with rfl | hc
    · exact Nat.lt_succ_self _
    · rcases List.mem_cons.mp hc with rfl | hc
      · exact Nat.lt_succ_of_lt hlt
      · cases hc
  · have hold : ∀ c o, s.heap.get? c = some o → h'.get? c = some o := fun c o e => by
      refine hk c o (fun hm => ?_) (Heap.get?_push_of_some _ e)
      rcases List.mem_cons.mp hm with e1 | hm
      · have := Heap.lt_size e; rw [e1] at this; exact Nat.lt_irrefl _ this
      · cases hm
    have hP' : (intItems #[(x, t), (y, t')])[argBest (fun i j => decide (numAt #[(x, t), (y, t')] i > numAt #[(x, t), (y, t')] j)) 1]? = some v := by
      have hsz2 : (intItems #[(x, t), (y, t')]).size - 1 = 1 := by simp [intItems]
      rw [← hsz2]; exact hP
    by_cases hba : y > x
    · have e : argBest (fun i j => decide (numAt #[(x, t), (y, t')] i > numAt #[(x, t), (y, t')] j)) 1 = 1 := by simp [argBest, numAt, hba]
      rw [e] at hP'
      have hv : v = .int y t' := by simpa [intItems] using hP'.symm
      have := h h' tk t' (F.grownK hold) (N.grown hold)
      rw [show max x y = y by omega] at this
      rw [hv]; exact this
    · have e : argBest (fun i j => decide (numAt #[(x, t), (y, t')] i > numAt #[(x, t), (y, t')] j)) 1 = 0 := by simp [argBest, numAt, hba]
      rw [e] at hP'
      have hv : v = .int x t := by simpa [intItems] using hP'.symm
      have := h h' tk t (F.grownK hold) (N.grown hold)
      rw [show max x y = x by omega] at this
      rw [hv]; exact this
noncomputable def inP (l : List (Int × Int)) (x y : Int) : Bool := l.any fun q => q.1 == x && q.2 == y
noncomputable def pairAt (h : Heap) (x y : Int) : Value → Bool
  | .ref c => match h.get? c with
    | some o => match o.data with
      | .seq arr _ => match arr.toList with
        | [.int X _, .int Y _] => X == x && Y == y
        | _ => false
      | _ => false
    | none => false
  | _ => false
theorem pairAt_is {h : Heap} {c : Addr} {X Y : Int} {u u' : Tok} {n : Nat} (e : h.get? c = some (tup #[.int X u, .int Y u'] n)) : pairAt h x y (.ref c) = (X == x && Y == y) := by
  unfold pairAt
  simp only [e]
theorem pairs_any {h : Heap} {cits : List Value} {cpl : List (Int × Int)} (hP : PairsIn im cits cpl) (hg : ∀ q ∈ im, h.get? q.1 = some q.2) : cits.any (pairAt h x y) = inP cpl x y := by
  induction hP with
  | nil => rfl
  | cons hm _ ih =>
    unfold inP at ih ⊢
    rw [List.any_cons, List.any_cons, ih, pairAt_is (hg _ hm)]
theorem in_pairs {kc : Nat} {cits : List Value} {cpl : List (Int × Int)} (N : News h₀ L s.heap news) (h1 : (a, tup #[.int x t, .int y t'] k) ∈ news) (h2 : (b, listOf cits.toArray kc) ∈ news) (hP : PairsIn im cits cpl) (him : ∀ q ∈ im, q ∈ news) (hne : ∀ q ∈ im, q.1 ≠ a) (hu : A.units + 2 < cLine) (h : Q (.bool (inP cpl x y)) s) :
    wpAny (model prog w) A (compareOp .In (.ref a) (.ref b)) Q E s := by
  refine PySem.SeqAt.in_listAt (pairAt s.heap x y) (News.isList N h2) (fun v hv => ?_) ?_
  · obtain ⟨i, hi⟩ := List.getElem?_of_mem (List.mem_toArray.mp hv)
    obtain ⟨c, X, Y, u, u', n, rfl, hma, _⟩ := hP.at hi
    rw [pairAt_is (N _ (him _ hma)).1]
    have e : (X == x && Y == y) = ((List.range (min (#[Value.int X u, Value.int Y u'] : Array Value).size (#[Value.int x t, Value.int y t'] : Array Value).size)).all (fun j => if j = 0 then X == x else Y == y) && (#[Value.int X u, Value.int Y u'] : Array Value).size == (#[Value.int x t, Value.int y t'] : Array Value).size) := by
      show _ = ((List.range 2).all _ && (2 == 2))
      simp [List.range_succ]
    rw [e]
    refine PySem.SeqAt.EqAt.of_refs (hne _ hma) (PySem.SeqAt.RcAt.tuples (News.isTup N (him _ hma)) (News.isTup N h1) (by show A.units + 1 < cLine; omega) ?_)
    intro j j1 j2
    match j with
    | 0 => exact PySem.SeqAt.EqAt.int_int X u x t
    | 1 => exact PySem.SeqAt.EqAt.int_int Y u' y t'
    | j + 2 => exact absurd j1 (by simp)
  · rw [List.any_toArray, pairs_any hP fun q hq => (N _ (him _ hq)).1]
    exact h
theorem bools_map {α : Type} (f : α → Bool) : ∀ l : List α, LSm.BoolsAre (l.map fun q => Value.bool (f q)) (l.map f)
  | [] => .nil
  | q :: l => .cons _ (bools_map f l)
end
end Mine
end
section
open PySem PySem.Spec PySem.Calls PySem.W PyProof.Rows
namespace Mine
local macro_rules | `(tactic| k_all) => `(tactic| assumption)
local macro_rules | `(tactic| k_mem) => `(tactic| first | assumption | (refine' List.mem_cons_of_mem _ ?_; k_mem))
local macro_rules | `(tactic| walk_at "call type:range") => `(tactic| (k_here; (with_reducible show wpAny _ _ (call (Value.type "range") [Value.int _ _, Value.int _ _]) _ _ _); k_dflt (refine' range2_N ?k1 ?k2 ?_; (case k1 => k_asm); (case k2 => k_asm); k_whole); intro r' h' tk' t2' F' N' l1; (try k_lt l1); (try k_sweep)))
local macro_rules | `(tactic| walk_at "CompSrc") => `(tactic| (k_here; refine stop_intro ?_))
local macro_rules | `(tactic| walk_at "CompEnd") => `(tactic| (k_here; refine stop_intro ?_))
local macro_rules | `(tactic| walk_at "call builtin:min") => `(tactic| (k_here; (with_reducible show wpAny _ _ (call (Value.builtin "min") [Value.ref _]) _ _ _); k_dflt (refine' min_pair rfl ?k1 ?k2 ?k3 ?_; (case k1 => k_asm); (case k2 => k_asm); (case k3 => k_mem)); intro h' tk' t2' F' N'; (try k_sweep)))
local macro_rules | `(tactic| walk_at "call builtin:max") => `(tactic| (k_here; (with_reducible show wpAny _ _ (call (Value.builtin "max") [Value.ref _]) _ _ _); k_dflt (refine' max_pair rfl ?k1 ?k2 ?k3 ?_; (case k1 => k_asm); (case k2 => k_asm); (case k3 => k_mem)); intro h' tk' t2' F' N'; (try k_sweep)))
local macro_rules | `(tactic| walk_at "compareOp In ref ref") => `(tactic| (k_here; refine stop_intro ?_))
local macro_rules | `(tactic| walk_at "eval ListComp") => `(tactic| (k_here; k_dflt (refine LCg.ListComp_U (F₀ := by k_asm) (by with_unfolding_all rfl) (by decide) (by rfl) (by decide) (by rfl) ?_)))
section
variable {cd : Value} {fa : Addr} {prog : Program} {w : World} {p : Program} {loose : List Str} {mean : ExcName → Option Value} {mg mb : Str → Option Value}
set_option maxRecDepth 100000
set_option maxHeartbeats 8000000
theorem law1_end {A₀ : Around} {base h₀ h₁ : Heap} {outer : List Env} {L : Nat} {m : Str → Option Value} {w2 w3 w4 : Obj} {t3 t4 : Tok} {few more kg kc : Nat} {gp cp : Addr} {gits cits : List Value} {gl cpl : List (Int × Int)} {led : Led} {dp un tk : Nat} {gd : Option (List Code)} {s : Shared} {Q : Flow → Shared → Prop} {E : Value → Shared → Prop}
    (B : Below A₀ base outer h₀) (X : (KK w.params).In h₀) (T : Top p loose mean mg mb h₀) (F : Fr h₀ L h₁ m)
    (N : News h₀ L h₁ led) (c3 : (L + 1 + 1 + 1, w3) ∈ led) (c4 : (L + 1 + 1 + 1 + 1, w4) ∈ led) (hw3 : w3.data = .cell (some (.int (few : Int) t3))) (hw4 : w4.data = .cell (some (.int (more : Int) t4))) (hfm : few ≤ more) (hmn : more ≤ 12)
    (cg : (gp, listOf (List.toArray gits) kg) ∈ led) (hG : PairsIn led gits gl) (hgl : gl.length ≤ 36) (hm : m (Str.ofString "goals") = some (.ref gp)) (c2 : (L + 1 + 1, w2) ∈ led) (hw2 : w2.data = .cell (some (.ref cp))) (cc : (cp, listOf (List.toArray cits) kc) ∈ led) (hC : PairsIn led cits cpl) (hcl : cpl.length ≤ 9)
    (hdp : dp + 250 < recursionLimit) (hun : un + 2500 < cLine) {ps : Array Value} (ct : ((448 : Nat), tabObj ps) ∈ led) (hv : (((gl.map fun q => inP cpl (min q.1 q.2) (max q.1 q.2)).any id) != inP cpl (few : Int) (more : Int)) = true)
    (ret : ∀ h' tk' m' ps' news', Fr h₀ L h' m' → News h₀ L h' (((448 : Addr), tabObj ps') :: news') → Q (.ret (.bool true)) { s with heap := h', toks := tk' }) :
    wpAny (model prog w) ((lawTop dp un gd outer).deeper (lawEnv cd fa L)) (execs hEnd (lawEnv cd fa L)) Q E { s with heap := h₁, toks := tk } := by
  rw [knownL [(Str.ofString "goals", .ref gp)] (allP_cons hm allP_nil)] at F
  unfold hEnd
  unfold lawEnv lawScope lit at *
  have hgi : gits.length ≤ 36 := by rw [hG.length]; exact hgl
  k_steps
  unfold Stop
  refine LCg.CompSrc.ledger (its := gits.toArray) rfl F N cg (by rw [PySem.sizeLine_eq, List.size_toArray]; omega) ?_
  intro g'
  refine compRest_of (fun j ys nw => (∀ q ∈ led, q ∈ nw) ∧ ys = (gl.take j).map fun q => Value.bool (inP cpl (min q.1 q.2) (max q.1 q.2))) gits.length ?_ ?_ _ 0 [] _ (by simp) ⟨fun q hq => hq, rfl⟩
  · rintro j ys nw v I2 oI2 C oC D m₂ h3 tk3 E' hj ⟨hs, hY⟩ hv hC' hm2 F2 N2 off ne
    obtain ⟨a, x, y, t, t', n', rfl, hma, hr⟩ := hG.at (by simpa using hv)
    have n2 := hs _ c2
    have nc := hs _ cc
    have na := hs _ hma
    have ng := hs _ cg
    clear F N c2 c3 c4 cg cc hma
    k_steps
    unfold Stop
    rename_i D' h' F' N' l1
    refine in_pairs N' (.head _) (.tail _ (.tail _ (.tail _ (.tail _ nc)))) hC (fun q hq => .tail _ (.tail _ (.tail _ (.tail _ (hs q hq))))) (fun q hq => Nat.ne_of_lt (allLt_mem l1.2.2.2 _ (hs q hq))) (by show un + 3 + 2 < cLine; omega) ?_
    exact LCg.CompEnd.intro F' N' nw (fun _ h => .tail _ h) off (.inr ⟨_, ng, rfl, _, rfl⟩) ⟨hs, by rw [take_map _ hr, hY]⟩
  · rintro ys nw ⟨hs, hY⟩
    unfold LCg.FinE
    intro D4 h4 tk4 F5 N5 off5
    have n2 := List.mem_cons_of_mem (D4, LCg.lst ys) (hs _ c2)
    have n3 := List.mem_cons_of_mem (D4, LCg.lst ys) (hs _ c3)
    have n4 := List.mem_cons_of_mem (D4, LCg.lst ys) (hs _ c4)
    have nc := List.mem_cons_of_mem (D4, LCg.lst ys) (hs _ cc)
    subst hY
    have hgl' : gits.length = gl.length := hG.length
    clear F N c2 c3 c4 cg cc
    have hl : h4.IsList D4 ((gl.take gits.length).map fun q => Value.bool (inP cpl (min q.1 q.2) (max q.1 q.2))).toArray := News.isList N5 (.head _)
    k_steps
    refine LSm.any_bools F5 N5 rfl hl (bools_map _ _) ?_
    intro h6 tk6 F6 N6
    clear F5 N5
    k_steps
    unfold Stop
    rename_i kF kN lA
    refine in_pairs kN (.head _) (.tail _ nc) hC (fun q hq => .tail _ (.tail _ (hs q hq))) (fun q hq => Nat.ne_of_lt (allLt_mem lA.2 _ (hs q hq))) (by show un + 3 + 2 < cLine; omega) ?_
    rw [hgl', List.take_length]
    clear hl
    k_steps
    rw [hv]
    have nt := hs _ ct
    exact ret _ _ _ ps nw kF (News.sub kN fun q hq => by
      rcases List.mem_cons.mp hq with rfl | hq
      · exact .tail _ (.tail _ nt)
      · exact .tail _ (.tail _ hq))
end
end Mine
end
section
open PySem PySem.Spec PySem.Calls PySem.W PyProof.Rows
namespace Mine
set_option maxRecDepth 100000
noncomputable def coldP (num : Nat) : List (Int × Int) := (0, 0) :: (PP num).filter fun q => decide (q.2 ≤ (num : Int))
noncomputable def goalsP (few more : Nat) : List (Int × Int) := (((List.range few).map fun i : Nat => ((few : Int) - (1 + (i : Int)), (more : Int))) ++ ((List.range more).map fun i : Nat => ((few : Int), (more : Int) - (1 + (i : Int))))) ++ ((List.range few).map fun i : Nat => ((few : Int) - (1 + (i : Int)), (more : Int) - (1 + (i : Int))))
noncomputable def endP (num few more : Nat) : Bool := (((goalsP few more).map fun q => inP (coldP num) (min q.1 q.2) (max q.1 q.2)).any id) != inP (coldP num) (few : Int) (more : Int)
theorem endP_ok : ((List.range 13).all fun num => (List.range (num + 1)).all fun more => (List.range (more + 1)).all fun few => endP num few more) = true := by decide +kernel
theorem endP_is {num few more : Nat} (hn : num ≤ 12) (hm : more ≤ num) (hf : few ≤ more) : endP num few more = true :=
  List.all_eq_true.mp (List.all_eq_true.mp (List.all_eq_true.mp endP_ok num (List.mem_range.mpr (by omega))) more (List.mem_range.mpr (by omega))) few (List.mem_range.mpr (by omega))
end Mine
end
section
open PySem PySem.Spec PySem.Calls PySem.W PyProof.Rows
namespace Mine
set_option maxRecDepth 100000
set_option maxHeartbeats 1000000
section
variable {cd : Value} {fa : Addr} {prog : Program} {w : World} {p : Program} {loose : List Str} {mean : ExcName → Option Value} {mg mb : Str → Option Value}
theorem law1_body {A₀ : Around} {base h₀ h₁ : Heap} {outer : List Env} {L sc : Nat} {m : Str → Option Value} {w1 w2 w3 w4 : Obj} {vs : List Value} {ns : List Int} {dp un tk : Nat} {gd : Option (List Code)} {s : Shared} {Q : Flow → Shared → Prop} {E : Value → Shared → Prop}
    (B : Below A₀ base outer h₀) (X : (KK w.params).In h₀) (T : Top p loose mean mg mb h₀) (F : Fr h₀ L h₁ m) (hm : ∀ y, m y = [(Str.ofString "script", Value.ref sc)].lookup y)
    (N : News h₀ L h₁ [((L + 1 + 1 + 1 + 1 : Nat), w4), ((L + 1 + 1 + 1 : Nat), w3), ((L + 1 + 1 : Nat), w2), ((L + 1 : Nat), w1), ((448 : Nat), tabObj #[])]) (hw1 : w1.data = .cell none) (hw2 : w2.data = .cell none) (hw3 : w3.data = .cell none) (hw4 : w4.data = .cell none) (hL : 448 < L) (hl : h₀.IsList sc vs.toArray) (hI : IntsAre vs ns) (hlen : ns.length ≤ 63)
    (hdp : dp + 250 < recursionLimit) (hun : un + 2500 < cLine)
    (hEE : PassesOwn (model prog w) ((lawTop dp un gd outer).deeper (lawEnv cd fa L)) (lawEnv cd fa L) E)
    (ret : ∀ h' tk' m' ps' news', Fr h₀ L h' m' → News h₀ L h' (((448 : Addr), tabObj ps') :: news') → Q (.ret (.bool true)) { s with heap := h', toks := tk' }) :
    wpAny (model prog w) ((lawTop dp un gd outer).deeper (lawEnv cd fa L)) (execs (hPre ++ (hInit ++ (hRows ++ (hPairs ++ (hCold ++ (hFew ++ (hGoals ++ (hGoal2 ++ hEnd)))))))) (lawEnv cd fa L)) Q E { s with heap := h₁, toks := tk } := by
  refine law1_pre (s := { s with toks := tk }) B X T F hm N hL hl hI hlen hdp hun ?_
  intro cl c0 c1 c2 t0 t1 t2 h1 tk1 m1 p0 p1 p2 F1 N1 hm1 hcl
  have hf0 := Int.fmod_nonneg_of_pos c0 (show (0 : Int) < 11 by decide)
  have hf1 := Int.fmod_lt_of_pos c0 (show (0 : Int) < 11 by decide)
  obtain ⟨num, hnum⟩ : ∃ num : Nat, 2 + c0.fmod 11 = (num : Int) := ⟨(2 + c0.fmod 11).toNat, by omega⟩
  have hn2 : 2 ≤ num := by omega
  have hn : num ≤ 12 := by omega
  refine law1_init (s := s) B X T F1 N1 hw1 hL hcl hm1 p0 p1 p2 hnum hdp hun ?_
  intro rl pl w1' tm tr m2 h2 tk2 hw1' hl1 hl2 F2 N2 hm2
  have g1 : L + 1 + 1 + 1 + 1 < rl := by omega
  refine law1_rows (s := s) (tr := tr) (w2 := w2) (w3 := w3) (w4 := w4) (led := [((cl : Nat), listOf #[.int c0 t0, .int c1 t1, .int c2 t2] 0)]) B X T F2 (News.sub N2 ?_) ?_ hw1' hL g1 hl2 hn hm2 hdp hun hEE ?_
  · intro q hq
    simp only [frA, tb, List.cons_append, List.nil_append, List.mem_cons, List.not_mem_nil, or_false] at hq ⊢
    rcases hq with h | h | h | h | h | h | h | h <;> simp [h]
  · intro f hf q hq
    rw [List.mem_singleton.mp hq]
    simp only [frA, tb, List.mem_cons, List.not_mem_nil, or_false] at hf
    show cl ≠ f.1
    rcases hf with h | h | h | h | h | h | h <;> rw [h] <;> (try dsimp only) <;> (first | exact Nat.ne_of_gt (by omega) | exact Nat.ne_of_lt (by omega))
  intro led3 ps3 its3 kr3 m3 h3 tk3 F3 N3 S3 i3 hR3 hm3
  refine law1_pairs (s := s) B X T F3 N3 S3 hw1' hL g1 hl2 hn2 hn hR3 hm3 hdp hun hEE ?_
  intro led4 pits4 kp4 m4 h4 tk4 F4 N4 S4 i4 hP4 hm4
  refine law1_cold (s := s) B X T F4 N4 S4 hw1' hw2 hL g1 hl2 hn hP4 hm4 hdp hun ?_
  intro led5 cp cits kc w2' h5 tk5 F5 N5 o3 o4 i5 cM c2' ct hw2' cc hC
  refine law1_few (s := s) (cl := cl) B X T F5 N5 o3 o4 hw1' hw3 hw4 cM (i5 _ (i4 _ (i3 _ (.head _)))) rfl hdp hun ?_
  intro few more w3' w4' t3 t4 h6 tk6 hfm hmn F6 N6 hw3' hw4'
  refine law1_goals (s := s) B X T F6 N6 (.head _) (.tail _ (.head _)) hw3' hw4' hfm (by omega) hdp hun ?_
  intro led7 gp gits kg m7 h7 tk7 F7 N7 i7 cg hG hm7
  refine law1_goal2 (s := s) B X T F7 N7 (i7 _ (.head _)) (i7 _ (.tail _ (.head _))) hw3' hw4' hfm (by omega) cg hG (by rw [List.length_append, List.length_map, List.length_map, List.length_range, List.length_range]; omega) hm7 hdp hun ?_
  intro led8 gp8 gits8 kg8 m8 h8 tk8 F8 N8 i8 cg8 hG8 hm8
  have j8 : ∀ q ∈ led5, q ∈ led8 := fun q hq => i8 _ (i7 _ (.tail _ (.tail _ hq)))
  exact law1_end (s := s) (cpl := coldP num) (gl := goalsP few more) B X T F8 N8 (i8 _ (i7 _ (.head _))) (i8 _ (i7 _ (.tail _ (.head _)))) hw3' hw4' hfm (by omega) cg8 hG8 (by show (_ ++ _ ++ _ : List (Int × Int)).length ≤ 36; rw [List.length_append, List.length_append, List.length_map, List.length_map, List.length_map, List.length_range, List.length_range]; omega) hm8 (j8 _ c2') hw2' (j8 _ cc) (hC.mono j8) (by show (List.filter _ (PP num)).length + 1 ≤ 9; exact Nat.succ_le_succ (Nat.le_trans (List.length_filter_le _ _) (List.length_filter_le _ PA))) hdp hun (j8 _ ct) (endP_is hn hmn hfm) ret
end
end Mine
end
section
open PySem PySem.Spec PySem.Calls PySem.W PyProof.Rows
namespace Mine
set_option maxRecDepth 100000
set_option maxHeartbeats 0
theorem bindL_one {k : Str → Option NameKind} {n : Str} {v : Value} (h : k n = some .local) (y : Str) : bindL k [(n, v)] (fun _ => none) y = [(n, v)].lookup y := by
  show bindL k [] (if k n = some .local then fun y => if y = n then some v else none else fun _ => none) y = _
  rw [if_pos h]
  show (if y = n then some v else none) = _
  rw [List.lookup_cons]
  by_cases e : y = n
  · subst e; simp
  · have e2 : (y == n) = false := by simpa using e
    rw [e2, if_neg e]; rfl
end Mine
set_option maxRecDepth 100000 in
set_option maxHeartbeats 0 in
open Mine in
theorem PySem.Challenge.cw_xm0956_01_holds : PySem.Challenge.rw_xm0956_01.Holds := by
  w_on
  refine holds_law hd_said fun said => ?_
  refine holds_open (q := vw) (loose := ls) (Xt := Xt0) (XP := XL vw []) (Yf := hk.obs) (Ya := hk.val) (YP := hk.says) (N := 6014) hd_left hk.of hk.keeps (fun s e => xl_of s (Bool.and_eq_true_iff.mp e).1) XL.keeps (by rfl) (by rfl) (by rfl) (fun s e => recFacts_of (Bool.and_eq_true_iff.mp e).2) (by first | rfl | fail "open_line: no head takes a call that writes beside a table") (by first | assumption | decide +kernel) hd_ok hd_bare ?hw ?_
  (case hw => w_witness2)
  w_strict k_go0
  (with_reducible rename Fr _ _ _ _ => kF)
  (with_reducible rename News _ _ _ _ => kN)
  (with_reducible rename Frag.In _ _ => kX)
  (rename Top topProg _ _ _ _ _ => kT)
  (with_reducible rename Below _ _ _ _ => kB)
  (with_reducible rename CodeHd _ _ _ => kC)
  (rename Heap.IsList (ghostOf _ _) _ _ => kL)
  (with_reducible rename IntsAre _ _ => kI)
  (with_reducible rename CellsAre _ _ _ => kCell)
  (with_reducible rename _ < Array.size _ => kLt)


  show wpAny _ ((lawTop 301 4 (some []) []).deeper (lawEnv _ _ _)) (execs (fB (stAt 61)) (lawEnv _ _ _)) _ _ _
  rw [law_body_eq]
  refine law1_body (dp := 301) (un := 4) (gd := some []) (outer := []) kB kX kT kF ?hm kN ?hw1 ?hw2 ?hw3 ?hw4 kLt kL kI ?hlen ?hdp ?hun ?hEE ?ret
  case hdp => decide
  case hun => rw [cLine_is]; decide
  case hlen =>
    rename ¬ (_ : Int) < _ => hc
    omega
  case hw1 => assumption
  case hw2 => assumption
  case hw3 => assumption
  case hw4 => assumption
  case hEE => first | passes_own | with_unfolding_all passes_own
  case hm =>
    exact fun y => bindL_one rfl y
  case ret =>
    intro h' tk' m' ps' news' F9 N9
    dsimp only
    refine ⟨?_, GrownAt.of N9 (.head _), trivial⟩
    wrow_close
end
